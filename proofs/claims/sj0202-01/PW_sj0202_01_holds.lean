import PyProof.Rows.All
import Wide.All
import OpenK.AllK
import Wide.FinOn
import PySem.Challenge.RW_sj0202_01
set_option Elab.async false
set_option maxRecDepth 100000
set_option linter.all false
namespace SJ
section
open PySem PySem.W PyProof.Rows
noncomputable section
abbrev pw : Program := PySem.Challenge.pw_sj0202_01
noncomputable def bd : List Stmt := behindTheImports pw
noncomputable def nth : List Stmt → Nat → Stmt
  | [], _ => .Pass ⟨0, 0, 0, 0⟩
  | s :: _, 0 => s
  | _ :: r, n + 1 => nth r n
noncomputable def st (i : Nat) : Stmt := nth bd i
noncomputable def mt (i j : Nat) : Stmt := match st i with
  | .ClassDef _ _ _ b _ _ _ _ _ _ _ => nth b j
  | s => s
noncomputable def fdc (s : Stmt) (qual : Str) (dV pm code : Value) (cl : List (Str × Addr)) (ct : Value) : FuncData := match s with
  | .FunctionDef n a b _ _ _ sc _ _ _ => { name := n, qualname := qual, params := a, body := .stmts b, scope := sc, globals := 3, closure := cl, defaults := dV, kwdefaults := .none, pyModule := pm, code := code, closureTuple := ct, builtins := 0 }
  | _ => default
noncomputable def fd (s : Stmt) (qual : Str) (dV pm code : Value) : FuncData := fdc s qual dV pm code [] .none
noncomputable def fd0 (s : Stmt) (qual : Str) : FuncData := match s with
  | .FunctionDef n a b _ _ _ sc _ _ _ => { name := n, qualname := qual, params := a, body := .stmts b, scope := sc, globals := 0, closure := [], defaults := .none, kwdefaults := .none }
  | _ => default
noncomputable def cd (n : Str) (bases mro : List Value) (ns : Addr) (subs : List Value) (hasDict abstract hasDel : Bool) : ClassData :=
  { name := n, bases := bases, mro := mro, ns := ns, qualname := n, hasDict := hasDict, subclasses := subs, abstract := abstract, hasDel := hasDel }
noncomputable def en (P : Params) (x : Str) (t : Tok) (v : Value) : DictEntry := ⟨PyData.keyHash P x, .str x t, v⟩
noncomputable abbrev lE (o : Obj) : BT := .node o .nil .nil
noncomputable abbrev oT (xs : List Value) : Obj := ⟨.type "tuple", none, .seq (.mk xs) 0, .mk []⟩
noncomputable abbrev oC (xs : List Value) : Obj := ⟨.type "code", none, .fields (.mk xs), .mk []⟩
noncomputable abbrev oF (xs : List Value) : Obj := ⟨.none, none, .fields (.mk xs), .mk []⟩
noncomputable abbrev oG (f : FuncData) : Obj := ⟨.none, none, .func f, .mk []⟩
noncomputable abbrev oU (f : FuncData) : Obj := ⟨.type "function", none, .func f, .mk []⟩
noncomputable def env : Env := { scope := pw.main.scope, locals := mainNs, globals := mainNs, cells := [], code := .ref 13, frame := some 14 }
noncomputable def cE : Code := .body bd env
noncomputable def B : List Frame := [topFrame ⟨0, 0, 0, 0⟩]
noncomputable def lf : Life := {}
noncomputable abbrev segY := PySem.W.Fast.tw10110043849684766642
theorem segY_eq : @segRunT = @segY := PySem.W.Fast.te10110043849684766642
noncomputable abbrev tabY := PySem.W.Fast.tw14364793385576792824
theorem tabY_eq : treeTable = tabY := PySem.W.Fast.te14364793385576792824
def o11 (P : Params) : Obj := oT []
def o12 (P : Params) : Obj := oF []
def o13 (P : Params) : Obj := oC [.str "<module>" 182, .str "<module>" 183, .str "/claim/cut.py" 184, .int 1 0, .int 0 0, .int 0 0, .int 0 0, .int 0 0, .ref 11, .bool false, .int 181 0, .ref 12, .none, .none, .none, .none, .int 185 0, .int 1 0, .str "/claim/cut.py" 186]
noncomputable def o14 (P : Params) : Obj := ⟨.type "frame", none, .plain, .mk [some (.ref 13), some (.ref 3), some (.ref 3), none, some (.str "__main__" 164), none, some (.ref 0)]⟩
def t0 (P : Params) : BT := .node (boot_o_0 P) (.node (boot_o_1 P) (.node (boot_o_3 P) (lE (boot_o_7 P)) (lE (o11 P))) (.node (boot_o_5 P) (lE (boot_o_9 P)) (lE (o13 P)))) (.node (boot_o_2 P) (.node (boot_o_4 P) (lE (boot_o_8 P)) (lE (o12 P))) (.node (boot_o_6 P) (lE (boot_o_10 P)) (lE (o14 P))))
def S0 (w : World) (os : OsState) : SharedT := ⟨t0 w.params, 15, lf, .mk [], boot_drawn, 187, os⟩
def e_o3 (P : Params) : List DictEntry := [en P "__name__" 165 (.str "law_sj0202_01" 1190), en P "__doc__" 166 (.none), en P "__package__" 167 (.none), en P "__loader__" 168 (.builtin "__main__.__loader__#opaque"), en P "__spec__" 169 (.none), en P "__annotations__" 170 (.ref 6), en P "__builtins__" 171 (.ref 4), en P "__file__" 173 (.str "/claim/cut.py" 172), en P "__cached__" 174 (.none), en P "ONE" 190 (.str "one" 189), en P "WAYS" 192 (.str "ways" 191), en P "SPLIT" 194 (.str "split" 193), en P "JUMP" 196 (.str "jump" 195), en P "MARK" 198 (.str "mark" 197), en P "NAME" 200 (.str "name" 199), en P "SET" 202 (.str "set" 201), en P "GAIN" 204 (.str "gain" 203), en P "PLACE" 206 (.str "place" 205), en P "ASK" 208 (.str "ask" 207), en P "FENCE" 210 (.str "fence" 209), en P "FAIL" 212 (.str "fail" 211), en P "ABORT" 214 (.str "abort" 213), en P "SUCCEED" 216 (.str "succeed" 215), en P "DONE" 218 (.str "done" 217), en P "PUT" 220 (.str "put" 219), en P "EMIT" 222 (.str "emit" 221), en P "OPEN" 224 (.str "open" 223), en P "SHUT" 226 (.str "shut" 225), en P "MEET" 228 (.str "meet" 227), en P "SINGLE" 240 (.ref 15), en P "ALONE" 245 (.ref 16), en P "row_of" 256 (.ref 23), en P "is_plain_text" 263 (.ref 30), en P "with_texts_joined" 272 (.ref 37), en P "PatternCode" 356 (.ref 94), en P "straightened" 366 (.ref 105), en P "compile_pattern" 374 (.ref 112), en P "SnobolError" 410 (.ref 132), en P "Failure" 430 (.ref 145), en P "Pattern" 459 (.ref 166), en P "Delayed" 488 (.ref 187), en P "NameRef" 521 (.ref 208), en P "is_fail" 528 (.ref 219), en P "fits" 536 (.ref 226), en P "whole_of_text" 547 (.ref 233), en P "text_of_whole" 556 (.ref 240), en P "to_whole" 564 (.ref 247), en P "to_text" 571 (.ref 254), en P "need_text" 579 (.ref 261), en P "COUNTED" 587 (.ref 262), en P "SIGNED" 592 (.ref 263), en P "WIDTH_OF_COUNT" 594 (.int 64 593), en P "plain_count" 604 (.ref 271), en P "plain_signs" 613 (.ref 278), en P "pattern_of" 621 (.ref 285), en P "is_delayed" 628 (.ref 292), en P "settled" 637 (.ref 299), en P "OPENING" 641 (.str "(" 640), en P "CLOSING" 643 (.str ")" 642), en P "chars_end" 653 (.ref 306), en P "len_end" 662 (.ref 313), en P "pos_end" 670 (.ref 320), en P "rpos_end" 679 (.ref 327), en P "tab_end" 688 (.ref 334), en P "rtab_end" 698 (.ref 341), en P "rem_end" 705 (.ref 348), en P "any_at" 714 (.ref 355), en P "notany_at" 723 (.ref 362), en P "run_end" 733 (.ref 369), en P "span_end" 743 (.ref 376), en P "break_end" 753 (.ref 383), en P "arb_ends" 761 (.ref 390), en P "bal_end" 770 (.ref 397), en P "bal_ends" 780 (.ref 404), en P "one_end" 790 (.ref 411), en P "plain_end" 799 (.ref 418), en P "ends_of" 810 (.ref 425), en P "MET" 814 (.int 0 813), en P "FAILED" 816 (.int 1 815), en P "OVER" 818 (.int 2 817), en P "Way" 865 (.ref 449), en P "Match" 980 (.ref 526), en P "named_rows" 989 (.ref 537), en P "match_orders" 1002 (.ref 544), en P "match_compiled" 1012 (.ref 551), en P "PlainHost" 1074 (.ref 589), en P "LOST" 1078 (.str "lost" 1077), en P "match_plain" 1090 (.ref 600), en P "match_at" 1101 (.ref 607), en P "tried" 1116 (.ref 614), en P "advanced" 1132 (.ref 621), en P "led_in" 1144 (.ref 628), en P "led_out" 1160 (.ref 635), en P "steered" 1172 (.ref 642), en P "taken" 1189 (.ref 649), en P "_law_take" 1199 (.ref 656), en P "_law_leaf" 1207 (.ref 663), en P "_law_drawn" 1217 (.ref 670), en P "_law_node" 1228 (.ref 677), en P "_law_is_even" 1237 (.ref 684), en P "_law_leaf_ends" 1243 (.ref 689), en P "_law_rounds" 1254 (.ref 696), en P "_law_told" 1260 (.ref 701), en P "law" 1266 (.ref 706)]
noncomputable def e_o12 (P : Params) : List Value := [.int 24 0, .int 0 0, .ref 22, .int 33 0, .int 0 0, .ref 29, .int 35 0, .int 0 0, .ref 36, .int 45 0, .int 0 0, .ref 43, .int 106 0, .int 0 0, .ref 104, .int 116 0, .int 0 0, .ref 111, .int 122 0, .int 0 0, .ref 119, .int 128 0, .int 0 0, .ref 141, .int 130 0, .int 0 0, .ref 155, .int 134 0, .int 0 0, .ref 176, .int 138 0, .int 0 0, .ref 197, .int 144 0, .int 0 0, .ref 218, .int 146 0, .int 0 0, .ref 225, .int 148 0, .int 0 0, .ref 232, .int 161 0, .int 0 0, .ref 239, .int 167 0, .int 0 0, .ref 246, .int 171 0, .int 0 0, .ref 253, .int 175 0, .int 0 0, .ref 260, .int 184 0, .int 0 0, .ref 270, .int 191 0, .int 0 0, .ref 277, .int 196 0, .int 0 0, .ref 284, .int 205 0, .int 0 0, .ref 291, .int 207 0, .int 0 0, .ref 298, .int 219 0, .int 0 0, .ref 305, .int 222 0, .int 0 0, .ref 312, .int 224 0, .int 0 0, .ref 319, .int 226 0, .int 0 0, .ref 326, .int 228 0, .int 0 0, .ref 333, .int 230 0, .int 0 0, .ref 340, .int 233 0, .int 0 0, .ref 347, .int 235 0, .int 0 0, .ref 354, .int 237 0, .int 0 0, .ref 361, .int 239 0, .int 0 0, .ref 368, .int 243 0, .int 0 0, .ref 375, .int 246 0, .int 0 0, .ref 382, .int 249 0, .int 0 0, .ref 389, .int 251 0, .int 0 0, .ref 396, .int 264 0, .int 0 0, .ref 403, .int 270 0, .int 0 0, .ref 410, .int 290 0, .int 0 0, .ref 417, .int 292 0, .int 0 0, .ref 424, .int 305 0, .int 0 0, .ref 431, .int 317 0, .int 0 0, .ref 459, .int 425 0, .int 0 0, .ref 536, .int 432 0, .int 0 0, .ref 543, .int 440 0, .int 0 0, .ref 550, .int 443 0, .int 0 0, .ref 557, .int 471 0, .int 0 0, .ref 599, .int 477 0, .int 0 0, .ref 606, .int 480 0, .int 0 0, .ref 613, .int 498 0, .int 0 0, .ref 620, .int 513 0, .int 0 0, .ref 627, .int 524 0, .int 0 0, .ref 634, .int 531 0, .int 0 0, .ref 641, .int 539 0, .int 0 0, .ref 648, .int 556 0, .int 0 0, .ref 655, .int 561 0, .int 0 0, .ref 662, .int 568 0, .int 0 0, .ref 669, .int 578 0, .int 0 0, .ref 676, .int 586 0, .int 0 0, .ref 683, .int 593 0, .int 0 0, .ref 688, .int 606 0, .int 0 0, .ref 695, .int 614 0, .int 0 0, .ref 700, .int 630 0, .int 0 0, .ref 705]
def o15 (P : Params) : Obj := oT [.str "chars" 229, .str "len" 230, .str "pos" 231, .str "rpos" 232, .str "tab" 233, .str "rtab" 234, .str "any" 235, .str "notany" 236, .str "span" 237, .str "break" 238, .str "rem" 239]
def o16 (P : Params) : Obj := oT [.str "fence" 241, .str "fail" 242, .str "abort" 243, .str "succeed" 244]
def o19 : Obj := oT [.str "node" 249, .str "kind" 250, .str "found" 251, .str "waiting" 252, .str "part" 253]
def o21 : Obj := oG (fd0 (st 23) "row_of")
def o22 (P : Params) : Obj := oC [.str "row_of" 246, .str "row_of" 247, .str "/claim/cut.py" 248, .int 24 0, .int 2 0, .int 0 0, .int 0 0, .int 3 0, .ref 17, .bool true, .int 181 0, .ref 18, .none, .ref 19, .ref 20, .ref 21, .int 254 0, .int 24 0, .str "/claim/cut.py" 255]
def o23 (P : Params) : Obj := oU (fd (st 23) "row_of" (.none) (.str "snobol.compile_pattern" 187) (.ref 22))
def o26 : Obj := oT [.str "node" 260]
def o28 : Obj := oG (fd0 (st 24) "is_plain_text")
def o29 (P : Params) : Obj := oC [.str "is_plain_text" 257, .str "is_plain_text" 258, .str "/claim/cut.py" 259, .int 33 0, .int 1 0, .int 0 0, .int 0 0, .int 3 0, .ref 24, .bool true, .int 181 0, .ref 25, .none, .ref 26, .ref 27, .ref 28, .int 261 0, .int 33 0, .str "/claim/cut.py" 262]
def o30 (P : Params) : Obj := oU (fd (st 24) "is_plain_text" (.none) (.str "snobol.compile_pattern" 187) (.ref 29))
def o33 : Obj := oT [.str "parts" 267, .str "found" 268, .str "part" 269]
def o35 : Obj := oG (fd0 (st 25) "with_texts_joined")
def o36 (P : Params) : Obj := oC [.str "with_texts_joined" 264, .str "with_texts_joined" 265, .str "/claim/cut.py" 266, .int 35 0, .int 1 0, .int 0 0, .int 0 0, .int 3 0, .ref 31, .bool true, .int 181 0, .ref 32, .none, .ref 33, .ref 34, .ref 35, .int 270 0, .int 35 0, .str "/claim/cut.py" 271]
def o37 (P : Params) : Obj := oU (fd (st 25) "with_texts_joined" (.none) (.str "snobol.compile_pattern" 187) (.ref 36))
def t1 (P : Params) : BT := .node (boot_o_0 P) (.node (boot_o_1 P) (.node (⟨.type "dict", none, .dict (.mk (en P "__name__" 165 (.str "snobol.compile_pattern" 187) :: ((e_o3 P).take 34).tail)) 34, .mk []⟩) (.node (boot_o_7 P) (.node (o15 P) (lE (o11 P)) .nil) (lE (o23 P))) (.node (o11 P) (.node o19 (lE o35) .nil) (lE (o11 P)))) (.node (boot_o_5 P) (.node (boot_o_9 P) (.node (o11 P) (lE o33) .nil) (lE (o12 P))) (.node (o13 P) (.node o21 (lE (o37 P)) .nil) (lE (o29 P))))) (.node (boot_o_2 P) (.node (boot_o_4 P) (.node (boot_o_8 P) (.node (o16 P) (lE (o12 P)) .nil) (lE (o11 P))) (.node (⟨.none, none, .fields (.mk ((e_o12 P).take 9)), .mk []⟩) (.node (o11 P) (lE (o36 P)) .nil) (lE o28))) (.node (boot_o_6 P) (.node (boot_o_10 P) (.node (o12 P) (lE (o11 P)) .nil) (lE o26)) (.node (o14 P) (lE (o22 P)) (lE (o30 P)))))
def S1 (w : World) (os : OsState) : SharedT := ⟨t1 w.params, 38, lf, .mk [], boot_drawn, 273, os⟩
noncomputable def o39 : Obj := ⟨.type "builtin_function_or_method", none, .fields (.mk [.builtin "type.__prepare__", .type "type"]), .mk []⟩
def o40 (P : Params) : Obj := ⟨.type "dict", none, .dict (.mk [en P "__module__" 280 (.str "snobol.compile_pattern" 187), en P "__qualname__" 282 (.str "PatternCode" 281), en P "__firstlineno__" 284 (.int 45 283), en P "__init__" 291 (.ref 51), en P "emit" 299 (.ref 58), en P "put" 310 (.ref 65), en P "begun" 316 (.ref 70), en P "choice" 327 (.ref 77), en P "repeat" 337 (.ref 84), en P "bound" 347 (.ref 91), en P "__static_attributes__" 349 (.ref 92)]) 11, .mk []⟩
def o42 : Obj := oF [.int 47 0, .int 4 0, .ref 50, .int 50 0, .int 4 0, .ref 57, .int 54 0, .int 4 0, .ref 64, .int 65 0, .int 4 0, .ref 69, .int 84 0, .int 4 0, .ref 76, .int 90 0, .int 4 0, .ref 83, .int 97 0, .int 4 0, .ref 90]
def o43 : Obj := oC [.str "PatternCode" 275, .str "PatternCode" 276, .str "/claim/cut.py" 277, .int 45 0, .int 0 0, .int 0 0, .int 0 0, .int 0 0, .ref 41, .bool false, .int 181 0, .ref 42, .none, .none, .none, .none, .int 278 0, .int 45 0, .str "/claim/cut.py" 279]
noncomputable def o44 : Obj := ⟨.type "frame", none, .plain, .mk [some (.ref 43), some (.ref 3), some (.ref 40), none, some (.str "snobol.compile_pattern" 187), none, some (.ref 0)]⟩
def o47 : Obj := oT [.str "self" 288]
def o49 : Obj := oG (fd0 (mt 26 0) "PatternCode.__init__")
def o50 (P : Params) : Obj := oC [.str "__init__" 285, .str "PatternCode.__init__" 286, .str "/claim/cut.py" 287, .int 47 0, .int 1 0, .int 0 0, .int 0 0, .int 3 0, .ref 45, .bool true, .int 181 0, .ref 46, .none, .ref 47, .ref 48, .ref 49, .int 289 0, .int 47 0, .str "/claim/cut.py" 290]
def o51 (P : Params) : Obj := oU (fd (mt 26 0) "PatternCode.__init__" (.none) (.str "snobol.compile_pattern" 187) (.ref 50))
def o54 : Obj := oT [.str "self" 295, .str "order" 296]
def o56 : Obj := oG (fd0 (mt 26 1) "PatternCode.emit")
def o57 (P : Params) : Obj := oC [.str "emit" 292, .str "PatternCode.emit" 293, .str "/claim/cut.py" 294, .int 50 0, .int 2 0, .int 0 0, .int 0 0, .int 3 0, .ref 52, .bool true, .int 181 0, .ref 53, .none, .ref 54, .ref 55, .ref 56, .int 297 0, .int 50 0, .str "/claim/cut.py" 298]
def o58 (P : Params) : Obj := oU (fd (mt 26 1) "PatternCode.emit" (.none) (.str "snobol.compile_pattern" 187) (.ref 57))
def o61 : Obj := oT [.str "self" 303, .str "node" 304, .str "waiting" 305, .str "word" 306, .str "told" 307]
def o63 : Obj := oG (fd0 (mt 26 2) "PatternCode.put")
def o64 (P : Params) : Obj := oC [.str "put" 300, .str "PatternCode.put" 301, .str "/claim/cut.py" 302, .int 54 0, .int 2 0, .int 0 0, .int 0 0, .int 3 0, .ref 59, .bool true, .int 181 0, .ref 60, .none, .ref 61, .ref 62, .ref 63, .int 308 0, .int 54 0, .str "/claim/cut.py" 309]
def o65 (P : Params) : Obj := oU (fd (mt 26 2) "PatternCode.put" (.none) (.str "snobol.compile_pattern" 187) (.ref 64))
def o68 : Obj := oG (fd0 (mt 26 3) "PatternCode.begun")
def o69 (P : Params) : Obj := oC [.str "begun" 311, .str "PatternCode.begun" 312, .str "/claim/cut.py" 313, .int 65 0, .int 2 0, .int 0 0, .int 0 0, .int 3 0, .ref 66, .bool true, .int 181 0, .ref 67, .none, .none, .none, .ref 68, .int 314 0, .int 65 0, .str "/claim/cut.py" 315]
def o70 (P : Params) : Obj := oU (fd (mt 26 3) "PatternCode.begun" (.none) (.str "snobol.compile_pattern" 187) (.ref 69))
def o73 : Obj := oT [.str "self" 320, .str "parts" 321, .str "found" 322, .str "ends" 323, .str "part" 324]
def o75 : Obj := oG (fd0 (mt 26 4) "PatternCode.choice")
def o76 (P : Params) : Obj := oC [.str "choice" 317, .str "PatternCode.choice" 318, .str "/claim/cut.py" 319, .int 84 0, .int 2 0, .int 0 0, .int 0 0, .int 3 0, .ref 71, .bool true, .int 181 0, .ref 72, .none, .ref 73, .ref 74, .ref 75, .int 325 0, .int 84 0, .str "/claim/cut.py" 326]
def o77 (P : Params) : Obj := oU (fd (mt 26 4) "PatternCode.choice" (.none) (.str "snobol.compile_pattern" 187) (.ref 76))
def o80 : Obj := oT [.str "self" 331, .str "node" 332, .str "split" 333, .str "leave" 334]
def o82 : Obj := oG (fd0 (mt 26 5) "PatternCode.repeat")
def o83 (P : Params) : Obj := oC [.str "repeat" 328, .str "PatternCode.repeat" 329, .str "/claim/cut.py" 330, .int 90 0, .int 2 0, .int 0 0, .int 0 0, .int 3 0, .ref 78, .bool true, .int 181 0, .ref 79, .none, .ref 80, .ref 81, .ref 82, .int 335 0, .int 90 0, .str "/claim/cut.py" 336]
def o84 (P : Params) : Obj := oU (fd (mt 26 5) "PatternCode.repeat" (.none) (.str "snobol.compile_pattern" 187) (.ref 83))
def o87 : Obj := oT [.str "self" 341, .str "word" 342, .str "ends" 343, .str "at" 344]
def o89 : Obj := oG (fd0 (mt 26 6) "PatternCode.bound")
def o90 (P : Params) : Obj := oC [.str "bound" 338, .str "PatternCode.bound" 339, .str "/claim/cut.py" 340, .int 97 0, .int 3 0, .int 0 0, .int 0 0, .int 3 0, .ref 85, .bool true, .int 181 0, .ref 86, .none, .ref 87, .ref 88, .ref 89, .int 345 0, .int 97 0, .str "/claim/cut.py" 346]
def o91 (P : Params) : Obj := oU (fd (mt 26 6) "PatternCode.bound" (.none) (.str "snobol.compile_pattern" 187) (.ref 90))
def o92 : Obj := oT [.str "orders" 348]
def o93 (P : Params) : Obj := ⟨.type "dict", none, .dict (.mk [en P "__module__" 280 (.str "snobol.compile_pattern" 187), en P "__firstlineno__" 284 (.int 45 283), en P "__init__" 291 (.ref 51), en P "emit" 299 (.ref 58), en P "put" 310 (.ref 65), en P "begun" 316 (.ref 70), en P "choice" 327 (.ref 77), en P "repeat" 337 (.ref 84), en P "bound" 347 (.ref 91), en P "__static_attributes__" 349 (.ref 92), en P "__dict__" 351 (.ref 95), en P "__weakref__" 353 (.ref 96), en P "__doc__" 354 (.none)]) 4, .mk []⟩
def o94 (P : Params) : Obj := ⟨.type "type", none, .cls (cd "PatternCode" [.type "object"] [.ref 94, .type "object"] 93 [] true false false), .mk [none, none, some (.str "PatternCode" 273), some (.str "PatternCode" 281), some (.builtin "object.__new__"), some (.bool true)]⟩
noncomputable def o95 : Obj := ⟨.type "getset_descriptor", none, .fields (.mk [.str "__dict__" 350, .ref 94, .builtin "function.__dict__", .builtin "function.__dict__#set"]), .mk []⟩
noncomputable def o96 : Obj := ⟨.type "getset_descriptor", none, .fields (.mk [.str "__weakref__" 352, .ref 94, .builtin "ExceptionGroup.__weakref__", .none]), .mk []⟩
noncomputable def o97 : Obj := ⟨.type "super", none, .fields (.mk [.ref 94, .ref 94, .ref 94]), .mk []⟩
noncomputable def o98 : Obj := ⟨.type "builtin_function_or_method", none, .fields (.mk [.builtin "object.__init_subclass__", .ref 94]), .mk []⟩
def t2 (P : Params) : BT := .node (boot_o_0 P) (.node (boot_o_1 P) (.node (⟨.type "dict", none, .dict (.mk (en P "__name__" 165 (.str "snobol.compile_pattern" 187) :: ((e_o3 P).take 35).tail)) 35, .mk []⟩) (.node (boot_o_7 P) (.node (o15 P) (.node (o11 P) (lE o63) (lE o95)) (.node o47 (lE (o12 P)) .nil)) (.node (o23 P) (.node o39 (lE (o11 P)) .nil) (.node (o11 P) (lE o87) .nil))) (.node (o11 P) (.node o19 (.node o35 (lE (o12 P)) .nil) (.node (o51 P) (lE (o83 P)) .nil)) (.node (o11 P) (.node o43 (lE o75) .nil) (.node (o11 P) (lE (o91 P)) .nil)))) (.node (boot_o_5 P) (.node (boot_o_9 P) (.node (o11 P) (.node o33 (lE (o65 P)) (lE o97)) (.node o49 (lE (o11 P)) .nil)) (.node (o12 P) (.node (o11 P) (lE o73) .nil) (.node (o57 P) (lE o89) .nil))) (.node (o13 P) (.node o21 (.node (o37 P) (lE (o69 P)) .nil) (.node (o12 P) (lE (o11 P)) .nil)) (.node (o29 P) (.node (o11 P) (lE (o77 P)) .nil) (.node o61 (lE (o93 P)) .nil))))) (.node (boot_o_2 P) (.node (boot_o_4 P) (.node (boot_o_8 P) (.node (o16 P) (.node (o12 P) (lE (o64 P)) (lE o96)) (.node (o11 P) (lE o80) .nil)) (.node (o11 P) (.node (o40 P) (lE (o12 P)) .nil) (.node o56 (lE (o11 P)) .nil))) (.node (⟨.none, none, .fields (.mk ((e_o12 P).take 12)), .mk []⟩) (.node (o11 P) (.node (o36 P) (lE o68) .nil) (.node (o11 P) (lE (o84 P)) .nil)) (.node o28 (.node o44 (lE (o76 P)) .nil) (.node (o12 P) (lE o92) .nil)))) (.node (boot_o_6 P) (.node (boot_o_10 P) (.node (o12 P) (.node (o11 P) (lE (o11 P)) (lE o98)) (.node (o50 P) (lE o82) .nil)) (.node o26 (.node o42 (lE (o11 P)) .nil) (.node (o58 P) (lE (o90 P)) .nil))) (.node (o14 P) (.node (o22 P) (.node (o11 P) (lE (o70 P)) .nil) (.node o54 (lE (o12 P)) .nil)) (.node (o30 P) (.node (o12 P) (lE (o11 P)) .nil) (.node (o11 P) (lE (o94 P)) .nil)))))
def S2 (w : World) (os : OsState) : SharedT := ⟨t2 w.params, 99, lf, .mk [], boot_drawn, 357, os⟩
def o2_3 (P : Params) : Obj := ⟨.none, none, .dict (.mk [en P "type.__subclasses__.Exception.0" 407 (.int 132 0), en P "type.__subclasses__.Exception.n" 408 (.int 1 0)]) 2, .mk []⟩
def o101 : Obj := oT [.str "orders" 360, .str "found" 361, .str "order" 362, .str "goal" 363]
def o103 : Obj := oG (fd0 (st 27) "straightened")
def o104 (P : Params) : Obj := oC [.str "straightened" 357, .str "straightened" 358, .str "/claim/cut.py" 359, .int 106 0, .int 1 0, .int 0 0, .int 0 0, .int 3 0, .ref 99, .bool true, .int 181 0, .ref 100, .none, .ref 101, .ref 102, .ref 103, .int 364 0, .int 106 0, .str "/claim/cut.py" 365]
def o105 (P : Params) : Obj := oU (fd (st 27) "straightened" (.none) (.str "snobol.compile_pattern" 187) (.ref 104))
def o108 : Obj := oT [.str "node" 370, .str "code" 371]
def o110 : Obj := oG (fd0 (st 28) "compile_pattern")
def o111 (P : Params) : Obj := oC [.str "compile_pattern" 367, .str "compile_pattern" 368, .str "/claim/cut.py" 369, .int 116 0, .int 1 0, .int 0 0, .int 0 0, .int 3 0, .ref 106, .bool true, .int 181 0, .ref 107, .none, .ref 108, .ref 109, .ref 110, .int 372 0, .int 116 0, .str "/claim/cut.py" 373]
def o112 (P : Params) : Obj := oU (fd (st 28) "compile_pattern" (.none) (.str "snobol.compile_pattern" 187) (.ref 111))
def o113 : Obj := oT [.type "Exception"]
def o115 (P : Params) : Obj := ⟨.type "dict", none, .dict (.mk [en P "__module__" 384 (.str "snobol.values" 375), en P "__qualname__" 386 (.str "SnobolError" 385), en P "__firstlineno__" 388 (.int 122 387), en P "__init__" 399 (.ref 129), en P "__static_attributes__" 402 (.ref 130), en P "__classcell__" 403 (.ref 116)]) 6, .mk []⟩
noncomputable def o116 : Obj := ⟨.type "cell", none, .cell (some (.ref 132)), .mk []⟩
def o118 : Obj := oF [.int 124 0, .int 4 0, .ref 128]
def o119 : Obj := oC [.str "SnobolError" 379, .str "SnobolError" 380, .str "/claim/cut.py" 381, .int 122 0, .int 0 0, .int 0 0, .int 0 0, .int 0 0, .ref 117, .bool false, .int 181 0, .ref 118, .none, .none, .none, .none, .int 382 0, .int 122 0, .str "/claim/cut.py" 383]
noncomputable def o120 : Obj := ⟨.type "frame", none, .plain, .mk [some (.ref 119), some (.ref 3), some (.ref 115), none, some (.str "snobol.values" 375), none, some (.ref 0)]⟩
def o121 : Obj := oT [.str "" 389]
def o122 : Obj := oT [.ref 116]
def o123 : Obj := oT [.str "__class__" 393]
def o125 : Obj := oT [.str "self" 394, .str "number" 395, .str "told" 396]
def o127 : Obj := oG (fd0 (mt 30 0) "SnobolError.__init__")
def o128 : Obj := oC [.str "__init__" 390, .str "SnobolError.__init__" 391, .str "/claim/cut.py" 392, .int 124 0, .int 3 0, .int 0 0, .int 0 0, .int 3 0, .ref 123, .bool true, .int 181 0, .ref 124, .none, .ref 125, .ref 126, .ref 127, .int 397 0, .int 124 0, .str "/claim/cut.py" 398]
def o129 : Obj := oU (fdc (mt 30 0) "SnobolError.__init__" (.ref 121) (.str "snobol.values" 375) (.ref 128) [("__class__", 116)] (.ref 122))
def o130 : Obj := oT [.str "number" 400, .str "told" 401]
def o131 (P : Params) : Obj := ⟨.type "dict", none, .dict (.mk [en P "__module__" 384 (.str "snobol.values" 375), en P "__firstlineno__" 388 (.int 122 387), en P "__init__" 399 (.ref 129), en P "__static_attributes__" 402 (.ref 130), en P "__weakref__" 405 (.ref 133), en P "__doc__" 406 (.none)]) 4, .mk []⟩
def o132 : Obj := ⟨.type "type", none, .cls (cd "SnobolError" [.type "Exception"] [.ref 132, .type "Exception", .type "BaseException", .type "object"] 131 [] true false false), .mk [some (.ref 113), none, some (.str "SnobolError" 377), some (.str "SnobolError" 385), some (.builtin "Exception.__new__"), some (.bool true)]⟩
noncomputable def o133 : Obj := ⟨.type "getset_descriptor", none, .fields (.mk [.str "__weakref__" 404, .ref 132, .builtin "ExceptionGroup.__weakref__", .none]), .mk []⟩
noncomputable def o134 : Obj := ⟨.type "super", none, .fields (.mk [.ref 132, .ref 132, .ref 132]), .mk []⟩
noncomputable def o135 : Obj := ⟨.type "builtin_function_or_method", none, .fields (.mk [.builtin "object.__init_subclass__", .ref 132]), .mk []⟩
def u0 : BT := .node o63 (lE o127) .nil
def u1 (P : Params) : BT := .node (o11 P) (lE o135) .nil
def u2 (P : Params) : BT := .node (o12 P) (lE (o131 P)) .nil
def u3 (P : Params) : BT := .node (o65 P) (lE o129) .nil
def u4 (P : Params) : BT := .node (o69 P) (lE o133) .nil
def u5 (P : Params) : BT := .node (o64 P) (lE o128) .nil
def u6 : BT := .node o68 (lE o132) .nil
def u7 (P : Params) : BT := .node (o11 P) (lE o130) .nil
def u8 (P : Params) : BT := .node (o70 P) (lE o134) .nil
def t3 (P : Params) : BT := .node (boot_o_0 P) (.node (boot_o_1 P) (.node (⟨.type "dict", none, .dict (.mk (en P "__name__" 165 (.str "snobol.values" 375) :: ((e_o3 P).take 38).tail)) 38, .mk []⟩) (.node (boot_o_7 P) (.node (o15 P) (.node (o11 P) u0 (lE o95)) (.node o47 (lE (o12 P)) (lE (o111 P)))) (.node (o23 P) (.node o39 (u1 P) (lE o103)) (.node (o11 P) (lE o87) (lE o119)))) (.node (o11 P) (.node o19 (.node o35 (u2 P) (lE (o11 P))) (.node (o51 P) (lE (o83 P)) (lE (o115 P)))) (.node (o11 P) (.node o43 (lE o75) (lE (o12 P))) (.node (o11 P) (lE (o91 P)) (lE o123))))) (.node (boot_o_5 P) (.node (boot_o_9 P) (.node (o11 P) (.node o33 (u3 P) (lE o97)) (.node o49 (lE (o11 P)) (lE o113))) (.node (o12 P) (.node (o11 P) (lE o73) (lE (o105 P))) (.node (o57 P) (lE o89) (lE o121)))) (.node (o13 P) (.node o21 (.node (o37 P) (u4 P) (lE o101)) (.node (o12 P) (lE (o11 P)) (lE (o11 P)))) (.node (o29 P) (.node (o11 P) (lE (o77 P)) (lE (o11 P))) (.node o61 (lE (o93 P)) (lE o125)))))) (.node (o2_3 P) (.node (boot_o_4 P) (.node (boot_o_8 P) (.node (o16 P) (.node (o12 P) (u5 P) (lE o96)) (.node (o11 P) (lE o80) (lE (o112 P)))) (.node (o11 P) (.node (o40 P) (lE (o12 P)) (lE (o104 P))) (.node o56 (lE (o11 P)) (lE o120)))) (.node (⟨.none, none, .fields (.mk ((e_o12 P).take 21)), .mk []⟩) (.node (o11 P) (.node (o36 P) u6 (lE (o12 P))) (.node (o11 P) (lE (o84 P)) (lE o116))) (.node o28 (.node o44 (lE (o76 P)) (lE o108)) (.node (o12 P) (lE o92) (lE (o12 P)))))) (.node (boot_o_6 P) (.node (boot_o_10 P) (.node (o12 P) (.node (o11 P) (u7 P) (lE o98)) (.node (o50 P) (lE o82) (lE o39))) (.node o26 (.node o42 (lE (o11 P)) (lE (o11 P))) (.node (o58 P) (lE (o90 P)) (lE o122)))) (.node (o14 P) (.node (o22 P) (.node (o11 P) (u8 P) (lE (o11 P))) (.node o54 (lE (o12 P)) (lE o118))) (.node (o30 P) (.node (o12 P) (lE (o11 P)) (lE o110)) (.node (o11 P) (lE (o94 P)) (lE (o11 P)))))))
def S3 (w : World) (os : OsState) : SharedT := ⟨t3 w.params, 136, lf, .mk [], boot_drawn, 411, os⟩
def o138 (P : Params) : Obj := ⟨.type "dict", none, .dict (.mk [en P "__module__" 418 (.str "snobol.values" 375), en P "__qualname__" 420 (.str "Failure" 419), en P "__firstlineno__" 422 (.int 128 421), en P "__static_attributes__" 423 (.ref 143)]) 4, .mk []⟩
def o141 : Obj := oC [.str "Failure" 413, .str "Failure" 414, .str "/claim/cut.py" 415, .int 128 0, .int 0 0, .int 0 0, .int 0 0, .int 0 0, .ref 139, .bool false, .int 181 0, .ref 140, .none, .none, .none, .none, .int 416 0, .int 128 0, .str "/claim/cut.py" 417]
noncomputable def o142 : Obj := ⟨.type "frame", none, .plain, .mk [some (.ref 141), some (.ref 3), some (.ref 138), none, some (.str "snobol.values" 375), none, some (.ref 0)]⟩
def o144 (P : Params) : Obj := ⟨.type "dict", none, .dict (.mk [en P "__module__" 418 (.str "snobol.values" 375), en P "__firstlineno__" 422 (.int 128 421), en P "__static_attributes__" 423 (.ref 143), en P "__dict__" 425 (.ref 146), en P "__weakref__" 427 (.ref 147), en P "__doc__" 428 (.none)]) 4, .mk []⟩
def o145 : Obj := ⟨.type "type", none, .cls (cd "Failure" [.type "object"] [.ref 145, .type "object"] 144 [] true false false), .mk [none, none, some (.str "Failure" 411), some (.str "Failure" 419), some (.builtin "object.__new__"), some (.bool true)]⟩
noncomputable def o146 : Obj := ⟨.type "getset_descriptor", none, .fields (.mk [.str "__dict__" 424, .ref 145, .builtin "function.__dict__", .builtin "function.__dict__#set"]), .mk []⟩
noncomputable def o147 : Obj := ⟨.type "getset_descriptor", none, .fields (.mk [.str "__weakref__" 426, .ref 145, .builtin "ExceptionGroup.__weakref__", .none]), .mk []⟩
noncomputable def o148 : Obj := ⟨.type "super", none, .fields (.mk [.ref 145, .ref 145, .ref 145]), .mk []⟩
noncomputable def o149 : Obj := ⟨.type "builtin_function_or_method", none, .fields (.mk [.builtin "object.__init_subclass__", .ref 145]), .mk []⟩
def o152 (P : Params) : Obj := ⟨.type "dict", none, .dict (.mk [en P "__module__" 438 (.str "snobol.values" 375), en P "__qualname__" 440 (.str "Pattern" 439), en P "__firstlineno__" 442 (.int 130 441), en P "__init__" 450 (.ref 163), en P "__static_attributes__" 452 (.ref 164)]) 5, .mk []⟩
def o154 : Obj := oF [.int 132 0, .int 4 0, .ref 162]
def o155 : Obj := oC [.str "Pattern" 433, .str "Pattern" 434, .str "/claim/cut.py" 435, .int 130 0, .int 0 0, .int 0 0, .int 0 0, .int 0 0, .ref 153, .bool false, .int 181 0, .ref 154, .none, .none, .none, .none, .int 436 0, .int 130 0, .str "/claim/cut.py" 437]
noncomputable def o156 : Obj := ⟨.type "frame", none, .plain, .mk [some (.ref 155), some (.ref 3), some (.ref 152), none, some (.str "snobol.values" 375), none, some (.ref 0)]⟩
def o159 : Obj := oT [.str "self" 446, .str "node" 447]
def o161 : Obj := oG (fd0 (mt 32 0) "Pattern.__init__")
def o162 : Obj := oC [.str "__init__" 443, .str "Pattern.__init__" 444, .str "/claim/cut.py" 445, .int 132 0, .int 2 0, .int 0 0, .int 0 0, .int 3 0, .ref 157, .bool true, .int 181 0, .ref 158, .none, .ref 159, .ref 160, .ref 161, .int 448 0, .int 132 0, .str "/claim/cut.py" 449]
def o163 : Obj := oU (fd (mt 32 0) "Pattern.__init__" (.none) (.str "snobol.values" 375) (.ref 162))
def o164 : Obj := oT [.str "node" 451]
def o165 (P : Params) : Obj := ⟨.type "dict", none, .dict (.mk [en P "__module__" 438 (.str "snobol.values" 375), en P "__firstlineno__" 442 (.int 130 441), en P "__init__" 450 (.ref 163), en P "__static_attributes__" 452 (.ref 164), en P "__dict__" 454 (.ref 167), en P "__weakref__" 456 (.ref 168), en P "__doc__" 457 (.none)]) 4, .mk []⟩
def o166 : Obj := ⟨.type "type", none, .cls (cd "Pattern" [.type "object"] [.ref 166, .type "object"] 165 [] true false false), .mk [none, none, some (.str "Pattern" 431), some (.str "Pattern" 439), some (.builtin "object.__new__"), some (.bool true)]⟩
noncomputable def o167 : Obj := ⟨.type "getset_descriptor", none, .fields (.mk [.str "__dict__" 453, .ref 166, .builtin "function.__dict__", .builtin "function.__dict__#set"]), .mk []⟩
noncomputable def o168 : Obj := ⟨.type "getset_descriptor", none, .fields (.mk [.str "__weakref__" 455, .ref 166, .builtin "ExceptionGroup.__weakref__", .none]), .mk []⟩
noncomputable def o169 : Obj := ⟨.type "super", none, .fields (.mk [.ref 166, .ref 166, .ref 166]), .mk []⟩
noncomputable def o170 : Obj := ⟨.type "builtin_function_or_method", none, .fields (.mk [.builtin "object.__init_subclass__", .ref 166]), .mk []⟩
def u9 : BT := .node o95 (lE o159) .nil
def u10 (P : Params) : BT := .node (o12 P) (lE (o11 P)) .nil
def u11 (P : Params) : BT := .node o39 (u1 P) (.node o103 (lE o167) .nil)
def u12 : BT := .node o87 (lE o39) .nil
def u13 (P : Params) : BT := .node o35 (u2 P) (.node (o11 P) (lE o163) .nil)
def u14 (P : Params) : BT := .node (o83 P) (lE o147) .nil
def u15 (P : Params) : BT := .node o75 (lE (o11 P)) .nil
def u16 (P : Params) : BT := .node (o91 P) (lE o155) .nil
def u17 (P : Params) : BT := .node o33 (u3 P) (.node o97 (lE o161) .nil)
def u18 (P : Params) : BT := .node (o11 P) (lE o145) .nil
def u19 (P : Params) : BT := .node (o11 P) (.node o73 (lE o39) .nil) (.node (o105 P) (lE o169) .nil)
def u20 (P : Params) : BT := .node o89 (lE (o11 P)) .nil
def u21 (P : Params) : BT := .node (o37 P) (u4 P) (.node o101 (lE (o165 P)) .nil)
def u22 (P : Params) : BT := .node (o11 P) (lE o149) .nil
def u23 (P : Params) : BT := .node (o77 P) (lE o141) .nil
def u24 (P : Params) : BT := .node (o93 P) (lE (o11 P)) .nil
def u25 (P : Params) : BT := .node (o12 P) (u5 P) (.node o96 (lE (o11 P)) .nil)
def u26 (P : Params) : BT := .node o80 (lE (o144 P)) .nil
def u27 (P : Params) : BT := .node (o40 P) (.node (o12 P) (lE (o11 P)) .nil) (.node (o104 P) (lE o168) .nil)
def u28 (P : Params) : BT := .node (o11 P) (lE (o152 P)) .nil
def u29 (P : Params) : BT := .node (o36 P) u6 (.node (o12 P) (lE o164) .nil)
def u30 (P : Params) : BT := .node (o84 P) (lE o148) .nil
def u31 (P : Params) : BT := .node (o76 P) (lE (o12 P)) .nil
def u32 : BT := .node o92 (lE o156) .nil
def u33 (P : Params) : BT := .node (o11 P) (u7 P) (.node o98 (lE o162) .nil)
def u34 : BT := .node o82 (lE o146) .nil
def u35 (P : Params) : BT := .node o42 (.node (o11 P) (lE (o138 P)) .nil) (.node (o11 P) (lE o170) .nil)
def u36 (P : Params) : BT := .node (o90 P) (lE o154) .nil
def u37 (P : Params) : BT := .node (o11 P) (u8 P) (.node (o11 P) (lE o166) .nil)
def u39 (P : Params) : BT := .node (o11 P) (lE o142) .nil
def u40 (P : Params) : BT := .node (o94 P) (lE (o12 P)) .nil
def t4 (P : Params) : BT := .node (boot_o_0 P) (.node (boot_o_1 P) (.node (⟨.type "dict", none, .dict (.mk (en P "__name__" 165 (.str "snobol.values" 375) :: ((e_o3 P).take 40).tail)) 40, .mk []⟩) (.node (boot_o_7 P) (.node (o15 P) (.node (o11 P) u0 u9) (.node o47 (u10 P) (lE (o111 P)))) (.node (o23 P) (u11 P) (.node (o11 P) u12 (lE o119)))) (.node (o11 P) (.node o19 (u13 P) (.node (o51 P) (u14 P) (lE (o115 P)))) (.node (o11 P) (.node o43 (u15 P) (lE (o12 P))) (.node (o11 P) (u16 P) (lE o123))))) (.node (boot_o_5 P) (.node (boot_o_9 P) (.node (o11 P) (u17 P) (.node o49 (u18 P) (lE o113))) (.node (o12 P) (u19 P) (.node (o57 P) (u20 P) (lE o121)))) (.node (o13 P) (.node o21 (u21 P) (.node (o12 P) (u22 P) (lE (o11 P)))) (.node (o29 P) (.node (o11 P) (u23 P) (lE (o11 P))) (.node o61 (u24 P) (lE o125)))))) (.node (o2_3 P) (.node (boot_o_4 P) (.node (boot_o_8 P) (.node (o16 P) (u25 P) (.node (o11 P) (u26 P) (lE (o112 P)))) (.node (o11 P) (u27 P) (.node o56 (u28 P) (lE o120)))) (.node (⟨.none, none, .fields (.mk ((e_o12 P).take 27)), .mk []⟩) (.node (o11 P) (u29 P) (.node (o11 P) (u30 P) (lE o116))) (.node o28 (.node o44 (u31 P) (lE o108)) (.node (o12 P) u32 (lE (o12 P)))))) (.node (boot_o_6 P) (.node (boot_o_10 P) (.node (o12 P) (u33 P) (.node (o50 P) u34 (lE o39))) (.node o26 (u35 P) (.node (o58 P) (u36 P) (lE o122)))) (.node (o14 P) (.node (o22 P) (u37 P) (.node o54 (u10 P) (lE o118))) (.node (o30 P) (.node (o12 P) (u39 P) (lE o110)) (.node (o11 P) (u40 P) (lE (o11 P)))))))
def S4 (w : World) (os : OsState) : SharedT := ⟨t4 w.params, 171, lf, .mk [], boot_drawn, 460, os⟩
def o173 (P : Params) : Obj := ⟨.type "dict", none, .dict (.mk [en P "__module__" 467 (.str "snobol.values" 375), en P "__qualname__" 469 (.str "Delayed" 468), en P "__firstlineno__" 471 (.int 134 470), en P "__init__" 479 (.ref 184), en P "__static_attributes__" 481 (.ref 185)]) 5, .mk []⟩
def o175 : Obj := oF [.int 136 0, .int 4 0, .ref 183]
def o176 : Obj := oC [.str "Delayed" 462, .str "Delayed" 463, .str "/claim/cut.py" 464, .int 134 0, .int 0 0, .int 0 0, .int 0 0, .int 0 0, .ref 174, .bool false, .int 181 0, .ref 175, .none, .none, .none, .none, .int 465 0, .int 134 0, .str "/claim/cut.py" 466]
noncomputable def o177 : Obj := ⟨.type "frame", none, .plain, .mk [some (.ref 176), some (.ref 3), some (.ref 173), none, some (.str "snobol.values" 375), none, some (.ref 0)]⟩
def o180 : Obj := oT [.str "self" 475, .str "tree" 476]
def o182 : Obj := oG (fd0 (mt 33 0) "Delayed.__init__")
def o183 : Obj := oC [.str "__init__" 472, .str "Delayed.__init__" 473, .str "/claim/cut.py" 474, .int 136 0, .int 2 0, .int 0 0, .int 0 0, .int 3 0, .ref 178, .bool true, .int 181 0, .ref 179, .none, .ref 180, .ref 181, .ref 182, .int 477 0, .int 136 0, .str "/claim/cut.py" 478]
def o184 : Obj := oU (fd (mt 33 0) "Delayed.__init__" (.none) (.str "snobol.values" 375) (.ref 183))
def o185 : Obj := oT [.str "tree" 480]
def o186 (P : Params) : Obj := ⟨.type "dict", none, .dict (.mk [en P "__module__" 467 (.str "snobol.values" 375), en P "__firstlineno__" 471 (.int 134 470), en P "__init__" 479 (.ref 184), en P "__static_attributes__" 481 (.ref 185), en P "__dict__" 483 (.ref 188), en P "__weakref__" 485 (.ref 189), en P "__doc__" 486 (.none)]) 4, .mk []⟩
def o187 : Obj := ⟨.type "type", none, .cls (cd "Delayed" [.type "object"] [.ref 187, .type "object"] 186 [] true false false), .mk [none, none, some (.str "Delayed" 460), some (.str "Delayed" 468), some (.builtin "object.__new__"), some (.bool true)]⟩
noncomputable def o188 : Obj := ⟨.type "getset_descriptor", none, .fields (.mk [.str "__dict__" 482, .ref 187, .builtin "function.__dict__", .builtin "function.__dict__#set"]), .mk []⟩
noncomputable def o189 : Obj := ⟨.type "getset_descriptor", none, .fields (.mk [.str "__weakref__" 484, .ref 187, .builtin "ExceptionGroup.__weakref__", .none]), .mk []⟩
noncomputable def o190 : Obj := ⟨.type "super", none, .fields (.mk [.ref 187, .ref 187, .ref 187]), .mk []⟩
noncomputable def o191 : Obj := ⟨.type "builtin_function_or_method", none, .fields (.mk [.builtin "object.__init_subclass__", .ref 187]), .mk []⟩
def u41 : BT := .node o63 (lE o127) (lE o191)
def t5 (P : Params) : BT := .node (boot_o_0 P) (.node (boot_o_1 P) (.node (⟨.type "dict", none, .dict (.mk (en P "__name__" 165 (.str "snobol.values" 375) :: ((e_o3 P).take 41).tail)) 41, .mk []⟩) (.node (boot_o_7 P) (.node (o15 P) (.node (o11 P) u41 u9) (.node o47 (u10 P) (.node (o111 P) (lE o175) .nil))) (.node (o23 P) (u11 P) (.node (o11 P) u12 (.node o119 (lE o183) .nil)))) (.node (o11 P) (.node o19 (u13 P) (.node (o51 P) (u14 P) (.node (o115 P) (lE (o12 P)) .nil))) (.node (o11 P) (.node o43 (u15 P) (.node (o12 P) (lE (o11 P)) .nil)) (.node (o11 P) (u16 P) (.node o123 (lE o187) .nil))))) (.node (boot_o_5 P) (.node (boot_o_9 P) (.node (o11 P) (u17 P) (.node o49 (u18 P) (.node o113 (lE o177) .nil))) (.node (o12 P) (u19 P) (.node (o57 P) (u20 P) (.node o121 (lE o185) .nil)))) (.node (o13 P) (.node o21 (u21 P) (.node (o12 P) (u22 P) (.node (o11 P) (lE (o11 P)) .nil))) (.node (o29 P) (.node (o11 P) (u23 P) (.node (o11 P) (lE (o173 P)) .nil)) (.node o61 (u24 P) (.node o125 (lE o189) .nil)))))) (.node (o2_3 P) (.node (boot_o_4 P) (.node (boot_o_8 P) (.node (o16 P) (u25 P) (.node (o11 P) (u26 P) (.node (o112 P) (lE o176) .nil))) (.node (o11 P) (u27 P) (.node o56 (u28 P) (.node o120 (lE o184) .nil)))) (.node (⟨.none, none, .fields (.mk ((e_o12 P).take 30)), .mk []⟩) (.node (o11 P) (u29 P) (.node (o11 P) (u30 P) (.node o116 (lE o180) .nil))) (.node o28 (.node o44 (u31 P) (.node o108 (lE o39) .nil)) (.node (o12 P) u32 (.node (o12 P) (lE o188) .nil))))) (.node (boot_o_6 P) (.node (boot_o_10 P) (.node (o12 P) (u33 P) (.node (o50 P) u34 (.node o39 (lE (o11 P)) .nil))) (.node o26 (u35 P) (.node (o58 P) (u36 P) (.node o122 (lE (o186 P)) .nil)))) (.node (o14 P) (.node (o22 P) (u37 P) (.node o54 (u10 P) (.node o118 (lE o182) .nil))) (.node (o30 P) (.node (o12 P) (u39 P) (.node o110 (lE (o11 P)) .nil)) (.node (o11 P) (u40 P) (.node (o11 P) (lE o190) .nil))))))
def S5 (w : World) (os : OsState) : SharedT := ⟨t5 w.params, 192, lf, .mk [], boot_drawn, 489, os⟩
def o194 (P : Params) : Obj := ⟨.type "dict", none, .dict (.mk [en P "__module__" 496 (.str "snobol.values" 375), en P "__qualname__" 498 (.str "NameRef" 497), en P "__firstlineno__" 500 (.int 138 499), en P "__init__" 510 (.ref 205), en P "__static_attributes__" 514 (.ref 206)]) 5, .mk []⟩
def o196 : Obj := oF [.int 140 0, .int 4 0, .ref 204]
def o197 : Obj := oC [.str "NameRef" 491, .str "NameRef" 492, .str "/claim/cut.py" 493, .int 138 0, .int 0 0, .int 0 0, .int 0 0, .int 0 0, .ref 195, .bool false, .int 181 0, .ref 196, .none, .none, .none, .none, .int 494 0, .int 138 0, .str "/claim/cut.py" 495]
noncomputable def o198 : Obj := ⟨.type "frame", none, .plain, .mk [some (.ref 197), some (.ref 3), some (.ref 194), none, some (.str "snobol.values" 375), none, some (.ref 0)]⟩
def o201 : Obj := oT [.str "self" 504, .str "kind" 505, .str "owner" 506, .str "key" 507]
def o203 : Obj := oG (fd0 (mt 34 0) "NameRef.__init__")
def o204 (P : Params) : Obj := oC [.str "__init__" 501, .str "NameRef.__init__" 502, .str "/claim/cut.py" 503, .int 140 0, .int 4 0, .int 0 0, .int 0 0, .int 3 0, .ref 199, .bool true, .int 181 0, .ref 200, .none, .ref 201, .ref 202, .ref 203, .int 508 0, .int 140 0, .str "/claim/cut.py" 509]
def o205 (P : Params) : Obj := oU (fd (mt 34 0) "NameRef.__init__" (.none) (.str "snobol.values" 375) (.ref 204))
def o206 : Obj := oT [.str "key" 511, .str "kind" 512, .str "owner" 513]
def o207 (P : Params) : Obj := ⟨.type "dict", none, .dict (.mk [en P "__module__" 496 (.str "snobol.values" 375), en P "__firstlineno__" 500 (.int 138 499), en P "__init__" 510 (.ref 205), en P "__static_attributes__" 514 (.ref 206), en P "__dict__" 516 (.ref 209), en P "__weakref__" 518 (.ref 210), en P "__doc__" 519 (.none)]) 4, .mk []⟩
def o208 (P : Params) : Obj := ⟨.type "type", none, .cls (cd "NameRef" [.type "object"] [.ref 208, .type "object"] 207 [] true false false), .mk [none, none, some (.str "NameRef" 489), some (.str "NameRef" 497), some (.builtin "object.__new__"), some (.bool true)]⟩
noncomputable def o209 : Obj := ⟨.type "getset_descriptor", none, .fields (.mk [.str "__dict__" 515, .ref 208, .builtin "function.__dict__", .builtin "function.__dict__#set"]), .mk []⟩
noncomputable def o210 : Obj := ⟨.type "getset_descriptor", none, .fields (.mk [.str "__weakref__" 517, .ref 208, .builtin "ExceptionGroup.__weakref__", .none]), .mk []⟩
noncomputable def o211 : Obj := ⟨.type "super", none, .fields (.mk [.ref 208, .ref 208, .ref 208]), .mk []⟩
noncomputable def o212 : Obj := ⟨.type "builtin_function_or_method", none, .fields (.mk [.builtin "object.__init_subclass__", .ref 208]), .mk []⟩
def o215 : Obj := oT [.str "value" 525]
def o217 : Obj := oG (fd0 (st 35) "is_fail")
def o218 : Obj := oC [.str "is_fail" 522, .str "is_fail" 523, .str "/claim/cut.py" 524, .int 144 0, .int 1 0, .int 0 0, .int 0 0, .int 3 0, .ref 213, .bool true, .int 181 0, .ref 214, .none, .ref 215, .ref 216, .ref 217, .int 526 0, .int 144 0, .str "/claim/cut.py" 527]
def o219 : Obj := oU (fd (st 35) "is_fail" (.none) (.str "snobol.values" 375) (.ref 218))
def o222 : Obj := oT [.str "number" 532, .str "width" 533]
def o224 : Obj := oG (fd0 (st 36) "fits")
def o225 : Obj := oC [.str "fits" 529, .str "fits" 530, .str "/claim/cut.py" 531, .int 146 0, .int 2 0, .int 0 0, .int 0 0, .int 3 0, .ref 220, .bool true, .int 181 0, .ref 221, .none, .ref 222, .ref 223, .ref 224, .int 534 0, .int 146 0, .str "/claim/cut.py" 535]
def o226 : Obj := oU (fd (st 36) "fits" (.none) (.str "snobol.values" 375) (.ref 225))
def o229 : Obj := oT [.str "text" 540, .str "width" 541, .str "digits" 542, .str "number" 543, .str "sign" 544]
def o231 : Obj := oG (fd0 (st 37) "whole_of_text")
def o232 : Obj := oC [.str "whole_of_text" 537, .str "whole_of_text" 538, .str "/claim/cut.py" 539, .int 148 0, .int 2 0, .int 0 0, .int 0 0, .int 3 0, .ref 227, .bool true, .int 181 0, .ref 228, .none, .ref 229, .ref 230, .ref 231, .int 545 0, .int 148 0, .str "/claim/cut.py" 546]
def o233 : Obj := oU (fd (st 37) "whole_of_text" (.none) (.str "snobol.values" 375) (.ref 232))
def o236 : Obj := oT [.str "number" 551, .str "left" 552, .str "found" 553]
def o238 : Obj := oG (fd0 (st 38) "text_of_whole")
def o239 : Obj := oC [.str "text_of_whole" 548, .str "text_of_whole" 549, .str "/claim/cut.py" 550, .int 161 0, .int 1 0, .int 0 0, .int 0 0, .int 3 0, .ref 234, .bool true, .int 181 0, .ref 235, .none, .ref 236, .ref 237, .ref 238, .int 554 0, .int 161 0, .str "/claim/cut.py" 555]
def o240 : Obj := oU (fd (st 38) "text_of_whole" (.none) (.str "snobol.values" 375) (.ref 239))
def o243 : Obj := oT [.str "value" 560, .str "width" 561]
def o245 : Obj := oG (fd0 (st 39) "to_whole")
def o246 : Obj := oC [.str "to_whole" 557, .str "to_whole" 558, .str "/claim/cut.py" 559, .int 167 0, .int 2 0, .int 0 0, .int 0 0, .int 3 0, .ref 241, .bool true, .int 181 0, .ref 242, .none, .ref 243, .ref 244, .ref 245, .int 562 0, .int 167 0, .str "/claim/cut.py" 563]
def o247 : Obj := oU (fd (st 39) "to_whole" (.none) (.str "snobol.values" 375) (.ref 246))
def o250 : Obj := oT [.str "value" 568]
def o252 : Obj := oG (fd0 (st 40) "to_text")
def o253 : Obj := oC [.str "to_text" 565, .str "to_text" 566, .str "/claim/cut.py" 567, .int 171 0, .int 1 0, .int 0 0, .int 0 0, .int 3 0, .ref 248, .bool true, .int 181 0, .ref 249, .none, .ref 250, .ref 251, .ref 252, .int 569 0, .int 171 0, .str "/claim/cut.py" 570]
def o254 : Obj := oU (fd (st 40) "to_text" (.none) (.str "snobol.values" 375) (.ref 253))
def t6 (P : Params) : BT := .node (boot_o_0 P) (.node (boot_o_1 P) (.node (⟨.type "dict", none, .dict (.mk (en P "__name__" 165 (.str "snobol.values" 375) :: ((e_o3 P).take 48).tail)) 48, .mk []⟩) (.node (boot_o_7 P) (.node (o15 P) (.node (o11 P) u41 (.node o95 (lE o159) (lE (o11 P)))) (.node o47 (.node (o12 P) (lE (o11 P)) (lE (o207 P))) (.node (o111 P) (lE o175) (lE o239)))) (.node (o23 P) (.node o39 (.node (o11 P) (lE o135) (lE (o11 P))) (.node o103 (lE o167) (lE o231))) (.node (o11 P) (.node o87 (lE o39) (lE o215)) (.node o119 (lE o183) (lE o247))))) (.node (o11 P) (.node o19 (.node o35 (.node (o12 P) (lE (o131 P)) (lE (o11 P))) (.node (o11 P) (lE o163) (lE (o11 P)))) (.node (o51 P) (.node (o83 P) (lE o147) (lE o211)) (.node (o115 P) (lE (o12 P)) (lE o243)))) (.node (o11 P) (.node o43 (.node o75 (lE (o11 P)) (lE o203)) (.node (o12 P) (lE (o11 P)) (lE (o12 P)))) (.node (o11 P) (.node (o91 P) (lE o155) (lE o219)) (.node o123 (lE o187) (lE (o11 P))))))) (.node (boot_o_5 P) (.node (boot_o_9 P) (.node (o11 P) (.node o33 (.node (o65 P) (lE o129) (lE o39)) (.node o97 (lE o161) (lE o225))) (.node o49 (.node (o11 P) (lE o145) (lE o209)) (.node o113 (lE o177) (lE (o11 P))))) (.node (o12 P) (.node (o11 P) (.node o73 (lE o39) (lE o201)) (.node (o105 P) (lE o169) (lE o233))) (.node (o57 P) (.node o89 (lE (o11 P)) (lE o217)) (.node o121 (lE o185) (lE (o12 P)))))) (.node (o13 P) (.node o21 (.node (o37 P) (.node (o69 P) (lE o133) (lE o197)) (.node o101 (lE (o165 P)) (lE o229))) (.node (o12 P) (.node (o11 P) (lE o149) (lE (o11 P))) (.node (o11 P) (lE (o11 P)) (lE o245)))) (.node (o29 P) (.node (o11 P) (.node (o77 P) (lE o141) (lE (o205 P))) (.node (o11 P) (lE (o173 P)) (lE (o11 P)))) (.node o61 (.node (o93 P) (lE (o11 P)) (lE (o12 P))) (.node o125 (lE o189) (lE o253))))))) (.node (o2_3 P) (.node (boot_o_4 P) (.node (boot_o_8 P) (.node (o16 P) (.node (o12 P) (.node (o64 P) (lE o128) (lE (o11 P))) (.node o96 (lE (o11 P)) (lE o224))) (.node (o11 P) (.node o80 (lE (o144 P)) (lE (o208 P))) (.node (o112 P) (lE o176) (lE o240)))) (.node (o11 P) (.node (o40 P) (.node (o12 P) (lE (o11 P)) (lE (o12 P))) (.node (o104 P) (lE o168) (lE o232))) (.node o56 (.node (o11 P) (lE (o152 P)) (lE (o11 P))) (.node o120 (lE o184) (lE (o11 P)))))) (.node (⟨.none, none, .fields (.mk ((e_o12 P).take 51)), .mk []⟩) (.node (o11 P) (.node (o36 P) (.node o68 (lE o132) (lE o196)) (.node (o12 P) (lE o164) (lE (o12 P)))) (.node (o11 P) (.node (o84 P) (lE o148) (lE o212)) (.node o116 (lE o180) (lE (o11 P))))) (.node o28 (.node o44 (.node (o76 P) (lE (o12 P)) (lE (o204 P))) (.node o108 (lE o39) (lE o236))) (.node (o12 P) (.node o92 (lE o156) (lE (o11 P))) (.node (o12 P) (lE o188) (lE o252)))))) (.node (boot_o_6 P) (.node (boot_o_10 P) (.node (o12 P) (.node (o11 P) (.node (o11 P) (lE o130) (lE (o194 P))) (.node o98 (lE o162) (lE o226))) (.node (o50 P) (.node o82 (lE o146) (lE o210)) (.node o39 (lE (o11 P)) (lE (o12 P))))) (.node o26 (.node o42 (.node (o11 P) (lE (o138 P)) (lE (o11 P))) (.node (o11 P) (lE o170) (lE (o11 P)))) (.node (o58 P) (.node (o90 P) (lE o154) (lE o218)) (.node o122 (lE (o186 P)) (lE o250))))) (.node (o14 P) (.node (o22 P) (.node (o11 P) (.node (o70 P) (lE o134) (lE o198)) (.node (o11 P) (lE o166) (lE (o11 P)))) (.node o54 (.node (o12 P) (lE (o11 P)) (lE (o12 P))) (.node o118 (lE o182) (lE o246)))) (.node (o30 P) (.node (o12 P) (.node (o11 P) (lE o142) (lE o206)) (.node o110 (lE (o11 P)) (lE o238))) (.node (o11 P) (.node (o94 P) (lE (o12 P)) (lE o222)) (.node (o11 P) (lE o190) (lE o254)))))))
def S6 (w : World) (os : OsState) : SharedT := ⟨t6 w.params, 255, lf, .mk [], boot_drawn, 572, os⟩
def o257 : Obj := oT [.str "value" 575, .str "text" 576]
def o259 : Obj := oG (fd0 (st 41) "need_text")
def o260 : Obj := oC [.str "need_text" 572, .str "need_text" 573, .str "/claim/cut.py" 574, .int 175 0, .int 1 0, .int 0 0, .int 0 0, .int 3 0, .ref 255, .bool true, .int 181 0, .ref 256, .none, .ref 257, .ref 258, .ref 259, .int 577 0, .int 175 0, .str "/claim/cut.py" 578]
def o261 : Obj := oU (fd (st 41) "need_text" (.none) (.str "snobol.values" 375) (.ref 260))
def o262 (P : Params) : Obj := oT [.str "len" 582, .str "pos" 583, .str "rpos" 584, .str "tab" 585, .str "rtab" 586]
def o263 (P : Params) : Obj := oT [.str "any" 588, .str "notany" 589, .str "span" 590, .str "break" 591]
def o264 : Obj := oT [.int 64 593]
def o267 : Obj := oT [.str "value" 598, .str "kind" 599, .str "width" 600, .str "count" 601]
def o269 : Obj := oG (fd0 (st 46) "plain_count")
def o270 : Obj := oC [.str "plain_count" 595, .str "plain_count" 596, .str "/claim/cut.py" 597, .int 184 0, .int 3 0, .int 0 0, .int 0 0, .int 3 0, .ref 265, .bool true, .int 181 0, .ref 266, .none, .ref 267, .ref 268, .ref 269, .int 602 0, .int 184 0, .str "/claim/cut.py" 603]
def o271 : Obj := oU (fd (st 46) "plain_count" (.ref 264) (.str "snobol.nodes" 580) (.ref 270))
def o274 : Obj := oT [.str "value" 608, .str "kind" 609, .str "text" 610]
def o276 : Obj := oG (fd0 (st 47) "plain_signs")
def o277 : Obj := oC [.str "plain_signs" 605, .str "plain_signs" 606, .str "/claim/cut.py" 607, .int 191 0, .int 2 0, .int 0 0, .int 0 0, .int 3 0, .ref 272, .bool true, .int 181 0, .ref 273, .none, .ref 274, .ref 275, .ref 276, .int 611 0, .int 191 0, .str "/claim/cut.py" 612]
def o278 : Obj := oU (fd (st 47) "plain_signs" (.none) (.str "snobol.nodes" 580) (.ref 277))
def o281 : Obj := oT [.str "value" 617, .str "text" 618]
def o283 : Obj := oG (fd0 (st 48) "pattern_of")
def o284 : Obj := oC [.str "pattern_of" 614, .str "pattern_of" 615, .str "/claim/cut.py" 616, .int 196 0, .int 1 0, .int 0 0, .int 0 0, .int 3 0, .ref 279, .bool true, .int 181 0, .ref 280, .none, .ref 281, .ref 282, .ref 283, .int 619 0, .int 196 0, .str "/claim/cut.py" 620]
def o285 : Obj := oU (fd (st 48) "pattern_of" (.none) (.str "snobol.nodes" 580) (.ref 284))
def o288 : Obj := oT [.str "told" 625]
def o290 : Obj := oG (fd0 (st 49) "is_delayed")
def o291 (P : Params) : Obj := oC [.str "is_delayed" 622, .str "is_delayed" 623, .str "/claim/cut.py" 624, .int 205 0, .int 1 0, .int 0 0, .int 0 0, .int 3 0, .ref 286, .bool true, .int 181 0, .ref 287, .none, .ref 288, .ref 289, .ref 290, .int 626 0, .int 205 0, .str "/claim/cut.py" 627]
def o292 (P : Params) : Obj := oU (fd (st 49) "is_delayed" (.none) (.str "snobol.nodes" 580) (.ref 291))
def o295 : Obj := oT [.str "node" 632, .str "host" 633, .str "value" 634]
def o297 : Obj := oG (fd0 (st 50) "settled")
def o298 (P : Params) : Obj := oC [.str "settled" 629, .str "settled" 630, .str "/claim/cut.py" 631, .int 207 0, .int 2 0, .int 0 0, .int 0 0, .int 3 0, .ref 293, .bool true, .int 181 0, .ref 294, .none, .ref 295, .ref 296, .ref 297, .int 635 0, .int 207 0, .str "/claim/cut.py" 636]
def o299 (P : Params) : Obj := oU (fd (st 50) "settled" (.none) (.str "snobol.nodes" 580) (.ref 298))
def o302 : Obj := oT [.str "subject" 647, .str "at" 648, .str "text" 649, .str "end" 650]
def o304 : Obj := oG (fd0 (st 54) "chars_end")
def o305 (P : Params) : Obj := oC [.str "chars_end" 644, .str "chars_end" 645, .str "/claim/cut.py" 646, .int 219 0, .int 3 0, .int 0 0, .int 0 0, .int 3 0, .ref 300, .bool true, .int 181 0, .ref 301, .none, .ref 302, .ref 303, .ref 304, .int 651 0, .int 219 0, .str "/claim/cut.py" 652]
def o306 (P : Params) : Obj := oU (fd (st 54) "chars_end" (.none) (.str "snobol.primitives" 638) (.ref 305))
def o309 : Obj := oT [.str "subject" 657, .str "at" 658, .str "many" 659]
def o311 : Obj := oG (fd0 (st 55) "len_end")
def o312 (P : Params) : Obj := oC [.str "len_end" 654, .str "len_end" 655, .str "/claim/cut.py" 656, .int 222 0, .int 3 0, .int 0 0, .int 0 0, .int 3 0, .ref 307, .bool true, .int 181 0, .ref 308, .none, .ref 309, .ref 310, .ref 311, .int 660 0, .int 222 0, .str "/claim/cut.py" 661]
def o313 (P : Params) : Obj := oU (fd (st 55) "len_end" (.none) (.str "snobol.primitives" 638) (.ref 312))
def o316 : Obj := oT [.str "at" 666, .str "place" 667]
def o318 : Obj := oG (fd0 (st 56) "pos_end")
def o319 (P : Params) : Obj := oC [.str "pos_end" 663, .str "pos_end" 664, .str "/claim/cut.py" 665, .int 224 0, .int 2 0, .int 0 0, .int 0 0, .int 3 0, .ref 314, .bool true, .int 181 0, .ref 315, .none, .ref 316, .ref 317, .ref 318, .int 668 0, .int 224 0, .str "/claim/cut.py" 669]
def o320 (P : Params) : Obj := oU (fd (st 56) "pos_end" (.none) (.str "snobol.primitives" 638) (.ref 319))
def o323 : Obj := oT [.str "subject" 674, .str "at" 675, .str "place" 676]
def o325 : Obj := oG (fd0 (st 57) "rpos_end")
def o326 : Obj := oC [.str "rpos_end" 671, .str "rpos_end" 672, .str "/claim/cut.py" 673, .int 226 0, .int 3 0, .int 0 0, .int 0 0, .int 3 0, .ref 321, .bool true, .int 181 0, .ref 322, .none, .ref 323, .ref 324, .ref 325, .int 677 0, .int 226 0, .str "/claim/cut.py" 678]
def o327 : Obj := oU (fd (st 57) "rpos_end" (.none) (.str "snobol.primitives" 638) (.ref 326))
def o330 : Obj := oT [.str "subject" 683, .str "at" 684, .str "place" 685]
def o332 : Obj := oG (fd0 (st 58) "tab_end")
def o333 (P : Params) : Obj := oC [.str "tab_end" 680, .str "tab_end" 681, .str "/claim/cut.py" 682, .int 228 0, .int 3 0, .int 0 0, .int 0 0, .int 3 0, .ref 328, .bool true, .int 181 0, .ref 329, .none, .ref 330, .ref 331, .ref 332, .int 686 0, .int 228 0, .str "/claim/cut.py" 687]
def o334 (P : Params) : Obj := oU (fd (st 58) "tab_end" (.none) (.str "snobol.primitives" 638) (.ref 333))
def u42 (P : Params) : BT := .node o191 (lE (o319 P)) .nil
def u43 (P : Params) : BT := .node o175 (lE (o11 P)) .nil
def u44 (P : Params) : BT := .node (o11 P) (lE o327) .nil
def u45 : BT := .node o183 (lE o311) .nil
def u46 (P : Params) : BT := .node (o11 P) (lE o323) .nil
def u48 (P : Params) : BT := .node o203 (lE (o11 P)) .nil
def u49 (P : Params) : BT := .node (o11 P) (lE (o299 P)) .nil
def u50 (P : Params) : BT := .node o187 (lE (o12 P)) .nil
def u51 (P : Params) : BT := .node o39 (lE (o11 P)) .nil
def u52 (P : Params) : BT := .node o177 (lE (o305 P)) .nil
def u53 (P : Params) : BT := .node o201 (lE (o12 P)) .nil
def u54 (P : Params) : BT := .node o185 (lE (o313 P)) .nil
def u55 : BT := .node o197 (lE o325) .nil
def u56 (P : Params) : BT := .node (o11 P) (lE o309) .nil
def u57 (P : Params) : BT := .node (o205 P) (lE (o333 P)) .nil
def u58 (P : Params) : BT := .node (o173 P) (lE (o12 P)) .nil
def u59 (P : Params) : BT := .node o189 (lE (o11 P)) .nil
def u60 (P : Params) : BT := .node (o11 P) (lE (o320 P)) .nil
def u61 : BT := .node o176 (lE o304) .nil
def u63 (P : Params) : BT := .node o184 (lE (o312 P)) .nil
def u64 (P : Params) : BT := .node o196 (lE (o11 P)) .nil
def u65 (P : Params) : BT := .node o180 (lE (o12 P)) .nil
def u66 (P : Params) : BT := .node (o204 P) (lE o332) .nil
def u68 : BT := .node o188 (lE o316) .nil
def u69 (P : Params) : BT := .node (o194 P) (lE (o12 P)) .nil
def u70 (P : Params) : BT := .node (o11 P) (lE (o306 P)) .nil
def u71 (P : Params) : BT := .node (o11 P) (lE o330) .nil
def u72 (P : Params) : BT := .node o170 (lE (o298 P)) .nil
def u73 (P : Params) : BT := .node (o186 P) (lE (o11 P)) .nil
def u74 : BT := .node o198 (lE o326) .nil
def u75 (P : Params) : BT := .node o182 (lE (o11 P)) .nil
def u76 (P : Params) : BT := .node o206 (lE (o334 P)) .nil
def u77 (P : Params) : BT := .node (o11 P) (lE o302) .nil
def u78 : BT := .node o190 (lE o318) .nil
def t7 (P : Params) : BT := .node (boot_o_0 P) (.node (boot_o_1 P) (.node (⟨.type "dict", none, .dict (.mk (en P "__name__" 165 (.str "snobol.primitives" 638) :: ((e_o3 P).take 64).tail)) 64, .mk []⟩) (.node (boot_o_7 P) (.node (o15 P) (.node (o11 P) (.node o63 (.node o127 (lE (o11 P)) .nil) (u42 P)) (.node o95 (.node o159 (lE (o12 P)) .nil) (lE (o11 P)))) (.node o47 (.node (o12 P) (.node (o11 P) (lE o271) .nil) (lE (o207 P))) (.node (o111 P) (u43 P) (lE o239)))) (.node (o23 P) (.node o39 (.node (o11 P) (.node o135 (lE (o263 P)) .nil) (u44 P)) (.node o103 (.node o167 (lE o295) .nil) (lE o231))) (.node (o11 P) (.node o87 (.node o39 (lE (o11 P)) .nil) (lE o215)) (.node o119 u45 (lE o247))))) (.node (o11 P) (.node o19 (.node o35 (.node (o12 P) (.node (o131 P) (lE o259) .nil) (u46 P)) (.node (o11 P) (.node o163 (lE (o291 P)) .nil) (lE (o11 P)))) (.node (o51 P) (.node (o83 P) (.node o147 (lE (o11 P)) .nil) (lE o211)) (.node (o115 P) (u10 P) (lE o243)))) (.node (o11 P) (.node o43 (.node o75 (.node (o11 P) (lE o267) .nil) (u48 P)) (.node (o12 P) (u49 P) (lE (o12 P)))) (.node (o11 P) (.node (o91 P) (.node o155 (lE o283) .nil) (lE o219)) (.node o123 (u50 P) (lE (o11 P))))))) (.node (boot_o_5 P) (.node (boot_o_9 P) (.node (o11 P) (.node o33 (.node (o65 P) (.node o129 (lE o257) .nil) (u51 P)) (.node o97 (.node o161 (lE (o11 P)) .nil) (lE o225))) (.node o49 (.node (o11 P) (.node o145 (lE (o12 P)) .nil) (lE o209)) (.node o113 (u52 P) (lE (o11 P))))) (.node (o12 P) (.node (o11 P) (.node o73 (.node o39 (lE (o11 P)) .nil) (u53 P)) (.node (o105 P) (.node o169 (lE o297) .nil) (lE o233))) (.node (o57 P) (.node o89 (.node (o11 P) (lE o281) .nil) (lE o217)) (.node o121 (u54 P) (lE (o12 P)))))) (.node (o13 P) (.node o21 (.node (o37 P) (.node (o69 P) (.node o133 (lE o261) .nil) u55) (.node o101 (.node (o165 P) (lE (o11 P)) .nil) (lE o229))) (.node (o12 P) (.node (o11 P) (.node o149 (lE o277) .nil) (lE (o11 P))) (.node (o11 P) (u56 P) (lE o245)))) (.node (o29 P) (.node (o11 P) (.node (o77 P) (.node o141 (lE o269) .nil) (u57 P)) (.node (o11 P) (u58 P) (lE (o11 P)))) (.node o61 (.node (o93 P) (.node (o11 P) (lE o285) .nil) (lE (o12 P))) (.node o125 (u59 P) (lE o253))))))) (.node (o2_3 P) (.node (boot_o_4 P) (.node (boot_o_8 P) (.node (o16 P) (.node (o12 P) (.node (o64 P) (.node o128 (lE (o12 P)) .nil) (u60 P)) (.node o96 (.node (o11 P) (lE o288) .nil) (lE o224))) (.node (o11 P) (.node o80 (.node (o144 P) (lE (o11 P)) .nil) (lE (o208 P))) (.node (o112 P) u61 (lE o240)))) (.node (o11 P) (.node (o40 P) (.node (o12 P) (.node (o11 P) (lE o264) .nil) (u10 P)) (.node (o104 P) (.node o168 (lE (o11 P)) .nil) (lE o232))) (.node o56 (.node (o11 P) (.node (o152 P) (lE (o12 P)) .nil) (lE (o11 P))) (.node o120 (u63 P) (lE (o11 P)))))) (.node (⟨.none, none, .fields (.mk ((e_o12 P).take 84)), .mk []⟩) (.node (o11 P) (.node (o36 P) (.node o68 (.node o132 (lE o260) .nil) (u64 P)) (.node (o12 P) (.node o164 (lE (o292 P)) .nil) (lE (o12 P)))) (.node (o11 P) (.node (o84 P) (.node o148 (lE o276) .nil) (lE o212)) (.node o116 (u65 P) (lE (o11 P))))) (.node o28 (.node o44 (.node (o76 P) (.node (o12 P) (lE (o11 P)) .nil) (u66 P)) (.node o108 (u51 P) (lE o236))) (.node (o12 P) (.node o92 (.node o156 (lE o284) .nil) (lE (o11 P))) (.node (o12 P) u68 (lE o252)))))) (.node (boot_o_6 P) (.node (boot_o_10 P) (.node (o12 P) (.node (o11 P) (.node (o11 P) (.node o130 (lE (o11 P)) .nil) (u69 P)) (.node o98 (.node o162 (lE o290) .nil) (lE o226))) (.node (o50 P) (.node o82 (.node o146 (lE o274) .nil) (lE o210)) (.node o39 (u70 P) (lE (o12 P))))) (.node o26 (.node o42 (.node (o11 P) (.node (o138 P) (lE (o12 P)) .nil) (u71 P)) (.node (o11 P) (u72 P) (lE (o11 P)))) (.node (o58 P) (.node (o90 P) (.node o154 (lE (o11 P)) .nil) (lE o218)) (.node o122 (u73 P) (lE o250))))) (.node (o14 P) (.node (o22 P) (.node (o11 P) (.node (o70 P) (.node o134 (lE (o262 P)) .nil) u74) (.node (o11 P) (.node o166 (lE (o12 P)) .nil) (lE (o11 P)))) (.node o54 (.node (o12 P) (.node (o11 P) (lE o278) .nil) (lE (o12 P))) (.node o118 (u75 P) (lE o246)))) (.node (o30 P) (.node (o12 P) (.node (o11 P) (.node o142 (lE o270) .nil) (u76 P)) (.node o110 (u77 P) (lE o238))) (.node (o11 P) (.node (o94 P) (.node (o12 P) (lE (o11 P)) .nil) (lE o222)) (.node (o11 P) u78 (lE o254)))))))
def S7 (w : World) (os : OsState) : SharedT := ⟨t7 w.params, 335, lf, .mk [], boot_drawn, 689, os⟩
def o337 : Obj := oT [.str "subject" 692, .str "at" 693, .str "place" 694, .str "goal" 695]
def o339 : Obj := oG (fd0 (st 59) "rtab_end")
def o340 : Obj := oC [.str "rtab_end" 689, .str "rtab_end" 690, .str "/claim/cut.py" 691, .int 230 0, .int 3 0, .int 0 0, .int 0 0, .int 3 0, .ref 335, .bool true, .int 181 0, .ref 336, .none, .ref 337, .ref 338, .ref 339, .int 696 0, .int 230 0, .str "/claim/cut.py" 697]
def o341 : Obj := oU (fd (st 59) "rtab_end" (.none) (.str "snobol.primitives" 638) (.ref 340))
def o344 : Obj := oT [.str "subject" 702]
def o346 : Obj := oG (fd0 (st 60) "rem_end")
def o347 (P : Params) : Obj := oC [.str "rem_end" 699, .str "rem_end" 700, .str "/claim/cut.py" 701, .int 233 0, .int 1 0, .int 0 0, .int 0 0, .int 3 0, .ref 342, .bool true, .int 181 0, .ref 343, .none, .ref 344, .ref 345, .ref 346, .int 703 0, .int 233 0, .str "/claim/cut.py" 704]
def o348 (P : Params) : Obj := oU (fd (st 60) "rem_end" (.none) (.str "snobol.primitives" 638) (.ref 347))
def o351 : Obj := oT [.str "subject" 709, .str "at" 710, .str "signs" 711]
def o353 : Obj := oG (fd0 (st 61) "any_at")
def o354 (P : Params) : Obj := oC [.str "any_at" 706, .str "any_at" 707, .str "/claim/cut.py" 708, .int 235 0, .int 3 0, .int 0 0, .int 0 0, .int 3 0, .ref 349, .bool true, .int 181 0, .ref 350, .none, .ref 351, .ref 352, .ref 353, .int 712 0, .int 235 0, .str "/claim/cut.py" 713]
def o355 (P : Params) : Obj := oU (fd (st 61) "any_at" (.none) (.str "snobol.primitives" 638) (.ref 354))
def o358 : Obj := oT [.str "subject" 718, .str "at" 719, .str "signs" 720]
def o360 : Obj := oG (fd0 (st 62) "notany_at")
def o361 : Obj := oC [.str "notany_at" 715, .str "notany_at" 716, .str "/claim/cut.py" 717, .int 237 0, .int 3 0, .int 0 0, .int 0 0, .int 3 0, .ref 356, .bool true, .int 181 0, .ref 357, .none, .ref 358, .ref 359, .ref 360, .int 721 0, .int 237 0, .str "/claim/cut.py" 722]
def o362 : Obj := oU (fd (st 62) "notany_at" (.none) (.str "snobol.primitives" 638) (.ref 361))
def o365 : Obj := oT [.str "subject" 727, .str "at" 728, .str "signs" 729, .str "is_in" 730]
def o367 : Obj := oG (fd0 (st 63) "run_end")
def o368 (P : Params) : Obj := oC [.str "run_end" 724, .str "run_end" 725, .str "/claim/cut.py" 726, .int 239 0, .int 4 0, .int 0 0, .int 0 0, .int 3 0, .ref 363, .bool true, .int 181 0, .ref 364, .none, .ref 365, .ref 366, .ref 367, .int 731 0, .int 239 0, .str "/claim/cut.py" 732]
def o369 (P : Params) : Obj := oU (fd (st 63) "run_end" (.none) (.str "snobol.primitives" 638) (.ref 368))
def o372 : Obj := oT [.str "subject" 737, .str "at" 738, .str "signs" 739, .str "end" 740]
def o374 : Obj := oG (fd0 (st 64) "span_end")
def o375 (P : Params) : Obj := oC [.str "span_end" 734, .str "span_end" 735, .str "/claim/cut.py" 736, .int 243 0, .int 3 0, .int 0 0, .int 0 0, .int 3 0, .ref 370, .bool true, .int 181 0, .ref 371, .none, .ref 372, .ref 373, .ref 374, .int 741 0, .int 243 0, .str "/claim/cut.py" 742]
def o376 (P : Params) : Obj := oU (fd (st 64) "span_end" (.none) (.str "snobol.primitives" 638) (.ref 375))
def o379 : Obj := oT [.str "subject" 747, .str "at" 748, .str "signs" 749, .str "end" 750]
def o381 : Obj := oG (fd0 (st 65) "break_end")
def o382 : Obj := oC [.str "break_end" 744, .str "break_end" 745, .str "/claim/cut.py" 746, .int 246 0, .int 3 0, .int 0 0, .int 0 0, .int 3 0, .ref 377, .bool true, .int 181 0, .ref 378, .none, .ref 379, .ref 380, .ref 381, .int 751 0, .int 246 0, .str "/claim/cut.py" 752]
def o383 : Obj := oU (fd (st 65) "break_end" (.none) (.str "snobol.primitives" 638) (.ref 382))
def o386 : Obj := oT [.str "subject" 757, .str "at" 758]
def o388 : Obj := oG (fd0 (st 66) "arb_ends")
def o389 (P : Params) : Obj := oC [.str "arb_ends" 754, .str "arb_ends" 755, .str "/claim/cut.py" 756, .int 249 0, .int 2 0, .int 0 0, .int 0 0, .int 3 0, .ref 384, .bool true, .int 181 0, .ref 385, .none, .ref 386, .ref 387, .ref 388, .int 759 0, .int 249 0, .str "/claim/cut.py" 760]
def o390 (P : Params) : Obj := oU (fd (st 66) "arb_ends" (.none) (.str "snobol.primitives" 638) (.ref 389))
def o393 : Obj := oT [.str "subject" 765, .str "at" 766, .str "level" 767]
def o395 : Obj := oG (fd0 (st 67) "bal_end")
def o396 (P : Params) : Obj := oC [.str "bal_end" 762, .str "bal_end" 763, .str "/claim/cut.py" 764, .int 251 0, .int 2 0, .int 0 0, .int 0 0, .int 3 0, .ref 391, .bool true, .int 181 0, .ref 392, .none, .ref 393, .ref 394, .ref 395, .int 768 0, .int 251 0, .str "/claim/cut.py" 769]
def o397 (P : Params) : Obj := oU (fd (st 67) "bal_end" (.none) (.str "snobol.primitives" 638) (.ref 396))
def o400 : Obj := oT [.str "subject" 774, .str "at" 775, .str "found" 776, .str "end" 777]
def o402 : Obj := oG (fd0 (st 68) "bal_ends")
def o403 (P : Params) : Obj := oC [.str "bal_ends" 771, .str "bal_ends" 772, .str "/claim/cut.py" 773, .int 264 0, .int 2 0, .int 0 0, .int 0 0, .int 3 0, .ref 398, .bool true, .int 181 0, .ref 399, .none, .ref 400, .ref 401, .ref 402, .int 778 0, .int 264 0, .str "/claim/cut.py" 779]
def o404 (P : Params) : Obj := oU (fd (st 68) "bal_ends" (.none) (.str "snobol.primitives" 638) (.ref 403))
def o407 : Obj := oT [.str "kind" 784, .str "subject" 785, .str "at" 786, .str "told" 787]
def o409 : Obj := oG (fd0 (st 69) "one_end")
def o410 (P : Params) : Obj := oC [.str "one_end" 781, .str "one_end" 782, .str "/claim/cut.py" 783, .int 270 0, .int 4 0, .int 0 0, .int 0 0, .int 3 0, .ref 405, .bool true, .int 181 0, .ref 406, .none, .ref 407, .ref 408, .ref 409, .int 788 0, .int 270 0, .str "/claim/cut.py" 789]
def o411 (P : Params) : Obj := oU (fd (st 69) "one_end" (.none) (.str "snobol.primitives" 638) (.ref 410))
def o414 : Obj := oT [.str "node" 794, .str "subject" 795, .str "at" 796]
def o416 : Obj := oG (fd0 (st 70) "plain_end")
def o417 (P : Params) : Obj := oC [.str "plain_end" 791, .str "plain_end" 792, .str "/claim/cut.py" 793, .int 290 0, .int 3 0, .int 0 0, .int 0 0, .int 3 0, .ref 412, .bool true, .int 181 0, .ref 413, .none, .ref 414, .ref 415, .ref 416, .int 797 0, .int 290 0, .str "/claim/cut.py" 798]
def o418 (P : Params) : Obj := oU (fd (st 70) "plain_end" (.none) (.str "snobol.primitives" 638) (.ref 417))
def o421 : Obj := oT [.str "kind" 803, .str "subject" 804, .str "at" 805, .str "told" 806, .str "end" 807]
def o423 : Obj := oG (fd0 (st 71) "ends_of")
def o424 (P : Params) : Obj := oC [.str "ends_of" 800, .str "ends_of" 801, .str "/claim/cut.py" 802, .int 292 0, .int 4 0, .int 0 0, .int 0 0, .int 3 0, .ref 419, .bool true, .int 181 0, .ref 420, .none, .ref 421, .ref 422, .ref 423, .int 808 0, .int 292 0, .str "/claim/cut.py" 809]
def o425 (P : Params) : Obj := oU (fd (st 71) "ends_of" (.none) (.str "snobol.primitives" 638) (.ref 424))
def u79 (P : Params) : BT := .node o127 (lE (o11 P)) (lE o383)
def u80 (P : Params) : BT := .node o159 (lE (o12 P)) (lE (o11 P))
def u81 (P : Params) : BT := .node o95 (u80 P) (.node (o11 P) (lE o351) .nil)
def u82 (P : Params) : BT := .node (o12 P) (.node (o11 P) (lE o271) (lE (o12 P))) (.node (o207 P) (lE (o11 P)) .nil)
def u83 : BT := .node o239 (lE o367) .nil
def u84 : BT := .node o167 (lE o295) (lE o423)
def u85 (P : Params) : BT := .node o39 (.node (o11 P) (.node o135 (lE (o263 P)) (lE (o11 P))) (u44 P)) (.node o103 u84 (.node o231 (lE (o11 P)) .nil))
def u86 (P : Params) : BT := .node o39 (lE (o11 P)) (lE o407)
def u87 (P : Params) : BT := .node o87 (u86 P) (.node o215 (lE (o12 P)) .nil)
def u88 (P : Params) : BT := .node o247 (lE (o375 P)) .nil
def u89 (P : Params) : BT := .node (o131 P) (lE o259) (lE (o11 P))
def u90 (P : Params) : BT := .node o163 (lE (o291 P)) (lE (o11 P))
def u91 (P : Params) : BT := .node (o11 P) (u90 P) (.node (o11 P) (lE (o355 P)) .nil)
def u92 (P : Params) : BT := .node o147 (lE (o11 P)) (lE (o403 P))
def u93 (P : Params) : BT := .node (o83 P) (u92 P) (.node o211 (lE o339) .nil)
def u94 (P : Params) : BT := .node o243 (lE (o12 P)) .nil
def u95 (P : Params) : BT := .node o75 (.node (o11 P) (lE o267) (lE o395)) (u48 P)
def u97 (P : Params) : BT := .node o155 (lE o283) (lE (o411 P))
def u98 (P : Params) : BT := .node (o91 P) (u97 P) (.node o219 (lE (o347 P)) .nil)
def u99 (P : Params) : BT := .node (o11 P) (lE o379) .nil
def u100 (P : Params) : BT := .node o129 (lE o257) (lE (o12 P))
def u101 (P : Params) : BT := .node o161 (lE (o11 P)) (lE (o417 P))
def u102 (P : Params) : BT := .node o97 (u101 P) (.node o225 (lE o353) .nil)
def u103 (P : Params) : BT := .node (o11 P) (.node o145 (lE (o12 P)) (lE (o11 P))) (.node o209 (lE o337) .nil)
def u104 (P : Params) : BT := .node (o11 P) (lE (o369 P)) .nil
def u105 (P : Params) : BT := .node o169 (lE o297) (lE (o425 P))
def u106 (P : Params) : BT := .node (o11 P) (.node o73 (.node o39 (lE (o11 P)) (lE o393)) (u53 P)) (.node (o105 P) (u105 P) (.node o233 (lE o361) .nil))
def u107 (P : Params) : BT := .node (o11 P) (lE o281) (lE o409)
def u108 (P : Params) : BT := .node o89 (u107 P) (.node o217 (lE (o11 P)) .nil)
def u110 (P : Params) : BT := .node o133 (lE o261) (lE (o389 P))
def u111 (P : Params) : BT := .node (o165 P) (lE (o11 P)) (lE o421)
def u112 (P : Params) : BT := .node o101 (u111 P) (.node o229 (lE (o12 P)) .nil)
def u113 (P : Params) : BT := .node o149 (lE o277) (lE (o11 P))
def u114 (P : Params) : BT := .node (o11 P) (u113 P) (.node (o11 P) (lE o341) .nil)
def u115 (P : Params) : BT := .node o245 (lE (o11 P)) .nil
def u116 (P : Params) : BT := .node (o77 P) (.node o141 (lE o269) (lE (o397 P))) (u57 P)
def u117 (P : Params) : BT := .node (o11 P) (lE o365) .nil
def u118 (P : Params) : BT := .node (o11 P) (lE o285) (lE (o12 P))
def u119 (P : Params) : BT := .node (o93 P) (u118 P) (.node (o12 P) (lE (o11 P)) .nil)
def u120 : BT := .node o253 (lE o381) .nil
def u121 (P : Params) : BT := .node o128 (lE (o12 P)) (lE (o11 P))
def u122 (P : Params) : BT := .node (o11 P) (lE o288) (lE o416)
def u123 (P : Params) : BT := .node o96 (u122 P) (.node o224 (lE (o11 P)) .nil)
def u124 (P : Params) : BT := .node o80 (.node (o144 P) (lE (o11 P)) (lE o400)) (.node (o208 P) (lE (o12 P)) .nil)
def u125 (P : Params) : BT := .node o240 (lE (o368 P)) .nil
def u126 (P : Params) : BT := .node o168 (lE (o11 P)) (lE (o424 P))
def u127 (P : Params) : BT := .node (o40 P) (.node (o12 P) (.node (o11 P) (lE o264) (lE (o12 P))) (u10 P)) (.node (o104 P) (u126 P) (.node o232 (lE o360) .nil))
def u128 (P : Params) : BT := .node (o152 P) (lE (o12 P)) (lE (o11 P))
def u129 (P : Params) : BT := .node (o11 P) (u128 P) (.node (o11 P) (lE o344) .nil)
def u130 (P : Params) : BT := .node (o11 P) (lE (o376 P)) .nil
def u131 : BT := .node o132 (lE o260) (lE o388)
def u132 (P : Params) : BT := .node o164 (lE (o292 P)) (lE (o12 P))
def u133 (P : Params) : BT := .node (o12 P) (u132 P) (.node (o12 P) (lE (o11 P)) .nil)
def u134 (P : Params) : BT := .node o148 (lE o276) (lE (o404 P))
def u135 (P : Params) : BT := .node (o84 P) (u134 P) (.node o212 (lE o340) .nil)
def u136 (P : Params) : BT := .node (o11 P) (lE o372) .nil
def u137 (P : Params) : BT := .node (o76 P) (.node (o12 P) (lE (o11 P)) (lE (o396 P))) (u66 P)
def u138 (P : Params) : BT := .node o236 (lE (o12 P)) .nil
def u139 (P : Params) : BT := .node o156 (lE o284) (lE (o11 P))
def u140 (P : Params) : BT := .node o92 (u139 P) (.node (o11 P) (lE (o348 P)) .nil)
def u141 (P : Params) : BT := .node o252 (lE (o11 P)) .nil
def u142 (P : Params) : BT := .node o130 (lE (o11 P)) (lE o386)
def u143 (P : Params) : BT := .node o162 (lE o290) (lE (o418 P))
def u144 (P : Params) : BT := .node o98 (u143 P) (.node o226 (lE (o354 P)) .nil)
def u145 (P : Params) : BT := .node o82 (.node o146 (lE o274) (lE o402)) (.node o210 (lE (o11 P)) .nil)
def u147 (P : Params) : BT := .node (o11 P) (.node (o138 P) (lE (o12 P)) (lE (o11 P))) (u71 P)
def u148 (P : Params) : BT := .node (o11 P) (lE o362) .nil
def u149 (P : Params) : BT := .node o154 (lE (o11 P)) (lE (o410 P))
def u150 (P : Params) : BT := .node (o90 P) (u149 P) (.node o218 (lE o346) .nil)
def u151 (P : Params) : BT := .node o250 (lE (o12 P)) .nil
def u152 (P : Params) : BT := .node o166 (lE (o12 P)) (lE (o11 P))
def u153 (P : Params) : BT := .node (o11 P) (.node (o70 P) (.node o134 (lE (o262 P)) (lE (o390 P))) u74) (.node (o11 P) (u152 P) (.node (o11 P) (lE o358) .nil))
def u154 (P : Params) : BT := .node (o11 P) (lE o278) (lE (o12 P))
def u155 (P : Params) : BT := .node (o12 P) (u154 P) (.node (o12 P) (lE (o11 P)) .nil)
def u156 : BT := .node o246 (lE o374) .nil
def u157 (P : Params) : BT := .node (o11 P) (.node o142 (lE o270) (lE (o11 P))) (u76 P)
def u158 (P : Params) : BT := .node o238 (lE (o11 P)) .nil
def u159 (P : Params) : BT := .node (o12 P) (lE (o11 P)) (lE o414)
def u160 (P : Params) : BT := .node (o94 P) (u159 P) (.node o222 (lE (o12 P)) .nil)
def u161 : BT := .node o254 (lE o382) .nil
def t8 (P : Params) : BT := .node (boot_o_0 P) (.node (boot_o_1 P) (.node (⟨.type "dict", none, .dict (.mk (en P "__name__" 165 (.str "snobol.pattern_machine" 811) :: ((e_o3 P).take 77).tail)) 77, .mk []⟩) (.node (boot_o_7 P) (.node (o15 P) (.node (o11 P) (.node o63 (u79 P) (u42 P)) (u81 P)) (.node o47 (u82 P) (.node (o111 P) (u43 P) u83))) (.node (o23 P) (u85 P) (.node (o11 P) (u87 P) (.node o119 u45 (u88 P))))) (.node (o11 P) (.node o19 (.node o35 (.node (o12 P) (u89 P) (u46 P)) (u91 P)) (.node (o51 P) (u93 P) (.node (o115 P) (u10 P) (u94 P)))) (.node (o11 P) (.node o43 (u95 P) (.node (o12 P) (u49 P) (u10 P))) (.node (o11 P) (u98 P) (.node o123 (u50 P) (u99 P)))))) (.node (boot_o_5 P) (.node (boot_o_9 P) (.node (o11 P) (.node o33 (.node (o65 P) (u100 P) (u51 P)) (u102 P)) (.node o49 (u103 P) (.node o113 (u52 P) (u104 P)))) (.node (o12 P) (u106 P) (.node (o57 P) (u108 P) (.node o121 (u54 P) (u10 P))))) (.node (o13 P) (.node o21 (.node (o37 P) (.node (o69 P) (u110 P) u55) (u112 P)) (.node (o12 P) (u114 P) (.node (o11 P) (u56 P) (u115 P)))) (.node (o29 P) (.node (o11 P) (u116 P) (.node (o11 P) (u58 P) (u117 P))) (.node o61 (u119 P) (.node o125 (u59 P) u120)))))) (.node (o2_3 P) (.node (boot_o_4 P) (.node (boot_o_8 P) (.node (o16 P) (.node (o12 P) (.node (o64 P) (u121 P) (u60 P)) (u123 P)) (.node (o11 P) (u124 P) (.node (o112 P) u61 (u125 P)))) (.node (o11 P) (u127 P) (.node o56 (u129 P) (.node o120 (u63 P) (u130 P))))) (.node (⟨.none, none, .fields (.mk ((e_o12 P).take 123)), .mk []⟩) (.node (o11 P) (.node (o36 P) (.node o68 u131 (u64 P)) (u133 P)) (.node (o11 P) (u135 P) (.node o116 (u65 P) (u136 P)))) (.node o28 (.node o44 (u137 P) (.node o108 (u51 P) (u138 P))) (.node (o12 P) (u140 P) (.node (o12 P) u68 (u141 P)))))) (.node (boot_o_6 P) (.node (boot_o_10 P) (.node (o12 P) (.node (o11 P) (.node (o11 P) (u142 P) (u69 P)) (u144 P)) (.node (o50 P) (u145 P) (.node o39 (u70 P) (u10 P)))) (.node o26 (.node o42 (u147 P) (.node (o11 P) (u72 P) (u148 P))) (.node (o58 P) (u150 P) (.node o122 (u73 P) (u151 P))))) (.node (o14 P) (.node (o22 P) (u153 P) (.node o54 (u155 P) (.node o118 (u75 P) u156))) (.node (o30 P) (.node (o12 P) (u157 P) (.node o110 (u77 P) (u158 P))) (.node (o11 P) (u160 P) (.node (o11 P) u78 u161))))))
def S8 (w : World) (os : OsState) : SharedT := ⟨t8 w.params, 426, lf, .mk [], boot_drawn, 813, os⟩
def o428 (P : Params) : Obj := ⟨.type "dict", none, .dict (.mk [en P "__module__" 826 (.str "snobol.pattern_machine" 811), en P "__qualname__" 828 (.str "Way" 827), en P "__firstlineno__" 830 (.int 305 829), en P "__init__" 843 (.ref 439), en P "copied" 851 (.ref 446), en P "__static_attributes__" 858 (.ref 447)]) 6, .mk []⟩
def o430 : Obj := oF [.int 307 0, .int 4 0, .ref 438, .int 315 0, .int 4 0, .ref 445]
def o431 : Obj := oC [.str "Way" 821, .str "Way" 822, .str "/claim/cut.py" 823, .int 305 0, .int 0 0, .int 0 0, .int 0 0, .int 0 0, .ref 429, .bool false, .int 181 0, .ref 430, .none, .none, .none, .none, .int 824 0, .int 305 0, .str "/claim/cut.py" 825]
noncomputable def o432 : Obj := ⟨.type "frame", none, .plain, .mk [some (.ref 431), some (.ref 3), some (.ref 428), none, some (.str "snobol.pattern_machine" 811), none, some (.ref 0)]⟩
def o435 : Obj := oT [.str "self" 834, .str "orders" 835, .str "pc" 836, .str "at" 837, .str "named" 838, .str "marks" 839, .str "calls" 840]
def o437 : Obj := oG (fd0 (mt 76 0) "Way.__init__")
def o438 (P : Params) : Obj := oC [.str "__init__" 831, .str "Way.__init__" 832, .str "/claim/cut.py" 833, .int 307 0, .int 7 0, .int 0 0, .int 0 0, .int 3 0, .ref 433, .bool true, .int 181 0, .ref 434, .none, .ref 435, .ref 436, .ref 437, .int 841 0, .int 307 0, .str "/claim/cut.py" 842]
def o439 (P : Params) : Obj := oU (fd (mt 76 0) "Way.__init__" (.none) (.str "snobol.pattern_machine" 811) (.ref 438))
def o442 : Obj := oT [.str "self" 847, .str "pc" 848]
def o444 : Obj := oG (fd0 (mt 76 1) "Way.copied")
def o445 (P : Params) : Obj := oC [.str "copied" 844, .str "Way.copied" 845, .str "/claim/cut.py" 846, .int 315 0, .int 2 0, .int 0 0, .int 0 0, .int 3 0, .ref 440, .bool true, .int 181 0, .ref 441, .none, .ref 442, .ref 443, .ref 444, .int 849 0, .int 315 0, .str "/claim/cut.py" 850]
def o446 (P : Params) : Obj := oU (fd (mt 76 1) "Way.copied" (.none) (.str "snobol.pattern_machine" 811) (.ref 445))
def o447 : Obj := oT [.str "at" 852, .str "calls" 853, .str "marks" 854, .str "named" 855, .str "orders" 856, .str "pc" 857]
def o448 (P : Params) : Obj := ⟨.type "dict", none, .dict (.mk [en P "__module__" 826 (.str "snobol.pattern_machine" 811), en P "__firstlineno__" 830 (.int 305 829), en P "__init__" 843 (.ref 439), en P "copied" 851 (.ref 446), en P "__static_attributes__" 858 (.ref 447), en P "__dict__" 860 (.ref 450), en P "__weakref__" 862 (.ref 451), en P "__doc__" 863 (.none)]) 4, .mk []⟩
def o449 (P : Params) : Obj := ⟨.type "type", none, .cls (cd "Way" [.type "object"] [.ref 449, .type "object"] 448 [] true false false), .mk [none, none, some (.str "Way" 819), some (.str "Way" 827), some (.builtin "object.__new__"), some (.bool true)]⟩
noncomputable def o450 : Obj := ⟨.type "getset_descriptor", none, .fields (.mk [.str "__dict__" 859, .ref 449, .builtin "function.__dict__", .builtin "function.__dict__#set"]), .mk []⟩
noncomputable def o451 : Obj := ⟨.type "getset_descriptor", none, .fields (.mk [.str "__weakref__" 861, .ref 449, .builtin "ExceptionGroup.__weakref__", .none]), .mk []⟩
noncomputable def o452 : Obj := ⟨.type "super", none, .fields (.mk [.ref 449, .ref 449, .ref 449]), .mk []⟩
noncomputable def o453 : Obj := ⟨.type "builtin_function_or_method", none, .fields (.mk [.builtin "object.__init_subclass__", .ref 449]), .mk []⟩
def u162 (P : Params) : BT := .node o191 (lE (o319 P)) (lE o447)
def u163 (P : Params) : BT := .node o175 (lE (o11 P)) (lE o431)
def u164 (P : Params) : BT := .node o183 (lE o311) (lE (o439 P))
def u165 (P : Params) : BT := .node (o11 P) (lE o323) (lE o451)
def u166 (P : Params) : BT := .node (o12 P) (lE (o11 P)) (lE o435)
def u167 (P : Params) : BT := .node (o11 P) (lE (o299 P)) (lE o39)
def u168 (P : Params) : BT := .node o187 (lE (o12 P)) (lE (o11 P))
def u169 (P : Params) : BT := .node o39 (lE (o11 P)) (lE (o449 P))
def u170 (P : Params) : BT := .node o177 (lE (o305 P)) (lE (o11 P))
def u171 (P : Params) : BT := .node o185 (lE (o313 P)) (lE (o12 P))
def u172 : BT := .node o197 (lE o325) (lE o453)
def u173 (P : Params) : BT := .node (o11 P) (lE o309) (lE o437)
def u174 (P : Params) : BT := .node (o173 P) (lE (o12 P)) (lE (o11 P))
def u175 (P : Params) : BT := .node o189 (lE (o11 P)) (lE (o445 P))
def u176 (P : Params) : BT := .node (o11 P) (lE (o320 P)) (lE (o448 P))
def u177 : BT := .node o176 (lE o304) (lE o432)
def u178 (P : Params) : BT := .node o184 (lE (o312 P)) (lE (o11 P))
def u179 (P : Params) : BT := .node o196 (lE (o11 P)) (lE o452)
def u180 (P : Params) : BT := .node o180 (lE (o12 P)) (lE (o11 P))
def u181 (P : Params) : BT := .node o39 (lE (o11 P)) (lE (o428 P))
def u182 : BT := .node o188 (lE o316) (lE o444)
def u183 (P : Params) : BT := .node (o194 P) (lE (o12 P)) (lE o450)
def u184 (P : Params) : BT := .node (o11 P) (lE (o306 P)) (lE (o12 P))
def u185 (P : Params) : BT := .node o170 (lE (o298 P)) (lE (o11 P))
def u186 (P : Params) : BT := .node (o186 P) (lE (o11 P)) (lE o442)
def u187 (P : Params) : BT := .node o182 (lE (o11 P)) (lE (o438 P))
def u188 (P : Params) : BT := .node (o11 P) (lE o302) (lE o430)
def u189 (P : Params) : BT := .node o190 (lE o318) (lE (o446 P))
def t9 (P : Params) : BT := .node (boot_o_0 P) (.node (boot_o_1 P) (.node (⟨.type "dict", none, .dict (.mk (en P "__name__" 165 (.str "snobol.pattern_machine" 811) :: ((e_o3 P).take 81).tail)) 81, .mk []⟩) (.node (boot_o_7 P) (.node (o15 P) (.node (o11 P) (.node o63 (u79 P) (u162 P)) (u81 P)) (.node o47 (u82 P) (.node (o111 P) (u163 P) u83))) (.node (o23 P) (u85 P) (.node (o11 P) (u87 P) (.node o119 (u164 P) (u88 P))))) (.node (o11 P) (.node o19 (.node o35 (.node (o12 P) (u89 P) (u165 P)) (u91 P)) (.node (o51 P) (u93 P) (.node (o115 P) (u166 P) (u94 P)))) (.node (o11 P) (.node o43 (u95 P) (.node (o12 P) (u167 P) (u10 P))) (.node (o11 P) (u98 P) (.node o123 (u168 P) (u99 P)))))) (.node (boot_o_5 P) (.node (boot_o_9 P) (.node (o11 P) (.node o33 (.node (o65 P) (u100 P) (u169 P)) (u102 P)) (.node o49 (u103 P) (.node o113 (u170 P) (u104 P)))) (.node (o12 P) (u106 P) (.node (o57 P) (u108 P) (.node o121 (u171 P) (u10 P))))) (.node (o13 P) (.node o21 (.node (o37 P) (.node (o69 P) (u110 P) u172) (u112 P)) (.node (o12 P) (u114 P) (.node (o11 P) (u173 P) (u115 P)))) (.node (o29 P) (.node (o11 P) (u116 P) (.node (o11 P) (u174 P) (u117 P))) (.node o61 (u119 P) (.node o125 (u175 P) u120)))))) (.node (o2_3 P) (.node (boot_o_4 P) (.node (boot_o_8 P) (.node (o16 P) (.node (o12 P) (.node (o64 P) (u121 P) (u176 P)) (u123 P)) (.node (o11 P) (u124 P) (.node (o112 P) u177 (u125 P)))) (.node (o11 P) (u127 P) (.node o56 (u129 P) (.node o120 (u178 P) (u130 P))))) (.node (⟨.none, none, .fields (.mk ((e_o12 P).take 126)), .mk []⟩) (.node (o11 P) (.node (o36 P) (.node o68 u131 (u179 P)) (u133 P)) (.node (o11 P) (u135 P) (.node o116 (u180 P) (u136 P)))) (.node o28 (.node o44 (u137 P) (.node o108 (u181 P) (u138 P))) (.node (o12 P) (u140 P) (.node (o12 P) u182 (u141 P)))))) (.node (boot_o_6 P) (.node (boot_o_10 P) (.node (o12 P) (.node (o11 P) (.node (o11 P) (u142 P) (u183 P)) (u144 P)) (.node (o50 P) (u145 P) (.node o39 (u184 P) (u10 P)))) (.node o26 (.node o42 (u147 P) (.node (o11 P) (u185 P) (u148 P))) (.node (o58 P) (u150 P) (.node o122 (u186 P) (u151 P))))) (.node (o14 P) (.node (o22 P) (u153 P) (.node o54 (u155 P) (.node o118 (u187 P) u156))) (.node (o30 P) (.node (o12 P) (u157 P) (.node o110 (u188 P) (u158 P))) (.node (o11 P) (u160 P) (.node (o11 P) (u189 P) u161))))))
def S9 (w : World) (os : OsState) : SharedT := ⟨t9 w.params, 454, lf, .mk [], boot_drawn, 866, os⟩
def o456 (P : Params) : Obj := ⟨.type "dict", none, .dict (.mk [en P "__module__" 873 (.str "snobol.pattern_machine" 811), en P "__qualname__" 875 (.str "Match" 874), en P "__firstlineno__" 877 (.int 317 876), en P "__init__" 886 (.ref 467), en P "run" 897 (.ref 474), en P "way_back" 904 (.ref 481), en P "done" 914 (.ref 488), en P "met_once" 926 (.ref 495), en P "ended" 938 (.ref 502), en P "other" 948 (.ref 509), en P "met_often" 959 (.ref 516), en P "asked" 969 (.ref 523), en P "__static_attributes__" 973 (.ref 524)]) 13, .mk []⟩
def o458 : Obj := oF [.int 319 0, .int 4 0, .ref 466, .int 324 0, .int 4 0, .ref 473, .int 339 0, .int 4 0, .ref 480, .int 342 0, .int 4 0, .ref 487, .int 364 0, .int 4 0, .ref 494, .int 378 0, .int 4 0, .ref 501, .int 389 0, .int 4 0, .ref 508, .int 407 0, .int 4 0, .ref 515, .int 418 0, .int 4 0, .ref 522]
def o459 : Obj := oC [.str "Match" 868, .str "Match" 869, .str "/claim/cut.py" 870, .int 317 0, .int 0 0, .int 0 0, .int 0 0, .int 0 0, .ref 457, .bool false, .int 181 0, .ref 458, .none, .none, .none, .none, .int 871 0, .int 317 0, .str "/claim/cut.py" 872]
noncomputable def o460 : Obj := ⟨.type "frame", none, .plain, .mk [some (.ref 459), some (.ref 3), some (.ref 456), none, some (.str "snobol.pattern_machine" 811), none, some (.ref 0)]⟩
def o463 : Obj := oT [.str "self" 881, .str "subject" 882, .str "host" 883]
def o465 : Obj := oG (fd0 (mt 77 0) "Match.__init__")
def o466 (P : Params) : Obj := oC [.str "__init__" 878, .str "Match.__init__" 879, .str "/claim/cut.py" 880, .int 319 0, .int 3 0, .int 0 0, .int 0 0, .int 3 0, .ref 461, .bool true, .int 181 0, .ref 462, .none, .ref 463, .ref 464, .ref 465, .int 884 0, .int 319 0, .str "/claim/cut.py" 885]
def o467 (P : Params) : Obj := oU (fd (mt 77 0) "Match.__init__" (.none) (.str "snobol.pattern_machine" 811) (.ref 466))
def o470 : Obj := oT [.str "self" 890, .str "orders" 891, .str "begin" 892, .str "way" 893, .str "order" 894]
def o472 : Obj := oG (fd0 (mt 77 1) "Match.run")
def o473 (P : Params) : Obj := oC [.str "run" 887, .str "Match.run" 888, .str "/claim/cut.py" 889, .int 324 0, .int 3 0, .int 0 0, .int 0 0, .int 3 0, .ref 468, .bool true, .int 181 0, .ref 469, .none, .ref 470, .ref 471, .ref 472, .int 895 0, .int 324 0, .str "/claim/cut.py" 896]
def o474 (P : Params) : Obj := oU (fd (mt 77 1) "Match.run" (.none) (.str "snobol.pattern_machine" 811) (.ref 473))
def o477 : Obj := oT [.str "self" 901]
def o479 : Obj := oG (fd0 (mt 77 2) "Match.way_back")
def o480 (P : Params) : Obj := oC [.str "way_back" 898, .str "Match.way_back" 899, .str "/claim/cut.py" 900, .int 339 0, .int 1 0, .int 0 0, .int 0 0, .int 3 0, .ref 475, .bool true, .int 181 0, .ref 476, .none, .ref 477, .ref 478, .ref 479, .int 902 0, .int 339 0, .str "/claim/cut.py" 903]
def o481 (P : Params) : Obj := oU (fd (mt 77 2) "Match.way_back" (.none) (.str "snobol.pattern_machine" 811) (.ref 480))
def o484 : Obj := oT [.str "self" 908, .str "order" 909, .str "way" 910, .str "word" 911]
def o486 : Obj := oG (fd0 (mt 77 3) "Match.done")
def o487 (P : Params) : Obj := oC [.str "done" 905, .str "Match.done" 906, .str "/claim/cut.py" 907, .int 342 0, .int 3 0, .int 0 0, .int 0 0, .int 3 0, .ref 482, .bool true, .int 181 0, .ref 483, .none, .ref 484, .ref 485, .ref 486, .int 912 0, .int 342 0, .str "/claim/cut.py" 913]
def o488 (P : Params) : Obj := oU (fd (mt 77 3) "Match.done" (.none) (.str "snobol.pattern_machine" 811) (.ref 487))
def o491 : Obj := oT [.str "self" 918, .str "order" 919, .str "way" 920, .str "told" 921, .str "node" 922, .str "end" 923]
def o493 : Obj := oG (fd0 (mt 77 4) "Match.met_once")
def o494 (P : Params) : Obj := oC [.str "met_once" 915, .str "Match.met_once" 916, .str "/claim/cut.py" 917, .int 364 0, .int 3 0, .int 0 0, .int 0 0, .int 3 0, .ref 489, .bool true, .int 181 0, .ref 490, .none, .ref 491, .ref 492, .ref 493, .int 924 0, .int 364 0, .str "/claim/cut.py" 925]
def o495 (P : Params) : Obj := oU (fd (mt 77 4) "Match.met_once" (.none) (.str "snobol.pattern_machine" 811) (.ref 494))
def o498 : Obj := oT [.str "self" 930, .str "order" 931, .str "way" 932, .str "marks" 933, .str "begin" 934, .str "text" 935]
def o500 : Obj := oG (fd0 (mt 77 5) "Match.ended")
def o501 (P : Params) : Obj := oC [.str "ended" 927, .str "Match.ended" 928, .str "/claim/cut.py" 929, .int 378 0, .int 3 0, .int 0 0, .int 0 0, .int 3 0, .ref 496, .bool true, .int 181 0, .ref 497, .none, .ref 498, .ref 499, .ref 500, .int 936 0, .int 378 0, .str "/claim/cut.py" 937]
def o502 (P : Params) : Obj := oU (fd (mt 77 5) "Match.ended" (.none) (.str "snobol.pattern_machine" 811) (.ref 501))
def o505 : Obj := oT [.str "self" 942, .str "order" 943, .str "way" 944, .str "word" 945]
def o507 : Obj := oG (fd0 (mt 77 6) "Match.other")
def o508 (P : Params) : Obj := oC [.str "other" 939, .str "Match.other" 940, .str "/claim/cut.py" 941, .int 389 0, .int 3 0, .int 0 0, .int 0 0, .int 3 0, .ref 503, .bool true, .int 181 0, .ref 504, .none, .ref 505, .ref 506, .ref 507, .int 946 0, .int 389 0, .str "/claim/cut.py" 947]
def o509 (P : Params) : Obj := oU (fd (mt 77 6) "Match.other" (.none) (.str "snobol.pattern_machine" 811) (.ref 508))
def o515 (P : Params) : Obj := oC [.str "met_often" 949, .str "Match.met_often" 950, .str "/claim/cut.py" 951, .int 407 0, .int 3 0, .int 0 0, .int 0 0, .int 3 0, .ref 510, .bool true, .int 181 0, .ref 511, .none, .ref 512, .ref 513, .ref 514, .int 957 0, .int 407 0, .str "/claim/cut.py" 958]
def o516 (P : Params) : Obj := oU (fd (mt 77 7) "Match.met_often" (.none) (.str "snobol.pattern_machine" 811) (.ref 515))
def o523 (P : Params) : Obj := oU (fd (mt 77 8) "Match.asked" (.none) (.str "snobol.pattern_machine" 811) (.ref 522))
def o525 (P : Params) : Obj := ⟨.type "dict", none, .dict (.mk [en P "__module__" 873 (.str "snobol.pattern_machine" 811), en P "__firstlineno__" 877 (.int 317 876), en P "__init__" 886 (.ref 467), en P "run" 897 (.ref 474), en P "way_back" 904 (.ref 481), en P "done" 914 (.ref 488), en P "met_once" 926 (.ref 495), en P "ended" 938 (.ref 502), en P "other" 948 (.ref 509), en P "met_often" 959 (.ref 516), en P "asked" 969 (.ref 523), en P "__static_attributes__" 973 (.ref 524), en P "__dict__" 975 (.ref 527), en P "__weakref__" 977 (.ref 528), en P "__doc__" 978 (.none)]) 4, .mk []⟩
def o526 (P : Params) : Obj := ⟨.type "type", none, .cls (cd "Match" [.type "object"] [.ref 526, .type "object"] 525 [] true false false), .mk [none, none, some (.str "Match" 866), some (.str "Match" 874), some (.builtin "object.__new__"), some (.bool true)]⟩
def u190 (P : Params) : BT := .node (o11 P) (lE (o12 P)) .nil
def u191 (P : Params) : BT := .node o127 (u190 P) (lE o383)
def u192 (P : Params) : BT := .node o63 (u191 P) (u162 P)
def u193 (P : Params) : BT := .node (o11 P) (lE o351) (lE o479)
def u194 : BT := .node o271 (lE (⟨.type "getset_descriptor", none, .fields (.mk [.str "__dict__" 974, .ref 526, .builtin "function.__dict__", .builtin "function.__dict__#set"]), .mk []⟩)) .nil
def u195 (P : Params) : BT := .node (o11 P) u194 (lE (o12 P))
def u196 (P : Params) : BT := .node o239 (lE o367) (lE (o495 P))
def u197 (P : Params) : BT := .node o47 (.node (o12 P) (u195 P) (.node (o207 P) (lE (o11 P)) (lE o463))) (.node (o111 P) (u163 P) (u196 P))
def u198 (P : Params) : BT := .node (o263 P) (lE (oT [.str "self" 963, .str "tree" 964, .str "way" 965, .str "value" 966])) .nil
def u199 (P : Params) : BT := .node o135 (u198 P) (lE (o11 P))
def u200 (P : Params) : BT := .node (o11 P) (u199 P) (.node (o11 P) (lE o327) (lE o39))
def u201 (P : Params) : BT := .node o231 (lE (o11 P)) (lE (o487 P))
def u202 (P : Params) : BT := .node o215 (lE (o12 P)) (lE (o11 P))
def u203 (P : Params) : BT := .node o247 (lE (o375 P)) (lE (o11 P))
def u204 (P : Params) : BT := .node o119 (u164 P) (u203 P)
def u205 (P : Params) : BT := .node o259 (lE (o515 P)) .nil
def u206 (P : Params) : BT := .node (o131 P) (u205 P) (lE (o11 P))
def u207 (P : Params) : BT := .node (o12 P) (u206 P) (u165 P)
def u208 (P : Params) : BT := .node (o11 P) (lE (o355 P)) (lE (o12 P))
def u209 (P : Params) : BT := .node o211 (lE o339) (lE (o467 P))
def u210 (P : Params) : BT := .node o243 (lE (o12 P)) (lE (o11 P))
def u211 (P : Params) : BT := .node (o115 P) (u166 P) (u210 P)
def u212 (P : Params) : BT := .node o267 (lE (o523 P)) .nil
def u213 (P : Params) : BT := .node (o11 P) (u212 P) (lE o395)
def u214 (P : Params) : BT := .node (o12 P) (lE (o11 P)) (lE o491)
def u215 (P : Params) : BT := .node o43 (.node o75 (u213 P) (.node o203 (lE (o11 P)) (lE o459))) (.node (o12 P) (u167 P) (u214 P))
def u216 (P : Params) : BT := .node o219 (lE (o347 P)) (lE (o11 P))
def u217 (P : Params) : BT := .node (o11 P) (lE o379) (lE o507)
def u218 (P : Params) : BT := .node o123 (u168 P) (u217 P)
def u219 (P : Params) : BT := .node o257 (lE (o11 P)) .nil
def u220 (P : Params) : BT := .node o129 (u219 P) (lE (o12 P))
def u221 (P : Params) : BT := .node (o65 P) (u220 P) (u169 P)
def u222 (P : Params) : BT := .node o225 (lE o353) (lE (o481 P))
def u223 (P : Params) : BT := .node (o12 P) (lE (⟨.type "super", none, .fields (.mk [.ref 526, .ref 526, .ref 526]), .mk []⟩)) .nil
def u224 (P : Params) : BT := .node o145 (u223 P) (lE (o11 P))
def u225 (P : Params) : BT := .node (o11 P) (lE (o369 P)) (lE (o12 P))
def u226 (P : Params) : BT := .node o49 (.node (o11 P) (u224 P) (.node o209 (lE o337) (lE o465))) (.node o113 (u170 P) (u225 P))
def u227 (P : Params) : BT := .node (o11 P) (lE (oG (fd0 (mt 77 8) "Match.asked"))) .nil
def u228 (P : Params) : BT := .node o39 (u227 P) (lE o393)
def u229 (P : Params) : BT := .node o233 (lE o361) (lE (o11 P))
def u230 (P : Params) : BT := .node (o11 P) (.node o73 (u228 P) (.node o201 (lE (o12 P)) (lE (o11 P)))) (.node (o105 P) (u105 P) (u229 P))
def u231 (P : Params) : BT := .node o217 (lE (o11 P)) (lE (o473 P))
def u232 (P : Params) : BT := .node (o12 P) (lE (o11 P)) (lE o505)
def u233 (P : Params) : BT := .node o121 (u171 P) (u232 P)
def u234 (P : Params) : BT := .node o261 (lE (o11 P)) .nil
def u235 (P : Params) : BT := .node o133 (u234 P) (lE (o389 P))
def u236 (P : Params) : BT := .node (o69 P) (u235 P) u172
def u237 (P : Params) : BT := .node o229 (lE (o12 P)) (lE (o11 P))
def u238 (P : Params) : BT := .node (o11 P) (lE o341) (lE (o12 P))
def u239 (P : Params) : BT := .node o245 (lE (o11 P)) (lE (o501 P))
def u240 (P : Params) : BT := .node (o11 P) (u173 P) (u239 P)
def u241 (P : Params) : BT := .node o269 (lE (o525 P)) .nil
def u242 (P : Params) : BT := .node o141 (u241 P) (lE (o397 P))
def u243 (P : Params) : BT := .node (o11 P) (lE o365) (lE o493)
def u244 (P : Params) : BT := .node (o11 P) (.node (o77 P) (u242 P) (.node (o205 P) (lE (o333 P)) (lE (o11 P)))) (.node (o11 P) (u174 P) (u243 P))
def u245 (P : Params) : BT := .node (o12 P) (lE (o11 P)) (lE o477)
def u246 (P : Params) : BT := .node o253 (lE o381) (lE (o509 P))
def u247 (P : Params) : BT := .node o125 (u175 P) (u246 P)
def u248 (P : Params) : BT := .node (o12 P) (lE (oT [.str "self" 952, .str "way" 953, .str "ends" 954, .str "end" 955, .str "other" 956])) .nil
def u249 (P : Params) : BT := .node o128 (u248 P) (lE (o11 P))
def u250 (P : Params) : BT := .node (o64 P) (u249 P) (u176 P)
def u251 (P : Params) : BT := .node o224 (lE (o11 P)) (lE (o480 P))
def u252 (P : Params) : BT := .node (o11 P) (lE (⟨.type "getset_descriptor", none, .fields (.mk [.str "__weakref__" 976, .ref 526, .builtin "ExceptionGroup.__weakref__", .none]), .mk []⟩)) .nil
def u253 (P : Params) : BT := .node (o144 P) (u252 P) (lE o400)
def u254 (P : Params) : BT := .node o240 (lE (o368 P)) (lE (o11 P))
def u255 (P : Params) : BT := .node (o11 P) (.node o80 (u253 P) (.node (o208 P) (lE (o12 P)) (lE (o11 P)))) (.node (o112 P) u177 (u254 P))
def u256 (P : Params) : BT := .node o264 (lE (o11 P)) .nil
def u257 (P : Params) : BT := .node (o11 P) (u256 P) (lE (o12 P))
def u258 (P : Params) : BT := .node o232 (lE o360) (lE (o488 P))
def u259 (P : Params) : BT := .node (o40 P) (.node (o12 P) (u257 P) (.node (o12 P) (lE (o11 P)) (lE (o456 P)))) (.node (o104 P) (u126 P) (u258 P))
def u260 (P : Params) : BT := .node (o11 P) (lE o344) (lE o472)
def u261 (P : Params) : BT := .node (o11 P) (lE (o376 P)) (lE (o12 P))
def u262 (P : Params) : BT := .node o120 (u178 P) (u261 P)
def u263 (P : Params) : BT := .node o260 (lE (o516 P)) .nil
def u264 (P : Params) : BT := .node o132 (u263 P) (lE o388)
def u265 (P : Params) : BT := .node o68 (u264 P) (u179 P)
def u266 (P : Params) : BT := .node (o12 P) (lE (o11 P)) (lE o484)
def u267 (P : Params) : BT := .node o212 (lE o340) (lE (o11 P))
def u268 (P : Params) : BT := .node (o11 P) (lE o372) (lE o500)
def u269 (P : Params) : BT := .node o116 (u180 P) (u268 P)
def u270 (P : Params) : BT := .node (o11 P) (lE (oT [.str "history" 970, .str "host" 971, .str "subject" 972])) .nil
def u271 (P : Params) : BT := .node (o12 P) (u270 P) (lE (o396 P))
def u272 (P : Params) : BT := .node o236 (lE (o12 P)) (lE (o11 P))
def u273 (P : Params) : BT := .node o44 (.node (o76 P) (u271 P) (.node (o204 P) (lE o332) (lE o460))) (.node o108 (u181 P) (u272 P))
def u274 (P : Params) : BT := .node (o11 P) (lE (o348 P)) (lE (o12 P))
def u275 (P : Params) : BT := .node o252 (lE (o11 P)) (lE (o508 P))
def u276 (P : Params) : BT := .node (o12 P) u182 (u275 P)
def u277 (P : Params) : BT := .node (o11 P) (lE (oG (fd0 (mt 77 7) "Match.met_often"))) .nil
def u278 (P : Params) : BT := .node o130 (u277 P) (lE o386)
def u279 (P : Params) : BT := .node (o11 P) (u278 P) (u183 P)
def u280 (P : Params) : BT := .node o226 (lE (o354 P)) (lE (o11 P))
def u281 : BT := .node o274 (lE (⟨.type "builtin_function_or_method", none, .fields (.mk [.builtin "object.__init_subclass__", .ref 526]), .mk []⟩)) .nil
def u282 : BT := .node o146 u281 (lE o402)
def u283 (P : Params) : BT := .node (o12 P) (lE (o11 P)) (lE o498)
def u284 (P : Params) : BT := .node (o50 P) (.node o82 u282 (.node o210 (lE (o11 P)) (lE (o466 P)))) (.node o39 (u184 P) (u283 P))
def u285 (P : Params) : BT := .node (o12 P) (lE (oC [.str "asked" 960, .str "Match.asked" 961, .str "/claim/cut.py" 962, .int 418 0, .int 3 0, .int 0 0, .int 0 0, .int 3 0, .ref 517, .bool true, .int 181 0, .ref 518, .none, .ref 519, .ref 520, .ref 521, .int 967 0, .int 418 0, .str "/claim/cut.py" 968])) .nil
def u286 (P : Params) : BT := .node (o138 P) (u285 P) (lE (o11 P))
def u287 (P : Params) : BT := .node (o11 P) (lE o362) (lE (o12 P))
def u288 (P : Params) : BT := .node o42 (.node (o11 P) (u286 P) (.node (o11 P) (lE o330) (lE o458))) (.node (o11 P) (u185 P) (u287 P))
def u289 (P : Params) : BT := .node o218 (lE o346) (lE (o474 P))
def u290 (P : Params) : BT := .node o250 (lE (o12 P)) (lE (o11 P))
def u291 (P : Params) : BT := .node o122 (u186 P) (u290 P)
def u292 (P : Params) : BT := .node (o262 P) (lE (o12 P)) .nil
def u293 (P : Params) : BT := .node o134 (u292 P) (lE (o390 P))
def u294 (P : Params) : BT := .node (o70 P) (u293 P) (.node o198 (lE o326) (lE (o11 P)))
def u295 (P : Params) : BT := .node (o11 P) (lE o358) (lE o486)
def u296 (P : Params) : BT := .node (o12 P) (lE (o11 P)) (lE o470)
def u297 (P : Params) : BT := .node o246 (lE o374) (lE (o502 P))
def u298 (P : Params) : BT := .node o118 (u187 P) (u297 P)
def u299 (P : Params) : BT := .node o270 (lE (o526 P)) .nil
def u300 (P : Params) : BT := .node o142 (u299 P) (lE (o11 P))
def u301 (P : Params) : BT := .node o238 (lE (o11 P)) (lE (o494 P))
def u302 (P : Params) : BT := .node (o12 P) (.node (o11 P) (u300 P) (.node o206 (lE (o334 P)) (lE (o12 P)))) (.node o110 (u188 P) (u301 P))
def u303 (P : Params) : BT := .node o222 (lE (o12 P)) (lE (o11 P))
def u304 (P : Params) : BT := .node o254 (lE o382) (lE (o11 P))
def u305 (P : Params) : BT := .node (o11 P) (u189 P) (u304 P)
def t10 (P : Params) : BT := .node (boot_o_0 P) (.node (boot_o_1 P) (.node (⟨.type "dict", none, .dict (.mk (en P "__name__" 165 (.str "snobol.pattern_machine" 811) :: ((e_o3 P).take 82).tail)) 82, .mk []⟩) (.node (boot_o_7 P) (.node (o15 P) (.node (o11 P) (u192 P) (.node o95 (u80 P) (u193 P))) (u197 P)) (.node (o23 P) (.node o39 (u200 P) (.node o103 u84 (u201 P))) (.node (o11 P) (.node o87 (u86 P) (u202 P)) (u204 P)))) (.node (o11 P) (.node o19 (.node o35 (u207 P) (.node (o11 P) (u90 P) (u208 P))) (.node (o51 P) (.node (o83 P) (u92 P) (u209 P)) (u211 P))) (.node (o11 P) (u215 P) (.node (o11 P) (.node (o91 P) (u97 P) (u216 P)) (u218 P))))) (.node (boot_o_5 P) (.node (boot_o_9 P) (.node (o11 P) (.node o33 (u221 P) (.node o97 (u101 P) (u222 P))) (u226 P)) (.node (o12 P) (u230 P) (.node (o57 P) (.node o89 (u107 P) (u231 P)) (u233 P)))) (.node (o13 P) (.node o21 (.node (o37 P) (u236 P) (.node o101 (u111 P) (u237 P))) (.node (o12 P) (.node (o11 P) (u113 P) (u238 P)) (u240 P))) (.node (o29 P) (u244 P) (.node o61 (.node (o93 P) (u118 P) (u245 P)) (u247 P)))))) (.node (o2_3 P) (.node (boot_o_4 P) (.node (boot_o_8 P) (.node (o16 P) (.node (o12 P) (u250 P) (.node o96 (u122 P) (u251 P))) (u255 P)) (.node (o11 P) (u259 P) (.node o56 (.node (o11 P) (u128 P) (u260 P)) (u262 P)))) (.node (⟨.none, none, .fields (.mk ((e_o12 P).take 129)), .mk []⟩) (.node (o11 P) (.node (o36 P) (u265 P) (.node (o12 P) (u132 P) (u266 P))) (.node (o11 P) (.node (o84 P) (u134 P) (u267 P)) (u269 P))) (.node o28 (u273 P) (.node (o12 P) (.node o92 (u139 P) (u274 P)) (u276 P))))) (.node (boot_o_6 P) (.node (boot_o_10 P) (.node (o12 P) (.node (o11 P) (u279 P) (.node o98 (u143 P) (u280 P))) (u284 P)) (.node o26 (u288 P) (.node (o58 P) (.node (o90 P) (u149 P) (u289 P)) (u291 P)))) (.node (o14 P) (.node (o22 P) (.node (o11 P) (u294 P) (.node (o11 P) (u152 P) (u295 P))) (.node o54 (.node (o12 P) (u154 P) (u296 P)) (u298 P))) (.node (o30 P) (u302 P) (.node (o11 P) (.node (o94 P) (u159 P) (u303 P)) (u305 P))))))
def S10 (w : World) (os : OsState) : SharedT := ⟨t10 w.params, 531, lf, .mk [], boot_drawn, 981, os⟩
def o543 (P : Params) : Obj := oC [.str "match_orders" 990, .str "match_orders" 991, .str "/claim/cut.py" 992, .int 432 0, .int 4 0, .int 0 0, .int 0 0, .int 3 0, .ref 538, .bool true, .int 181 0, .ref 539, .none, .ref 540, .ref 541, .ref 542, .int 1000 0, .int 432 0, .str "/claim/cut.py" 1001]
def o544 (P : Params) : Obj := oU (fd (st 79) "match_orders" (.none) (.str "snobol.pattern_machine" 811) (.ref 543))
def o550 (P : Params) : Obj := oC [.str "match_compiled" 1003, .str "match_compiled" 1004, .str "/claim/cut.py" 1005, .int 440 0, .int 4 0, .int 0 0, .int 0 0, .int 3 0, .ref 545, .bool true, .int 181 0, .ref 546, .none, .ref 547, .ref 548, .ref 549, .int 1010 0, .int 440 0, .str "/claim/cut.py" 1011]
def o551 (P : Params) : Obj := oU (fd (st 80) "match_compiled" (.none) (.str "snobol.pattern_machine" 811) (.ref 550))
def u306 (P : Params) : BT := .node (o12 P) (lE (o543 P)) .nil
def u307 (P : Params) : BT := .node o159 (u306 P) (lE (o11 P))
def u308 (P : Params) : BT := .node o295 (lE (o551 P)) .nil
def u309 (P : Params) : BT := .node o103 (.node o167 (u308 P) (lE o423)) (u201 P)
def u310 (P : Params) : BT := .node (o11 P) (lE (oG (fd0 (st 78) "named_rows"))) .nil
def u311 (P : Params) : BT := .node o39 (u310 P) (lE o407)
def u312 (P : Params) : BT := .node (o291 P) (lE (oT [.str "node" 1006, .str "subject" 1007, .str "is_anchored" 1008, .str "host" 1009])) .nil
def u313 (P : Params) : BT := .node (o11 P) (.node o163 (u312 P) (lE (o11 P))) (u208 P)
def u314 (P : Params) : BT := .node (o11 P) (lE (o11 P)) .nil
def u315 (P : Params) : BT := .node o147 (u314 P) (lE (o403 P))
def u316 (P : Params) : BT := .node o283 (lE (o12 P)) .nil
def u317 (P : Params) : BT := .node o155 (u316 P) (lE (o411 P))
def u319 (P : Params) : BT := .node o97 (.node o161 (u314 P) (lE (o417 P))) (u222 P)
def u320 : BT := .node o281 (lE (oU (fd (st 78) "named_rows" (.none) (.str "snobol.pattern_machine" 811) (.ref 536)))) .nil
def u321 (P : Params) : BT := .node (o11 P) u320 (lE o409)
def u322 (P : Params) : BT := .node (o11 P) (lE (oG (fd0 (st 80) "match_compiled"))) .nil
def u323 (P : Params) : BT := .node o101 (.node (o165 P) (u322 P) (lE o421)) (u237 P)
def u324 : BT := .node o277 (lE (oT [.str "named" 984, .str "found" 985, .str "last" 986])) .nil
def u325 (P : Params) : BT := .node o149 u324 (lE (o11 P))
def u326 (P : Params) : BT := .node o285 (lE (o11 P)) .nil
def u327 (P : Params) : BT := .node (o11 P) (u326 P) (lE (o12 P))
def u328 (P : Params) : BT := .node o288 (lE (o544 P)) .nil
def u329 (P : Params) : BT := .node o96 (.node (o11 P) (u328 P) (lE o416)) (u251 P)
def u330 (P : Params) : BT := .node (o12 P) (lE (oC [.str "named_rows" 981, .str "named_rows" 982, .str "/claim/cut.py" 983, .int 425 0, .int 1 0, .int 0 0, .int 0 0, .int 3 0, .ref 531, .bool true, .int 181 0, .ref 532, .none, .ref 533, .ref 534, .ref 535, .int 987 0, .int 425 0, .str "/claim/cut.py" 988])) .nil
def u331 (P : Params) : BT := .node (o152 P) (u330 P) (lE (o11 P))
def u332 (P : Params) : BT := .node (o292 P) (lE (o11 P)) .nil
def u333 (P : Params) : BT := .node (o12 P) (.node o164 (u332 P) (lE (o12 P))) (u266 P)
def u334 (P : Params) : BT := .node o276 (lE (o12 P)) .nil
def u335 (P : Params) : BT := .node o148 (u334 P) (lE (o404 P))
def u336 : BT := .node o284 (lE (oT [.str "orders" 993, .str "subject" 994, .str "is_anchored" 995, .str "host" 996, .str "begin" 997, .str "how" 998, .str "way" 999])) .nil
def u337 (P : Params) : BT := .node o156 u336 (lE (o11 P))
def u338 (P : Params) : BT := .node o290 (lE (o12 P)) .nil
def u339 (P : Params) : BT := .node o98 (.node o162 (u338 P) (lE (o418 P))) (u280 P)
def u341 (P : Params) : BT := .node o154 (u314 P) (lE (o410 P))
def u342 (P : Params) : BT := .node (o12 P) (lE (o550 P)) .nil
def u343 (P : Params) : BT := .node (o11 P) (.node o166 (u342 P) (lE (o11 P))) (u295 P)
def u344 (P : Params) : BT := .node o278 (lE (o11 P)) .nil
def u345 (P : Params) : BT := .node (o11 P) (u344 P) (lE (o12 P))
def u346 (P : Params) : BT := .node (o11 P) (lE (oG (fd0 (st 79) "match_orders"))) .nil
def u347 (P : Params) : BT := .node (o12 P) (u346 P) (lE o414)
def t11 (P : Params) : BT := .node (boot_o_0 P) (.node (boot_o_1 P) (.node (⟨.type "dict", none, .dict (.mk (en P "__name__" 165 (.str "snobol.hosts" 1013) :: ((e_o3 P).take 85).tail)) 85, .mk []⟩) (.node (boot_o_7 P) (.node (o15 P) (.node (o11 P) (u192 P) (.node o95 (u307 P) (u193 P))) (u197 P)) (.node (o23 P) (.node o39 (u200 P) (u309 P)) (.node (o11 P) (.node o87 (u311 P) (u202 P)) (u204 P)))) (.node (o11 P) (.node o19 (.node o35 (u207 P) (u313 P)) (.node (o51 P) (.node (o83 P) (u315 P) (u209 P)) (u211 P))) (.node (o11 P) (u215 P) (.node (o11 P) (.node (o91 P) (u317 P) (u216 P)) (u218 P))))) (.node (boot_o_5 P) (.node (boot_o_9 P) (.node (o11 P) (.node o33 (u221 P) (u319 P)) (u226 P)) (.node (o12 P) (u230 P) (.node (o57 P) (.node o89 (u321 P) (u231 P)) (u233 P)))) (.node (o13 P) (.node o21 (.node (o37 P) (u236 P) (u323 P)) (.node (o12 P) (.node (o11 P) (u325 P) (u238 P)) (u240 P))) (.node (o29 P) (u244 P) (.node o61 (.node (o93 P) (u327 P) (u245 P)) (u247 P)))))) (.node (o2_3 P) (.node (boot_o_4 P) (.node (boot_o_8 P) (.node (o16 P) (.node (o12 P) (u250 P) (u329 P)) (u255 P)) (.node (o11 P) (u259 P) (.node o56 (.node (o11 P) (u331 P) (u260 P)) (u262 P)))) (.node (⟨.none, none, .fields (.mk ((e_o12 P).take 138)), .mk []⟩) (.node (o11 P) (.node (o36 P) (u265 P) (u333 P)) (.node (o11 P) (.node (o84 P) (u335 P) (u267 P)) (u269 P))) (.node o28 (u273 P) (.node (o12 P) (.node o92 (u337 P) (u274 P)) (u276 P))))) (.node (boot_o_6 P) (.node (boot_o_10 P) (.node (o12 P) (.node (o11 P) (u279 P) (u339 P)) (u284 P)) (.node o26 (u288 P) (.node (o58 P) (.node (o90 P) (u341 P) (u289 P)) (u291 P)))) (.node (o14 P) (.node (o22 P) (.node (o11 P) (u294 P) (u343 P)) (.node o54 (.node (o12 P) (u345 P) (u296 P)) (u298 P))) (.node (o30 P) (u302 P) (.node (o11 P) (.node (o94 P) (u347 P) (u303 P)) (u305 P))))))
def S11 (w : World) (os : OsState) : SharedT := ⟨t11 w.params, 552, lf, .mk [], boot_drawn, 1015, os⟩
def o564 (P : Params) : Obj := oC [.str "__init__" 1027, .str "PlainHost.__init__" 1028, .str "/claim/cut.py" 1029, .int 445 0, .int 4 0, .int 0 0, .int 0 0, .int 3 0, .ref 559, .bool true, .int 181 0, .ref 560, .none, .ref 561, .ref 562, .ref 563, .int 1034 0, .int 445 0, .str "/claim/cut.py" 1035]
def o565 (P : Params) : Obj := oU (fd (mt 82 0) "PlainHost.__init__" (.none) (.str "snobol.hosts" 1013) (.ref 564))
def o572 (P : Params) : Obj := oU (fd (mt 82 1) "PlainHost.value_of" (.none) (.str "snobol.hosts" 1013) (.ref 571))
def o578 (P : Params) : Obj := oC [.str "assign" 1045, .str "PlainHost.assign" 1046, .str "/claim/cut.py" 1047, .int 458 0, .int 3 0, .int 0 0, .int 0 0, .int 3 0, .ref 573, .bool true, .int 181 0, .ref 574, .none, .ref 575, .ref 576, .ref 577, .int 1051 0, .int 458 0, .str "/claim/cut.py" 1052]
def o579 (P : Params) : Obj := oU (fd (mt 82 2) "PlainHost.assign" (.none) (.str "snobol.hosts" 1013) (.ref 578))
def o585 (P : Params) : Obj := oC [.str "step" 1054, .str "PlainHost.step" 1055, .str "/claim/cut.py" 1056, .int 465 0, .int 1 0, .int 0 0, .int 0 0, .int 3 0, .ref 580, .bool true, .int 181 0, .ref 581, .none, .ref 582, .ref 583, .ref 584, .int 1058 0, .int 465 0, .str "/claim/cut.py" 1059]
def o586 (P : Params) : Obj := oU (fd (mt 82 3) "PlainHost.step" (.none) (.str "snobol.hosts" 1013) (.ref 585))
def o588 (P : Params) : Obj := ⟨.type "dict", none, .dict (.mk [en P "__module__" 1022 (.str "snobol.hosts" 1013), en P "__firstlineno__" 1026 (.int 443 1025), en P "__init__" 1036 (.ref 565), en P "value_of" 1044 (.ref 572), en P "assign" 1053 (.ref 579), en P "step" 1060 (.ref 586), en P "__static_attributes__" 1067 (.ref 587), en P "__dict__" 1069 (.ref 590), en P "__weakref__" 1071 (.ref 591), en P "__doc__" 1072 (.none)]) 4, .mk []⟩
def o589 (P : Params) : Obj := ⟨.type "type", none, .cls (cd "PlainHost" [.type "object"] [.ref 589, .type "object"] 588 [] true false false), .mk [none, none, some (.str "PlainHost" 1015), some (.str "PlainHost" 1023), some (.builtin "object.__new__"), some (.bool true)]⟩
def o599 (P : Params) : Obj := oC [.str "match_plain" 1079, .str "match_plain" 1080, .str "/claim/cut.py" 1081, .int 471 0, .int 4 0, .int 0 0, .int 0 0, .int 3 0, .ref 594, .bool true, .int 181 0, .ref 595, .none, .ref 596, .ref 597, .ref 598, .int 1088 0, .int 471 0, .str "/claim/cut.py" 1089]
def o600 (P : Params) : Obj := oU (fd (st 85) "match_plain" (.none) (.str "snobol.trial" 1075) (.ref 599))
def o606 (P : Params) : Obj := oC [.str "match_at" 1091, .str "match_at" 1092, .str "/claim/cut.py" 1093, .int 477 0, .int 4 0, .int 0 0, .int 0 0, .int 3 0, .ref 601, .bool true, .int 181 0, .ref 602, .none, .ref 603, .ref 604, .ref 605, .int 1099 0, .int 477 0, .str "/claim/cut.py" 1100]
def o607 (P : Params) : Obj := oU (fd (st 86) "match_at" (.none) (.str "snobol.trial" 1075) (.ref 606))
def u348 (P : Params) : BT := .node (o319 P) (lE (oT [.str "self" 1048, .str "ref" 1049, .str "value" 1050])) .nil
def u349 (P : Params) : BT := .node o191 (u348 P) (lE o447)
def u350 (P : Params) : BT := .node (o11 P) (.node o351 (lE (o607 P)) .nil) (lE o479)
def u351 (P : Params) : BT := .node (o207 P) (.node (o11 P) (lE (⟨.type "getset_descriptor", none, .fields (.mk [.str "__weakref__" 1070, .ref 589, .builtin "ExceptionGroup.__weakref__", .none]), .mk []⟩)) .nil) (lE o463)
def u353 (P : Params) : BT := .node (o11 P) (.node o327 (lE (o11 P)) .nil) (lE o39)
def u354 (P : Params) : BT := .node o215 (.node (o12 P) (lE (o599 P)) .nil) (lE (o11 P))
def u355 (P : Params) : BT := .node o311 (lE (o12 P)) .nil
def u356 (P : Params) : BT := .node o183 (u355 P) (lE (o439 P))
def u357 (P : Params) : BT := .node (o11 P) (.node o323 (lE (o579 P)) .nil) (lE o451)
def u358 (P : Params) : BT := .node o211 (.node o339 (lE (o12 P)) .nil) (lE (o467 P))
def u359 (P : Params) : BT := .node (o11 P) (lE (oG (fd0 (mt 82 0) "PlainHost.__init__"))) .nil
def u360 (P : Params) : BT := .node (o12 P) (u359 P) (lE o435)
def u361 (P : Params) : BT := .node o203 (.node (o11 P) (lE (oT [.str "limit" 1061, .str "log" 1062, .str "refused" 1063, .str "steps" 1064, .str "values" 1065, .str "width" 1066])) .nil) (lE o459)
def u362 (P : Params) : BT := .node (o299 P) (lE (o11 P)) .nil
def u363 (P : Params) : BT := .node o219 (.node (o347 P) (lE (oT [.str "node" 1094, .str "subject" 1095, .str "begin" 1096, .str "host" 1097, .str "found" 1098])) .nil) (lE (o11 P))
def u364 (P : Params) : BT := .node (o12 P) (lE (oC [.str "value_of" 1037, .str "PlainHost.value_of" 1038, .str "/claim/cut.py" 1039, .int 453 0, .int 2 0, .int 0 0, .int 0 0, .int 3 0, .ref 566, .bool true, .int 181 0, .ref 567, .none, .ref 568, .ref 569, .ref 570, .int 1042 0, .int 453 0, .str "/claim/cut.py" 1043])) .nil
def u365 (P : Params) : BT := .node o187 (u364 P) (lE (o11 P))
def u366 (P : Params) : BT := .node (o11 P) (lE (oG (fd0 (mt 82 2) "PlainHost.assign"))) .nil
def u367 (P : Params) : BT := .node o39 (u366 P) (lE (o449 P))
def u368 : BT := .node o209 (.node o337 (lE (⟨.type "builtin_function_or_method", none, .fields (.mk [.builtin "object.__init_subclass__", .ref 589]), .mk []⟩)) .nil) (lE o465)
def u369 (P : Params) : BT := .node (o305 P) (lE (oT [.str "self" 1030, .str "values" 1031, .str "limit" 1032, .str "refused" 1033])) .nil
def u370 (P : Params) : BT := .node o201 (.node (o12 P) (lE (o585 P)) .nil) (lE (o11 P))
def u371 : BT := .node o297 (lE o39) .nil
def u372 (P : Params) : BT := .node o217 (.node (o11 P) (lE (o11 P)) .nil) (lE (o473 P))
def u373 (P : Params) : BT := .node (o313 P) (lE (o11 P)) .nil
def u374 (P : Params) : BT := .node o185 (u373 P) (lE (o12 P))
def u375 (P : Params) : BT := .node o197 (.node o325 (lE (o12 P)) .nil) (lE o453)
def u376 (P : Params) : BT := .node (o11 P) (.node o341 (lE (o11 P)) .nil) (lE (o12 P))
def u377 (P : Params) : BT := .node o309 (lE (o565 P)) .nil
def u378 (P : Params) : BT := .node (o11 P) (u377 P) (lE o437)
def u379 (P : Params) : BT := .node (o205 P) (.node (o333 P) (lE (o589 P)) .nil) (lE (o11 P))
def u380 (P : Params) : BT := .node (o12 P) (lE (oC [.str "PlainHost" 1017, .str "PlainHost" 1018, .str "/claim/cut.py" 1019, .int 443 0, .int 0 0, .int 0 0, .int 0 0, .int 0 0, .ref 555, .bool false, .int 181 0, .ref 556, .none, .none, .none, .none, .int 1020 0, .int 443 0, .str "/claim/cut.py" 1021])) .nil
def u381 (P : Params) : BT := .node (o12 P) (.node (o11 P) (lE (oG (fd0 (st 86) "match_at"))) .nil) (lE o477)
def u383 (P : Params) : BT := .node o189 (u314 P) (lE (o445 P))
def u384 (P : Params) : BT := .node (o320 P) (lE (o11 P)) .nil
def u385 (P : Params) : BT := .node (o11 P) (u384 P) (lE (o448 P))
def u386 (P : Params) : BT := .node (o208 P) (.node (o12 P) (lE (⟨.type "super", none, .fields (.mk [.ref 589, .ref 589, .ref 589]), .mk []⟩)) .nil) (lE (o11 P))
def u387 (P : Params) : BT := .node o304 (lE (o12 P)) .nil
def u388 (P : Params) : BT := .node (o12 P) (.node (o11 P) (lE (oG (fd0 (mt 82 3) "PlainHost.step"))) .nil) (lE (o456 P))
def u390 (P : Params) : BT := .node (o11 P) (.node o344 (lE (o600 P)) .nil) (lE o472)
def u391 (P : Params) : BT := .node (o312 P) (lE (oT [.str "self" 1040, .str "tree" 1041])) .nil
def u392 (P : Params) : BT := .node o184 (u391 P) (lE (o11 P))
def u393 (P : Params) : BT := .node o196 (.node (o11 P) (lE (o11 P)) .nil) (lE o452)
def u394 (P : Params) : BT := .node o212 (.node o340 (lE (oT [.str "node" 1082, .str "subject" 1083, .str "is_anchored" 1084, .str "host" 1085, .str "begin" 1086, .str "found" 1087])) .nil) (lE (o11 P))
def u395 (P : Params) : BT := .node (o12 P) (lE (o564 P)) .nil
def u396 (P : Params) : BT := .node o180 (u395 P) (lE (o11 P))
def u397 (P : Params) : BT := .node (o204 P) (.node o332 (lE (o588 P)) .nil) (lE o460)
def u398 (P : Params) : BT := .node (o11 P) (lE (oF [.int 445 0, .int 4 0, .ref 564, .int 453 0, .int 4 0, .ref 571, .int 458 0, .int 4 0, .ref 578, .int 465 0, .int 4 0, .ref 585])) .nil
def u399 (P : Params) : BT := .node (o11 P) (.node (o348 P) (lE (o11 P)) .nil) (lE (o12 P))
def u400 (P : Params) : BT := .node o316 (lE (o572 P)) .nil
def u401 (P : Params) : BT := .node o188 (u400 P) (lE o444)
def u402 (P : Params) : BT := .node (o12 P) (lE (o578 P)) .nil
def u403 (P : Params) : BT := .node (o194 P) (u402 P) (lE o450)
def u404 (P : Params) : BT := .node o210 (.node (o11 P) (lE (o11 P)) .nil) (lE (o466 P))
def u405 (P : Params) : BT := .node (o306 P) (lE (o11 P)) .nil
def u406 (P : Params) : BT := .node (o11 P) (u405 P) (lE (o12 P))
def u407 (P : Params) : BT := .node (o11 P) (.node o330 (lE (o586 P)) .nil) (lE o458)
def u408 (P : Params) : BT := .node (o298 P) (lE (⟨.type "dict", none, .dict (.mk [en P "__module__" 1022 (.str "snobol.hosts" 1013), en P "__qualname__" 1024 (.str "PlainHost" 1023), en P "__firstlineno__" 1026 (.int 443 1025), en P "__init__" 1036 (.ref 565), en P "value_of" 1044 (.ref 572), en P "assign" 1053 (.ref 579), en P "step" 1060 (.ref 586), en P "__static_attributes__" 1067 (.ref 587)]) 8, .mk []⟩)) .nil
def u409 (P : Params) : BT := .node o218 (.node o346 (lE (o12 P)) .nil) (lE (o474 P))
def u410 (P : Params) : BT := .node (o11 P) (lE (oG (fd0 (mt 82 1) "PlainHost.value_of"))) .nil
def u411 (P : Params) : BT := .node (o186 P) (u410 P) (lE o442)
def u412 (P : Params) : BT := .node o198 (.node o326 (lE (oT [.str "self" 1057])) .nil) (lE (o11 P))
def u413 (P : Params) : BT := .node (o12 P) (.node (o11 P) (lE (oG (fd0 (st 85) "match_plain"))) .nil) (lE o470)
def u415 (P : Params) : BT := .node o182 (u314 P) (lE (o438 P))
def u416 (P : Params) : BT := .node o206 (.node (o334 P) (lE (⟨.type "getset_descriptor", none, .fields (.mk [.str "__dict__" 1068, .ref 589, .builtin "function.__dict__", .builtin "function.__dict__#set"]), .mk []⟩)) .nil) (lE (o12 P))
def u417 : BT := .node o302 (lE (⟨.type "frame", none, .plain, .mk [some (.ref 557), some (.ref 3), some (.ref 554), none, some (.str "snobol.hosts" 1013), none, some (.ref 0)]⟩)) .nil
def u418 (P : Params) : BT := .node o222 (.node (o12 P) (lE (o606 P)) .nil) (lE (o11 P))
def u419 (P : Params) : BT := .node o318 (lE (o12 P)) .nil
def u420 (P : Params) : BT := .node o190 (u419 P) (lE (o446 P))
def t12 (P : Params) : BT := .node (boot_o_0 P) (.node (boot_o_1 P) (.node (⟨.type "dict", none, .dict (.mk (en P "__name__" 165 (.str "snobol.trial" 1075) :: ((e_o3 P).take 89).tail)) 89, .mk []⟩) (.node (boot_o_7 P) (.node (o15 P) (.node (o11 P) (.node o63 (u191 P) (u349 P)) (.node o95 (u307 P) (u350 P))) (.node o47 (.node (o12 P) (u195 P) (u351 P)) (.node (o111 P) (.node o175 (u314 P) (lE o431)) (u196 P)))) (.node (o23 P) (.node o39 (.node (o11 P) (u199 P) (u353 P)) (u309 P)) (.node (o11 P) (.node o87 (u311 P) (u354 P)) (.node o119 (u356 P) (u203 P))))) (.node (o11 P) (.node o19 (.node o35 (.node (o12 P) (u206 P) (u357 P)) (u313 P)) (.node (o51 P) (.node (o83 P) (u315 P) (u358 P)) (.node (o115 P) (u360 P) (u210 P)))) (.node (o11 P) (.node o43 (.node o75 (u213 P) (u361 P)) (.node (o12 P) (.node (o11 P) (u362 P) (lE o39)) (u214 P))) (.node (o11 P) (.node (o91 P) (u317 P) (u363 P)) (.node o123 (u365 P) (u217 P)))))) (.node (boot_o_5 P) (.node (boot_o_9 P) (.node (o11 P) (.node o33 (.node (o65 P) (u220 P) (u367 P)) (u319 P)) (.node o49 (.node (o11 P) (u224 P) u368) (.node o113 (.node o177 (u369 P) (lE (o11 P))) (u225 P)))) (.node (o12 P) (.node (o11 P) (.node o73 (u228 P) (u370 P)) (.node (o105 P) (.node o169 u371 (lE (o425 P))) (u229 P))) (.node (o57 P) (.node o89 (u321 P) (u372 P)) (.node o121 (u374 P) (u232 P))))) (.node (o13 P) (.node o21 (.node (o37 P) (.node (o69 P) (u235 P) (u375 P)) (u323 P)) (.node (o12 P) (.node (o11 P) (u325 P) (u376 P)) (.node (o11 P) (u378 P) (u239 P)))) (.node (o29 P) (.node (o11 P) (.node (o77 P) (u242 P) (u379 P)) (.node (o11 P) (.node (o173 P) (u380 P) (lE (o11 P))) (u243 P))) (.node o61 (.node (o93 P) (u327 P) (u381 P)) (.node o125 (u383 P) (u246 P))))))) (.node (o2_3 P) (.node (boot_o_4 P) (.node (boot_o_8 P) (.node (o16 P) (.node (o12 P) (.node (o64 P) (u249 P) (u385 P)) (u329 P)) (.node (o11 P) (.node o80 (u253 P) (u386 P)) (.node (o112 P) (.node o176 (u387 P) (lE o432)) (u254 P)))) (.node (o11 P) (.node (o40 P) (.node (o12 P) (u257 P) (u388 P)) (.node (o104 P) (.node o168 (u314 P) (lE (o424 P))) (u258 P))) (.node o56 (.node (o11 P) (u331 P) (u390 P)) (.node o120 (u392 P) (u261 P))))) (.node (⟨.none, none, .fields (.mk ((e_o12 P).take 147)), .mk []⟩) (.node (o11 P) (.node (o36 P) (.node o68 (u264 P) (u393 P)) (u333 P)) (.node (o11 P) (.node (o84 P) (u335 P) (u394 P)) (.node o116 (u396 P) (u268 P)))) (.node o28 (.node o44 (.node (o76 P) (u271 P) (u397 P)) (.node o108 (.node o39 (u398 P) (lE (o428 P))) (u272 P))) (.node (o12 P) (.node o92 (u337 P) (u399 P)) (.node (o12 P) (u401 P) (u275 P)))))) (.node (boot_o_6 P) (.node (boot_o_10 P) (.node (o12 P) (.node (o11 P) (.node (o11 P) (u278 P) (u403 P)) (u339 P)) (.node (o50 P) (.node o82 u282 (u404 P)) (.node o39 (u406 P) (u283 P)))) (.node o26 (.node o42 (.node (o11 P) (u286 P) (u407 P)) (.node (o11 P) (.node o170 (u408 P) (lE (o11 P))) (u287 P))) (.node (o58 P) (.node (o90 P) (u341 P) (u409 P)) (.node o122 (u411 P) (u290 P))))) (.node (o14 P) (.node (o22 P) (.node (o11 P) (.node (o70 P) (u293 P) (u412 P)) (u343 P)) (.node o54 (.node (o12 P) (u345 P) (u413 P)) (.node o118 (u415 P) (u297 P)))) (.node (o30 P) (.node (o12 P) (.node (o11 P) (u300 P) (u416 P)) (.node o110 (.node (o11 P) u417 (lE o430)) (u301 P))) (.node (o11 P) (.node (o94 P) (u347 P) (u418 P)) (.node (o11 P) (u420 P) (u304 P)))))))
def S12 (w : World) (os : OsState) : SharedT := ⟨t12 w.params, 608, lf, .mk [], boot_drawn, 1102, os⟩
def o613 (P : Params) : Obj := oC [.str "tried" 1102, .str "tried" 1103, .str "/claim/cut.py" 1104, .int 480 0, .int 4 0, .int 0 0, .int 0 0, .int 3 0, .ref 608, .bool true, .int 181 0, .ref 609, .none, .ref 610, .ref 611, .ref 612, .int 1114 0, .int 480 0, .str "/claim/cut.py" 1115]
def o614 (P : Params) : Obj := oU (fd (st 87) "tried" (.none) (.str "snobol.trial" 1075) (.ref 613))
def o620 (P : Params) : Obj := oC [.str "advanced" 1117, .str "advanced" 1118, .str "/claim/cut.py" 1119, .int 498 0, .int 6 0, .int 0 0, .int 0 0, .int 3 0, .ref 615, .bool true, .int 181 0, .ref 616, .none, .ref 617, .ref 618, .ref 619, .int 1130 0, .int 498 0, .str "/claim/cut.py" 1131]
def o621 (P : Params) : Obj := oU (fd (st 88) "advanced" (.none) (.str "snobol.trial" 1075) (.ref 620))
def o627 (P : Params) : Obj := oC [.str "led_in" 1133, .str "led_in" 1134, .str "/claim/cut.py" 1135, .int 513 0, .int 5 0, .int 0 0, .int 0 0, .int 3 0, .ref 622, .bool true, .int 181 0, .ref 623, .none, .ref 624, .ref 625, .ref 626, .int 1142 0, .int 513 0, .str "/claim/cut.py" 1143]
def o628 (P : Params) : Obj := oU (fd (st 89) "led_in" (.none) (.str "snobol.trial" 1075) (.ref 627))
def o634 (P : Params) : Obj := oC [.str "led_out" 1145, .str "led_out" 1146, .str "/claim/cut.py" 1147, .int 524 0, .int 7 0, .int 0 0, .int 0 0, .int 3 0, .ref 629, .bool true, .int 181 0, .ref 630, .none, .ref 631, .ref 632, .ref 633, .int 1158 0, .int 524 0, .str "/claim/cut.py" 1159]
def o635 (P : Params) : Obj := oU (fd (st 90) "led_out" (.none) (.str "snobol.trial" 1075) (.ref 634))
def o641 (P : Params) : Obj := oC [.str "steered" 1161, .str "steered" 1162, .str "/claim/cut.py" 1163, .int 531 0, .int 4 0, .int 0 0, .int 0 0, .int 3 0, .ref 636, .bool true, .int 181 0, .ref 637, .none, .ref 638, .ref 639, .ref 640, .int 1170 0, .int 531 0, .str "/claim/cut.py" 1171]
def o642 (P : Params) : Obj := oU (fd (st 91) "steered" (.none) (.str "snobol.trial" 1075) (.ref 641))
def o648 (P : Params) : Obj := oC [.str "taken" 1173, .str "taken" 1174, .str "/claim/cut.py" 1175, .int 539 0, .int 7 0, .int 0 0, .int 0 0, .int 3 0, .ref 643, .bool true, .int 181 0, .ref 644, .none, .ref 645, .ref 646, .ref 647, .int 1187 0, .int 539 0, .str "/claim/cut.py" 1188]
def o649 (P : Params) : Obj := oU (fd (st 92) "taken" (.none) (.str "snobol.trial" 1075) (.ref 648))
def o655 (P : Params) : Obj := oC [.str "_law_take" 1192, .str "_law_take" 1193, .str "/claim/cut.py" 1194, .int 556 0, .int 2 0, .int 0 0, .int 0 0, .int 3 0, .ref 650, .bool true, .int 181 0, .ref 651, .none, .ref 652, .ref 653, .ref 654, .int 1197 0, .int 556 0, .str "/claim/cut.py" 1198]
def o656 (P : Params) : Obj := oU (fd (st 94) "_law_take" (.none) (.str "law_sj0202_01" 1190) (.ref 655))
def o662 (P : Params) : Obj := oC [.str "_law_leaf" 1200, .str "_law_leaf" 1201, .str "/claim/cut.py" 1202, .int 561 0, .int 1 0, .int 0 0, .int 0 0, .int 3 0, .ref 657, .bool true, .int 181 0, .ref 658, .none, .ref 659, .ref 660, .ref 661, .int 1205 0, .int 561 0, .str "/claim/cut.py" 1206]
def o663 (P : Params) : Obj := oU (fd (st 95) "_law_leaf" (.none) (.str "law_sj0202_01" 1190) (.ref 662))
def o669 (P : Params) : Obj := oC [.str "_law_drawn" 1208, .str "_law_drawn" 1209, .str "/claim/cut.py" 1210, .int 568 0, .int 2 0, .int 0 0, .int 0 0, .int 3 0, .ref 664, .bool true, .int 181 0, .ref 665, .none, .ref 666, .ref 667, .ref 668, .int 1215 0, .int 568 0, .str "/claim/cut.py" 1216]
def o670 (P : Params) : Obj := oU (fd (st 96) "_law_drawn" (.none) (.str "law_sj0202_01" 1190) (.ref 669))
def o676 (P : Params) : Obj := oC [.str "_law_node" 1218, .str "_law_node" 1219, .str "/claim/cut.py" 1220, .int 578 0, .int 1 0, .int 0 0, .int 0 0, .int 3 0, .ref 671, .bool true, .int 181 0, .ref 672, .none, .ref 673, .ref 674, .ref 675, .int 1226 0, .int 578 0, .str "/claim/cut.py" 1227]
def o677 (P : Params) : Obj := oU (fd (st 97) "_law_node" (.none) (.str "law_sj0202_01" 1190) (.ref 676))
def o683 (P : Params) : Obj := oC [.str "_law_is_even" 1229, .str "_law_is_even" 1230, .str "/claim/cut.py" 1231, .int 586 0, .int 1 0, .int 0 0, .int 0 0, .int 3 0, .ref 678, .bool true, .int 181 0, .ref 679, .none, .ref 680, .ref 681, .ref 682, .int 1235 0, .int 586 0, .str "/claim/cut.py" 1236]
def o684 (P : Params) : Obj := oU (fd (st 98) "_law_is_even" (.none) (.str "law_sj0202_01" 1190) (.ref 683))
def o688 (P : Params) : Obj := oC [.str "_law_leaf_ends" 1238, .str "_law_leaf_ends" 1239, .str "/claim/cut.py" 1240, .int 593 0, .int 4 0, .int 0 0, .int 0 0, .int 3 0, .ref 685, .bool true, .int 181 0, .ref 686, .none, .none, .none, .ref 687, .int 1241 0, .int 593 0, .str "/claim/cut.py" 1242]
def o689 (P : Params) : Obj := oU (fd (st 99) "_law_leaf_ends" (.none) (.str "law_sj0202_01" 1190) (.ref 688))
def u421 (P : Params) : BT := .node o127 (u190 P) (.node o383 (lE (o11 P)) .nil)
def u422 (P : Params) : BT := .node o95 (.node o159 (u306 P) (.node (o11 P) (lE (o11 P)) .nil)) (u350 P)
def u423 (P : Params) : BT := .node o47 (.node (o12 P) (.node (o11 P) u194 (.node (o12 P) (lE (o655 P)) .nil)) (u351 P)) (.node (o111 P) (.node o175 (u314 P) (.node o431 (lE (oG (fd0 (st 99) "_law_leaf_ends"))) .nil)) (.node o239 (.node o367 (lE (o12 P)) .nil) (lE (o495 P))))
def u424 (P : Params) : BT := .node o39 (.node (o11 P) (.node o135 (u198 P) (.node (o11 P) (lE (oG (fd0 (st 92) "taken"))) .nil)) (u353 P)) (.node o103 (.node o167 (u308 P) (.node o423 (lE (o12 P)) .nil)) (.node o231 (.node (o11 P) (lE (o11 P)) .nil) (lE (o487 P))))
def u425 (P : Params) : BT := .node o87 (.node o39 (u310 P) (.node o407 (lE (o663 P)) .nil)) (u354 P)
def u426 (P : Params) : BT := .node o247 (.node (o375 P) (lE (oT [.str "here" 1148, .str "rest" 1149, .str "at" 1150, .str "named" 1151, .str "subject" 1152, .str "pile" 1153, .str "host" 1154, .str "kind" 1155, .str "told" 1156, .str "begin" 1157])) .nil) (lE (o11 P))
def u427 (P : Params) : BT := .node o35 (.node (o12 P) (.node (o131 P) (u205 P) (.node (o11 P) (lE (o11 P)) .nil)) (u357 P)) (.node (o11 P) (.node o163 (u312 P) (.node (o11 P) (lE (oG (fd0 (st 97) "_law_node"))) .nil)) (.node (o11 P) (.node (o355 P) (lE (o11 P)) .nil) (lE (o12 P))))
def u428 (P : Params) : BT := .node (o83 P) (.node o147 (u314 P) (.node (o403 P) (lE (oT [.str "box" 1203, .str "kind" 1204])) .nil)) (u358 P)
def u429 (P : Params) : BT := .node o243 (.node (o12 P) (lE (o627 P)) .nil) (lE (o11 P))
def u430 (P : Params) : BT := .node o43 (.node o75 (.node (o11 P) (u212 P) (.node o395 (lE (o12 P)) .nil)) (u361 P)) (.node (o12 P) (.node (o11 P) (u362 P) (.node o39 (lE (o683 P)) .nil)) (.node (o12 P) (.node (o11 P) (lE (oG (fd0 (st 88) "advanced"))) .nil) (lE o491)))
def u431 (P : Params) : BT := .node (o91 P) (.node o155 (u316 P) (.node (o411 P) (lE (o11 P)) .nil)) (u363 P)
def u432 (P : Params) : BT := .node (o11 P) (.node o379 (lE (o635 P)) .nil) (lE o507)
def u433 (P : Params) : BT := .node o129 (u219 P) (.node (o12 P) (lE (o641 P)) .nil)
def u434 (P : Params) : BT := .node o97 (.node o161 (u314 P) (.node (o417 P) (lE (oT [.str "part" 1221, .str "number" 1222, .str "kind" 1223, .str "told" 1224, .str "inner" 1225])) .nil)) (.node o225 (.node o353 (lE (o12 P)) .nil) (lE (o481 P)))
def u435 (P : Params) : BT := .node o49 (.node (o11 P) (.node o145 (u223 P) (.node (o11 P) (lE (o11 P)) .nil)) u368) (.node o113 (.node o177 (u369 P) (.node (o11 P) (lE (o689 P)) .nil)) (.node (o11 P) (.node (o369 P) (lE (o11 P)) .nil) (lE (o12 P))))
def u436 (P : Params) : BT := .node (o11 P) (.node o73 (.node o39 (u227 P) (.node o393 (lE (o649 P)) .nil)) (u370 P)) (.node (o105 P) (.node o169 u371 (.node (o425 P) (lE (o11 P)) .nil)) (.node o233 (.node o361 (lE (oT [.str "chain" 1120, .str "at" 1121, .str "named" 1122, .str "subject" 1123, .str "pile" 1124, .str "host" 1125, .str "here" 1126, .str "rest" 1127, .str "kind" 1128, .str "value" 1129])) .nil) (lE (o11 P))))
def u437 (P : Params) : BT := .node o89 (.node (o11 P) u320 (.node o409 (lE (o12 P)) .nil)) (u372 P)
def u438 (P : Params) : BT := .node (o12 P) (.node (o11 P) (lE (oG (fd0 (st 90) "led_out"))) .nil) (lE o505)
def u439 (P : Params) : BT := .node (o37 P) (.node (o69 P) (.node o133 (u234 P) (.node (o389 P) (lE (oT [.str "here" 1176, .str "rest" 1177, .str "at" 1178, .str "named" 1179, .str "subject" 1180, .str "pile" 1181, .str "host" 1182, .str "kind" 1183, .str "ends" 1184, .str "end" 1185, .str "plain" 1186])) .nil)) (u375 P)) (.node o101 (.node (o165 P) (u322 P) (.node o421 (lE (o677 P)) .nil)) (.node o229 (.node (o12 P) (lE (o613 P)) .nil) (lE (o11 P))))
def u440 (P : Params) : BT := .node (o11 P) (.node o149 u324 (.node (o11 P) (lE (oG (fd0 (st 95) "_law_leaf"))) .nil)) (u376 P)
def u441 (P : Params) : BT := .node o245 (.node (o11 P) (lE (o11 P)) .nil) (lE (o501 P))
def u442 (P : Params) : BT := .node (o11 P) (.node (o77 P) (.node o141 (u241 P) (.node (o397 P) (lE (o11 P)) .nil)) (u379 P)) (.node (o11 P) (.node (o173 P) (u380 P) (.node (o11 P) (lE (o11 P)) .nil)) (.node (o11 P) (.node o365 (lE (o621 P)) .nil) (lE o493)))
def u443 (P : Params) : BT := .node (o93 P) (.node (o11 P) (u326 P) (.node (o12 P) (lE (o669 P)) .nil)) (u381 P)
def u444 (P : Params) : BT := .node o253 (.node o381 (lE (o12 P)) .nil) (lE (o509 P))
def u445 (P : Params) : BT := .node o128 (u248 P) (.node (o11 P) (lE (oG (fd0 (st 91) "steered"))) .nil)
def u446 (P : Params) : BT := .node o96 (.node (o11 P) (u328 P) (.node o416 (lE (o12 P)) .nil)) (.node o224 (.node (o11 P) (lE (o11 P)) .nil) (lE (o480 P)))
def u447 (P : Params) : BT := .node (o11 P) (.node o80 (.node (o144 P) (u252 P) (.node o400 (lE (o656 P)) .nil)) (u386 P)) (.node (o112 P) (.node o176 (u387 P) (.node o432 (lE (o688 P)) .nil)) (.node o240 (.node (o368 P) (lE (oT [.str "here" 1136, .str "rest" 1137, .str "at" 1138, .str "named" 1139, .str "pile" 1140, .str "kind" 1141])) .nil) (lE (o11 P))))
def u448 (P : Params) : BT := .node (o40 P) (.node (o12 P) (.node (o11 P) (u256 P) (.node (o12 P) (lE (o648 P)) .nil)) (u388 P)) (.node (o104 P) (.node o168 (u314 P) (.node (o424 P) (lE (oT [.str "text" 1232, .str "level" 1233, .str "sign" 1234])) .nil)) (.node o232 (.node o360 (lE (o12 P)) .nil) (lE (o488 P))))
def u449 (P : Params) : BT := .node (o11 P) (.node (o152 P) (u330 P) (.node (o11 P) (lE (o11 P)) .nil)) (u390 P)
def u450 (P : Params) : BT := .node (o11 P) (.node (o376 P) (lE (o11 P)) .nil) (lE (o12 P))
def u451 (P : Params) : BT := .node (o36 P) (.node o68 (.node o132 (u263 P) (.node o388 (lE (o12 P)) .nil)) (u393 P)) (.node (o12 P) (.node o164 (u332 P) (.node (o12 P) (lE (o676 P)) .nil)) (.node (o12 P) (.node (o11 P) (lE (oG (fd0 (st 87) "tried"))) .nil) (lE o484)))
def u452 (P : Params) : BT := .node (o84 P) (.node o148 (u334 P) (.node (o404 P) (lE (o11 P)) .nil)) (u394 P)
def u453 (P : Params) : BT := .node (o11 P) (.node o372 (lE (o628 P)) .nil) (lE o500)
def u454 (P : Params) : BT := .node o44 (.node (o76 P) (.node (o12 P) (u270 P) (.node (o396 P) (lE (oT [.str "box" 1195, .str "wide" 1196])) .nil)) (u397 P)) (.node o108 (.node o39 (u398 P) (.node (o428 P) (lE (o684 P)) .nil)) (.node o236 (.node (o12 P) (lE (o620 P)) .nil) (lE (o11 P))))
def u455 (P : Params) : BT := .node o92 (.node o156 u336 (.node (o11 P) (lE (oG (fd0 (st 96) "_law_drawn"))) .nil)) (u399 P)
def u456 (P : Params) : BT := .node o252 (.node (o11 P) (lE (o11 P)) .nil) (lE (o508 P))
def u457 (P : Params) : BT := .node o130 (u277 P) (.node o386 (lE (o642 P)) .nil)
def u458 (P : Params) : BT := .node o98 (.node o162 (u338 P) (.node (o418 P) (lE (o11 P)) .nil)) (.node o226 (.node (o354 P) (lE (oT [.str "node" 1105, .str "subject" 1106, .str "begin" 1107, .str "host" 1108, .str "pile" 1109, .str "way" 1110, .str "chain" 1111, .str "at" 1112, .str "named" 1113])) .nil) (lE (o11 P)))
def u459 (P : Params) : BT := .node o82 (.node o146 u281 (.node o402 (lE (o12 P)) .nil)) (u404 P)
def u460 (P : Params) : BT := .node (o12 P) (.node (o11 P) (lE (oG (fd0 (st 89) "led_in"))) .nil) (lE o498)
def u461 (P : Params) : BT := .node o42 (.node (o11 P) (.node (o138 P) (u285 P) (.node (o11 P) (lE (o11 P)) .nil)) (u407 P)) (.node (o11 P) (.node o170 (u408 P) (.node (o11 P) (lE (oG (fd0 (st 98) "_law_is_even"))) .nil)) (.node (o11 P) (.node o362 (lE (o11 P)) .nil) (lE (o12 P))))
def u462 (P : Params) : BT := .node (o90 P) (.node o154 (u314 P) (.node (o410 P) (lE (oT [.str "box" 1211, .str "deep" 1212, .str "kind" 1213, .str "told" 1214])) .nil)) (u409 P)
def u463 (P : Params) : BT := .node o250 (.node (o12 P) (lE (o634 P)) .nil) (lE (o11 P))
def u464 (P : Params) : BT := .node (o11 P) (.node (o70 P) (.node o134 (u292 P) (.node (o390 P) (lE (o11 P)) .nil)) (u412 P)) (.node (o11 P) (.node o166 (u342 P) (.node (o11 P) (lE (o11 P)) .nil)) (.node (o11 P) (.node o358 (lE (o614 P)) .nil) (lE o486)))
def u465 (P : Params) : BT := .node (o12 P) (.node (o11 P) (u344 P) (.node (o12 P) (lE (o662 P)) .nil)) (u413 P)
def u466 (P : Params) : BT := .node o246 (.node o374 (lE (o12 P)) .nil) (lE (o502 P))
def u467 (P : Params) : BT := .node (o12 P) (.node (o11 P) (.node o142 (u299 P) (.node (o11 P) (lE (oG (fd0 (st 94) "_law_take"))) .nil)) (u416 P)) (.node o110 (.node (o11 P) u417 (.node o430 (lE (o12 P)) .nil)) (.node o238 (.node (o11 P) (lE (o11 P)) .nil) (lE (o494 P))))
def u468 (P : Params) : BT := .node (o94 P) (.node (o12 P) (u346 P) (.node o414 (lE (o670 P)) .nil)) (u418 P)
def u469 (P : Params) : BT := .node o254 (.node o382 (lE (oT [.str "chain" 1164, .str "at" 1165, .str "named" 1166, .str "pile" 1167, .str "kind" 1168, .str "rest" 1169])) .nil) (lE (o11 P))
def t13 (P : Params) : BT := .node (boot_o_0 P) (.node (boot_o_1 P) (.node (⟨.type "dict", none, .dict (.mk ((e_o3 P).take 101)) 101, .mk []⟩) (.node (boot_o_7 P) (.node (o15 P) (.node (o11 P) (.node o63 (u421 P) (u349 P)) (u422 P)) (u423 P)) (.node (o23 P) (u424 P) (.node (o11 P) (u425 P) (.node o119 (u356 P) (u426 P))))) (.node (o11 P) (.node o19 (u427 P) (.node (o51 P) (u428 P) (.node (o115 P) (u360 P) (u429 P)))) (.node (o11 P) (u430 P) (.node (o11 P) (u431 P) (.node o123 (u365 P) (u432 P)))))) (.node (boot_o_5 P) (.node (boot_o_9 P) (.node (o11 P) (.node o33 (.node (o65 P) (u433 P) (u367 P)) (u434 P)) (u435 P)) (.node (o12 P) (u436 P) (.node (o57 P) (u437 P) (.node o121 (u374 P) (u438 P))))) (.node (o13 P) (.node o21 (u439 P) (.node (o12 P) (u440 P) (.node (o11 P) (u378 P) (u441 P)))) (.node (o29 P) (u442 P) (.node o61 (u443 P) (.node o125 (u383 P) (u444 P))))))) (.node (o2_3 P) (.node (boot_o_4 P) (.node (boot_o_8 P) (.node (o16 P) (.node (o12 P) (.node (o64 P) (u445 P) (u385 P)) (u446 P)) (u447 P)) (.node (o11 P) (u448 P) (.node o56 (u449 P) (.node o120 (u392 P) (u450 P))))) (.node (⟨.none, none, .fields (.mk ((e_o12 P).take 183)), .mk []⟩) (.node (o11 P) (u451 P) (.node (o11 P) (u452 P) (.node o116 (u396 P) (u453 P)))) (.node o28 (u454 P) (.node (o12 P) (u455 P) (.node (o12 P) (u401 P) (u456 P)))))) (.node (boot_o_6 P) (.node (boot_o_10 P) (.node (o12 P) (.node (o11 P) (.node (o11 P) (u457 P) (u403 P)) (u458 P)) (.node (o50 P) (u459 P) (.node o39 (u406 P) (u460 P)))) (.node o26 (u461 P) (.node (o58 P) (u462 P) (.node o122 (u411 P) (u463 P))))) (.node (o14 P) (.node (o22 P) (u464 P) (.node o54 (u465 P) (.node o118 (u415 P) (u466 P)))) (.node (o30 P) (u467 P) (.node (o11 P) (u468 P) (.node (o11 P) (u420 P) (u469 P)))))))
def S13 (w : World) (os : OsState) : SharedT := ⟨t13 w.params, 690, lf, .mk [], boot_drawn, 1244, os⟩
def o3_14 (P : Params) : Obj := ⟨.type "dict", none, .dict (.mk (e_o3 P)) 104, .mk []⟩
def o695 (P : Params) : Obj := oC [.str "_law_rounds" 1244, .str "_law_rounds" 1245, .str "/claim/cut.py" 1246, .int 606 0, .int 3 0, .int 0 0, .int 0 0, .int 3 0, .ref 690, .bool true, .int 181 0, .ref 691, .none, .ref 692, .ref 693, .ref 694, .int 1252 0, .int 606 0, .str "/claim/cut.py" 1253]
def o696 (P : Params) : Obj := oU (fd (st 100) "_law_rounds" (.none) (.str "law_sj0202_01" 1190) (.ref 695))
def o700 (P : Params) : Obj := oC [.str "_law_told" 1255, .str "_law_told" 1256, .str "/claim/cut.py" 1257, .int 614 0, .int 3 0, .int 0 0, .int 0 0, .int 3 0, .ref 697, .bool true, .int 181 0, .ref 698, .none, .none, .none, .ref 699, .int 1258 0, .int 614 0, .str "/claim/cut.py" 1259]
def o701 (P : Params) : Obj := oU (fd (st 101) "_law_told" (.none) (.str "law_sj0202_01" 1190) (.ref 700))
def o705 (P : Params) : Obj := oC [.str "law" 1261, .str "law" 1262, .str "/claim/cut.py" 1263, .int 630 0, .int 1 0, .int 0 0, .int 0 0, .int 3 0, .ref 702, .bool true, .int 181 0, .ref 703, .none, .none, .none, .ref 704, .int 1264 0, .int 630 0, .str "/claim/cut.py" 1265]
def o706 (P : Params) : Obj := oU (fd (st 102) "law" (.none) (.str "law_sj0202_01" 1190) (.ref 705))
def t14 (P : Params) : BT := .node (boot_o_0 P) (.node (boot_o_1 P) (.node (o3_14 P) (.node (boot_o_7 P) (.node (o15 P) (.node (o11 P) (.node o63 (u421 P) (.node o191 (u348 P) (.node o447 (lE (o12 P)) .nil))) (u422 P)) (u423 P)) (.node (o23 P) (u424 P) (.node (o11 P) (u425 P) (.node o119 (.node o183 (u355 P) (.node (o439 P) (lE (o695 P)) .nil)) (u426 P))))) (.node (o11 P) (.node o19 (u427 P) (.node (o51 P) (u428 P) (.node (o115 P) (.node (o12 P) (u359 P) (.node o435 (lE (o12 P)) .nil)) (u429 P)))) (.node (o11 P) (u430 P) (.node (o11 P) (u431 P) (.node o123 (.node o187 (u364 P) (.node (o11 P) (lE (oG (fd0 (st 101) "_law_told"))) .nil)) (u432 P)))))) (.node (boot_o_5 P) (.node (boot_o_9 P) (.node (o11 P) (.node o33 (.node (o65 P) (u433 P) (.node o39 (u366 P) (.node (o449 P) (lE (o705 P)) .nil))) (u434 P)) (u435 P)) (.node (o12 P) (u436 P) (.node (o57 P) (u437 P) (.node o121 (.node o185 (u373 P) (.node (o12 P) (lE (o11 P)) .nil)) (u438 P))))) (.node (o13 P) (.node o21 (u439 P) (.node (o12 P) (u440 P) (.node (o11 P) (.node (o11 P) (u377 P) (.node o437 (lE (o11 P)) .nil)) (u441 P)))) (.node (o29 P) (u442 P) (.node o61 (u443 P) (.node o125 (.node o189 (u314 P) (.node (o445 P) (lE (o701 P)) .nil)) (u444 P))))))) (.node (o2_3 P) (.node (boot_o_4 P) (.node (boot_o_8 P) (.node (o16 P) (.node (o12 P) (.node (o64 P) (u445 P) (.node (o11 P) (u384 P) (.node (o448 P) (lE (oG (fd0 (st 102) "law"))) .nil))) (u446 P)) (u447 P)) (.node (o11 P) (u448 P) (.node o56 (u449 P) (.node o120 (.node o184 (u391 P) (.node (o11 P) (lE (o696 P)) .nil)) (u450 P))))) (.node (⟨.none, none, .fields (.mk (e_o12 P)), .mk []⟩) (.node (o11 P) (u451 P) (.node (o11 P) (u452 P) (.node o116 (.node o180 (u395 P) (.node (o11 P) (lE (oT [.str "part" 1247, .str "subject" 1248, .str "at" 1249, .str "found" 1250, .str "row" 1251])) .nil)) (u453 P)))) (.node o28 (u454 P) (.node (o12 P) (u455 P) (.node (o12 P) (.node o188 (u400 P) (.node o444 (lE (o700 P)) .nil)) (u456 P)))))) (.node (boot_o_6 P) (.node (boot_o_10 P) (.node (o12 P) (.node (o11 P) (.node (o11 P) (u457 P) (.node (o194 P) (u402 P) (.node o450 (lE (o706 P)) .nil))) (u458 P)) (.node (o50 P) (u459 P) (.node o39 (.node (o11 P) (u405 P) (.node (o12 P) (lE (o11 P)) .nil)) (u460 P)))) (.node o26 (u461 P) (.node (o58 P) (u462 P) (.node o122 (.node (o186 P) (u410 P) (.node o442 (lE (o12 P)) .nil)) (u463 P))))) (.node (o14 P) (.node (o22 P) (u464 P) (.node o54 (u465 P) (.node o118 (.node o182 (u314 P) (.node (o438 P) (lE (oG (fd0 (st 100) "_law_rounds"))) .nil)) (u466 P)))) (.node (o30 P) (u467 P) (.node (o11 P) (u468 P) (.node (o11 P) (.node o190 (u419 P) (.node (o446 P) (lE (o11 P)) .nil)) (u469 P)))))))
def S14 (w : World) (os : OsState) : SharedT := ⟨t14 w.params, 707, lf, .mk [], boot_drawn, 1267, os⟩
def g0 : List Stmt := (bd.drop 0).take 26
theorem y0 (w : World) (os : OsState) : segY tabY pw w 11 (some (.ref 6)) 1 318 (S0 w os) (piecesOf g0 env cE ⟨0, 0, 0, 0⟩ B) = some (.next, S1 w os, cE, ⟨35, 0, 44, 16⟩) := by kernel_rfl
theorem p0 (w : World) (os : OsState) : segRunT treeTable pw w 11 (some (.ref 6)) 1 318 (S0 w os) (piecesOf g0 env cE ⟨0, 0, 0, 0⟩ B) = some (.next, S1 w os, cE, ⟨35, 0, 44, 16⟩) := by rw [segY_eq, tabY_eq]; exact y0 w os
def g1 : List Stmt := (bd.drop 26).take 1
theorem y1 (w : World) (os : OsState) : segY tabY pw w 11 (some (.ref 6)) 1 420 (S1 w os) (piecesOf g1 env cE ⟨35, 0, 44, 16⟩ B) = some (.next, S2 w os, cE, ⟨45, 0, 105, 58⟩) := by kernel_rfl
theorem p1 (w : World) (os : OsState) : segRunT treeTable pw w 11 (some (.ref 6)) 1 420 (S1 w os) (piecesOf g1 env cE ⟨35, 0, 44, 16⟩ B) = some (.next, S2 w os, cE, ⟨45, 0, 105, 58⟩) := by rw [segY_eq, tabY_eq]; exact y1 w os
def g2 : List Stmt := (bd.drop 27).take 4
theorem y2 (w : World) (os : OsState) : segY tabY pw w 11 (some (.ref 6)) 1 320 (S2 w os) (piecesOf g2 env cE ⟨45, 0, 105, 58⟩ B) = some (.next, S3 w os, cE, ⟨122, 0, 127, 24⟩) := by kernel_rfl
theorem p2 (w : World) (os : OsState) : segRunT treeTable pw w 11 (some (.ref 6)) 1 320 (S2 w os) (piecesOf g2 env cE ⟨45, 0, 105, 58⟩ B) = some (.next, S3 w os, cE, ⟨122, 0, 127, 24⟩) := by rw [segY_eq, tabY_eq]; exact y2 w os
def g3 : List Stmt := (bd.drop 31).take 2
theorem y3 (w : World) (os : OsState) : segY tabY pw w 11 (some (.ref 6)) 1 413 (S3 w os) (piecesOf g3 env cE ⟨122, 0, 127, 24⟩ B) = some (.next, S4 w os, cE, ⟨130, 0, 133, 24⟩) := by kernel_rfl
theorem p3 (w : World) (os : OsState) : segRunT treeTable pw w 11 (some (.ref 6)) 1 413 (S3 w os) (piecesOf g3 env cE ⟨122, 0, 127, 24⟩ B) = some (.next, S4 w os, cE, ⟨130, 0, 133, 24⟩) := by rw [segY_eq, tabY_eq]; exact y3 w os
def g4 : List Stmt := (bd.drop 33).take 1
theorem y4 (w : World) (os : OsState) : segY tabY pw w 11 (some (.ref 6)) 1 223 (S4 w os) (piecesOf g4 env cE ⟨130, 0, 133, 24⟩ B) = some (.next, S5 w os, cE, ⟨134, 0, 137, 24⟩) := by kernel_rfl
theorem p4 (w : World) (os : OsState) : segRunT treeTable pw w 11 (some (.ref 6)) 1 223 (S4 w os) (piecesOf g4 env cE ⟨130, 0, 133, 24⟩ B) = some (.next, S5 w os, cE, ⟨134, 0, 137, 24⟩) := by rw [segY_eq, tabY_eq]; exact y4 w os
def g5 : List Stmt := (bd.drop 34).take 7
theorem y5 (w : World) (os : OsState) : segY tabY pw w 11 (some (.ref 6)) 1 409 (S5 w os) (piecesOf g5 env cE ⟨134, 0, 137, 24⟩ B) = some (.next, S6 w os, cE, ⟨171, 0, 174, 67⟩) := by kernel_rfl
theorem p5 (w : World) (os : OsState) : segRunT treeTable pw w 11 (some (.ref 6)) 1 409 (S5 w os) (piecesOf g5 env cE ⟨134, 0, 137, 24⟩ B) = some (.next, S6 w os, cE, ⟨171, 0, 174, 67⟩) := by rw [segY_eq, tabY_eq]; exact y5 w os
def g6 : List Stmt := (bd.drop 41).take 18
theorem y6 (w : World) (os : OsState) : segY tabY pw w 11 (some (.ref 6)) 1 416 (S6 w os) (piecesOf g6 env cE ⟨171, 0, 174, 67⟩ B) = some (.next, S7 w os, cE, ⟨228, 0, 229, 57⟩) := by kernel_rfl
theorem p6 (w : World) (os : OsState) : segRunT treeTable pw w 11 (some (.ref 6)) 1 416 (S6 w os) (piecesOf g6 env cE ⟨171, 0, 174, 67⟩ B) = some (.next, S7 w os, cE, ⟨228, 0, 229, 57⟩) := by rw [segY_eq, tabY_eq]; exact y6 w os
def g7 : List Stmt := (bd.drop 59).take 14
theorem y7 (w : World) (os : OsState) : segY tabY pw w 11 (some (.ref 6)) 1 418 (S7 w os) (piecesOf g7 env cE ⟨228, 0, 229, 57⟩ B) = some (.next, S8 w os, cE, ⟨301, 0, 301, 8⟩) := by kernel_rfl
theorem p7 (w : World) (os : OsState) : segRunT treeTable pw w 11 (some (.ref 6)) 1 418 (S7 w os) (piecesOf g7 env cE ⟨228, 0, 229, 57⟩ B) = some (.next, S8 w os, cE, ⟨301, 0, 301, 8⟩) := by rw [segY_eq, tabY_eq]; exact y7 w os
def g8 : List Stmt := (bd.drop 73).take 4
theorem y8 (w : World) (os : OsState) : segY tabY pw w 11 (some (.ref 6)) 1 292 (S8 w os) (piecesOf g8 env cE ⟨301, 0, 301, 8⟩ B) = some (.next, S9 w os, cE, ⟨305, 0, 316, 80⟩) := by kernel_rfl
theorem p8 (w : World) (os : OsState) : segRunT treeTable pw w 11 (some (.ref 6)) 1 292 (S8 w os) (piecesOf g8 env cE ⟨301, 0, 301, 8⟩ B) = some (.next, S9 w os, cE, ⟨305, 0, 316, 80⟩) := by rw [segY_eq, tabY_eq]; exact y8 w os
def g9 : List Stmt := (bd.drop 77).take 1
theorem y9 (w : World) (os : OsState) : segY tabY pw w 11 (some (.ref 6)) 1 501 (S9 w os) (piecesOf g9 env cE ⟨305, 0, 316, 80⟩ B) = some (.next, S10 w os, cE, ⟨317, 0, 424, 19⟩) := by kernel_rfl
theorem p9 (w : World) (os : OsState) : segRunT treeTable pw w 11 (some (.ref 6)) 1 501 (S9 w os) (piecesOf g9 env cE ⟨305, 0, 316, 80⟩ B) = some (.next, S10 w os, cE, ⟨317, 0, 424, 19⟩) := by rw [segY_eq, tabY_eq]; exact y9 w os
def g10 : List Stmt := (bd.drop 78).take 4
theorem y10 (w : World) (os : OsState) : segY tabY pw w 11 (some (.ref 6)) 1 108 (S10 w os) (piecesOf g10 env cE ⟨317, 0, 424, 19⟩ B) = some (.next, S11 w os, cE, ⟨442, 0, 442, 8⟩) := by kernel_rfl
theorem p10 (w : World) (os : OsState) : segRunT treeTable pw w 11 (some (.ref 6)) 1 108 (S10 w os) (piecesOf g10 env cE ⟨317, 0, 424, 19⟩ B) = some (.next, S11 w os, cE, ⟨442, 0, 442, 8⟩) := by rw [segY_eq, tabY_eq]; exact y10 w os
def g11 : List Stmt := (bd.drop 82).take 5
theorem y11 (w : World) (os : OsState) : segY tabY pw w 11 (some (.ref 6)) 1 411 (S11 w os) (piecesOf g11 env cE ⟨442, 0, 442, 8⟩ B) = some (.next, S12 w os, cE, ⟨477, 0, 479, 83⟩) := by kernel_rfl
theorem p11 (w : World) (os : OsState) : segRunT treeTable pw w 11 (some (.ref 6)) 1 411 (S11 w os) (piecesOf g11 env cE ⟨442, 0, 442, 8⟩ B) = some (.next, S12 w os, cE, ⟨477, 0, 479, 83⟩) := by rw [segY_eq, tabY_eq]; exact y11 w os
def g12 : List Stmt := (bd.drop 87).take 13
theorem y12 (w : World) (os : OsState) : segY tabY pw w 11 (some (.ref 6)) 1 412 (S12 w os) (piecesOf g12 env cE ⟨477, 0, 479, 83⟩ B) = some (.next, S13 w os, cE, ⟨593, 0, 605, 112⟩) := by kernel_rfl
theorem p12 (w : World) (os : OsState) : segRunT treeTable pw w 11 (some (.ref 6)) 1 412 (S12 w os) (piecesOf g12 env cE ⟨477, 0, 479, 83⟩ B) = some (.next, S13 w os, cE, ⟨593, 0, 605, 112⟩) := by rw [segY_eq, tabY_eq]; exact y12 w os
def g13 : List Stmt := (bd.drop 100).take 3
theorem y13 (w : World) (os : OsState) : segY tabY pw w 11 (some (.ref 6)) 1 86 (S13 w os) (piecesOf g13 env cE ⟨593, 0, 605, 112⟩ B) = some (.next, S14 w os, cE, ⟨630, 0, 640, 84⟩) := by kernel_rfl
theorem p13 (w : World) (os : OsState) : segRunT treeTable pw w 11 (some (.ref 6)) 1 86 (S13 w os) (piecesOf g13 env cE ⟨593, 0, 605, 112⟩ B) = some (.next, S14 w os, cE, ⟨630, 0, 640, 84⟩) := by rw [segY_eq, tabY_eq]; exact y13 w os
def H1 (P : Params) : Heap := absHeap (t14 P) 707 lf
theorem bd_eq : bd = g0 ++ (g1 ++ (g2 ++ (g3 ++ (g4 ++ (g5 ++ (g6 ++ (g7 ++ (g8 ++ (g9 ++ (g10 ++ (g11 ++ (g12 ++ (g13 ++ []))))))))))))) := by kernel_rfl
theorem pre (w : World) (os : OsState) : topGo treeTable pw w 11 (some (.ref 6)) 12 ⟨boot_heap w.params, .mk [], boot_drawn, boot_toks, os⟩ (topStub pw) = some ((S0 w os).abs, ⟨denote treeTable cE, cE, ⟨0, 0, 0, 0⟩, B⟩) := by kernel_rfl
theorem block (w : World) (os : OsState) : segRun treeTable pw w 11 (some (.ref 6)) 1 1 (S0 w os).abs (blockOf bd env cE ⟨0, 0, 0, 0⟩ B) = some (.next, (S0 w os).abs, cE, ⟨0, 0, 0, 0⟩) := by kernel_rfl
theorem fin (w : World) (os : OsState) : topRun treeTable pw w 11 (some (.ref 6)) 2 (S14 w os).abs ⟨doneF .next, cE, ⟨630, 0, 640, 84⟩, B⟩ = some (S14 w os).abs := by kernel_rfl
noncomputable abbrev MM : Nat := 12 + (1 + (318 + (420 + (320 + (413 + (223 + (409 + (416 + (418 + (292 + (501 + (108 + (411 + (412 + (86 + (2))))))))))))))))
theorem run (w : World) (os : OsState) : topRun treeTable pw w 11 (some (.ref 6)) MM ⟨boot_heap w.params, .mk [], boot_drawn, boot_toks, os⟩ (topStub pw) = some ⟨H1 w.params, .mk [], boot_drawn, 1267, os⟩ :=
  go_top (pre w os) (piece_block (block w os) (by rw [bd_eq]; exact piece_app (segRun_of (p0 w os)) (piece_app (segRun_of (p1 w os)) (piece_app (segRun_of (p2 w os)) (piece_app (segRun_of (p3 w os)) (piece_app (segRun_of (p4 w os)) (piece_app (segRun_of (p5 w os)) (piece_app (segRun_of (p6 w os)) (piece_app (segRun_of (p7 w os)) (piece_app (segRun_of (p8 w os)) (piece_app (segRun_of (p9 w os)) (piece_app (segRun_of (p10 w os)) (piece_app (segRun_of (p11 w os)) (piece_app (segRun_of (p12 w os)) (piece_app (segRun_of (p13 w os)) (piece_nil (fin w os)))))))))))))))))
def qq : Program := { pw with main := { pw.main with body := [st 102] } }
noncomputable def loose : List Str := [Str.ofString "ONE", Str.ofString "WAYS", Str.ofString "SPLIT", Str.ofString "JUMP", Str.ofString "MARK", Str.ofString "NAME", Str.ofString "SET", Str.ofString "GAIN", Str.ofString "PLACE", Str.ofString "ASK", Str.ofString "FENCE", Str.ofString "FAIL", Str.ofString "ABORT", Str.ofString "SUCCEED", Str.ofString "DONE", Str.ofString "PUT", Str.ofString "EMIT", Str.ofString "OPEN", Str.ofString "SHUT", Str.ofString "MEET", Str.ofString "SINGLE", Str.ofString "ALONE", Str.ofString "row_of", Str.ofString "is_plain_text", Str.ofString "with_texts_joined", Str.ofString "PatternCode", Str.ofString "straightened", Str.ofString "compile_pattern", Str.ofString "SnobolError", Str.ofString "Failure", Str.ofString "Pattern", Str.ofString "Delayed", Str.ofString "NameRef", Str.ofString "is_fail", Str.ofString "fits", Str.ofString "whole_of_text", Str.ofString "text_of_whole", Str.ofString "to_whole", Str.ofString "to_text", Str.ofString "need_text", Str.ofString "COUNTED", Str.ofString "SIGNED", Str.ofString "WIDTH_OF_COUNT", Str.ofString "plain_count", Str.ofString "plain_signs", Str.ofString "pattern_of", Str.ofString "is_delayed", Str.ofString "settled", Str.ofString "OPENING", Str.ofString "CLOSING", Str.ofString "chars_end", Str.ofString "len_end", Str.ofString "pos_end", Str.ofString "rpos_end", Str.ofString "tab_end", Str.ofString "rtab_end", Str.ofString "rem_end", Str.ofString "any_at", Str.ofString "notany_at", Str.ofString "run_end", Str.ofString "span_end", Str.ofString "break_end", Str.ofString "arb_ends", Str.ofString "bal_end", Str.ofString "bal_ends", Str.ofString "one_end", Str.ofString "plain_end", Str.ofString "ends_of", Str.ofString "MET", Str.ofString "FAILED", Str.ofString "OVER", Str.ofString "Way", Str.ofString "Match", Str.ofString "named_rows", Str.ofString "match_orders", Str.ofString "match_compiled", Str.ofString "PlainHost", Str.ofString "LOST", Str.ofString "match_plain", Str.ofString "match_at", Str.ofString "tried", Str.ofString "advanced", Str.ofString "led_in", Str.ofString "led_out", Str.ofString "steered", Str.ofString "taken", Str.ofString "_law_take", Str.ofString "_law_leaf", Str.ofString "_law_drawn", Str.ofString "_law_node", Str.ofString "_law_is_even", Str.ofString "_law_leaf_ends", Str.ofString "_law_rounds", Str.ofString "_law_told"]
theorem opens : opening pw = plainProg pw.main.scope.names := by kernel_rfl
theorem fence (s : Shared) : fenceModules? pw s = some s := by kernel_rfl
theorem op (w : World) : (fencedOpening treeTable pw w 10000).map (fun s => (s.heap, s.gens, s.drawn, s.toks)) = some (boot_heap w.params, .mk [], boot_drawn, boot_toks) := boot_open opens (by decide +kernel) fence w
theorem size (w : World) : ((boot_heap w.params).isNs mainGlobals && (Array.mk [] : Array GenState).size == 0, (boot_heap w.params).objs.size, (boot_heap w.params).nsMap mainGlobals "__annotations__") = (true, 11, some (.ref 6)) := by kernel_rfl
theorem look1 (w : World) (os : OsState) : (staticsOk (importedModules pw.main.body) (boot_heap w.params) (H1 w.params) && namesBound pw (H1 w.params) && gensDone ⟨H1 w.params, .mk [], boot_drawn, 1267, os⟩ && laidKept (boot_heap w.params) (H1 w.params)) = true := by kernel_rfl
theorem look2 (w : World) (os : OsState) : openSeen qq loose (importedModules pw.main.body) (fun _ => true) true ⟨H1 w.params, .mk [], boot_drawn, 1267, os⟩ = openGood qq loose := by kernel_rfl
theorem left : LeftO pw qq loose (fun _ => true) (fun s => s.heap) (fun w => H1 w.params) 10000 true :=
  LeftO.of_pieces op size run (by decide +kernel) (fun w => by
    funext os
    rw [look1, look2])
end
end
section
open PySem PySem.W PyProof.Rows PySem.Calls PySem.Spec
inductive Itk where
 | lst (l : Addr) (xs : List Value)
 | rng (a : Int) (n : Nat)
 | str (x : Str) (t : Tok)
noncomputable def Itk.item : Itk → Nat → Option (Tok → Value)
 | .lst _ xs, i => (xs[i]?).map fun v _ => v
 | .rng a n, i => if i < n then some fun t => .int (a + i) t else none
 | .str x _, i => (x.cps[i]?).map fun c t => .str ⟨#[c]⟩ t
inductive Slot where
 | obj (o : Obj)
 | tup (vs : List Value)
 | lst (vs : List Value)
 | att (xs : List Str) (vs : List (Option Value))
 | sd (k : Nat)
 | cell (v : Option Value)
 | inst (C dx : Addr)
 | itr (k : Itk) (i : Nat)
noncomputable abbrev Bm := Addr → Option Slot
noncomputable abbrev Nm := List (Addr × Slot)
noncomputable abbrev Vs := List (Option Value)
noncomputable abbrev Mo (w : World) : Model := model PySem.Challenge.pw_sj0202_01 w
noncomputable def look : List Str → Vs → Str → Option Value
 | n :: ns, v :: vs, x => if x = n then v else look ns vs x
 | _, _, _ => none
theorem look_cons {n : Str} {ns : List Str} {v : Option Value} {vs : Vs} {x : Str} : look (n :: ns) (v :: vs) x = if x = n then v else look ns vs x := rfl
noncomputable def cnt : Vs → Nat
 | [] => 0
 | none :: r => cnt r
 | some _ :: r => cnt r + 1
theorem cnt.k2 {r} : cnt (none :: r) = cnt r := rfl
theorem cnt.k3 {z1 r} : cnt (some z1 :: r) = cnt r + 1 := rfl
noncomputable def Slot.holds (w : World) (h : Heap) (a : Addr) : Slot → Prop
 | .obj o => h.get? a = some o
 | .tup vs => ∃ n, h.get? a = some ⟨.type "tuple", none, .seq vs.toArray n, #[]⟩
 | .lst vs => ∃ n, h.get? a = some (listOf vs.toArray n)
 | .att xs vs => ∃ es n, h.get? a = some ⟨.type "dict", none, .dict es n, #[]⟩ ∧ StrKeys es ∧ es.size ≤ cnt vs ∧ ∀ x, nsFind es x = look xs vs x
 | .sd k => ∃ kvs : List (Str × Value), kvs.length ≤ k ∧ h.DictOf (PySem.strKind PySem.Challenge.pw_sj0202_01 w) a kvs
 | .cell v => ∃ o, h.get? a = some o ∧ o.data = .cell v
 | .inst C dx => h.get? a = some ⟨.ref C, some dx, .plain, #[]⟩
 | .itr (.lst l _) i => h.IsListIter a l i
 | .itr (.rng x n) i => IsRangeIter h a (x + i) (n - i) 1
 | .itr (.str x t) i => h.IsStrIter a (strIterType x) x t i
theorem Slot.holds.some {w : World} {h : Heap} {a : Addr} {o : Slot} (x : o.holds w h a) : ∃ ob, h.get? a = some ob := by
 cases o <;> simp only [Slot.holds] at x
 ·exact ⟨_, x⟩
 ·obtain ⟨n, x⟩ := x; exact ⟨_, x⟩
 ·obtain ⟨n, x⟩ := x; exact ⟨_, x⟩
 ·obtain ⟨_, _, x, _⟩ := x; exact ⟨_, x⟩
 ·obtain ⟨_, _, x⟩ := x; obtain ⟨o, x, _⟩ := Heap.dictOf_iff.mp x; exact ⟨_, x⟩
 ·obtain ⟨_, x, _⟩ := x; exact ⟨_, x⟩
 ·exact ⟨_, x⟩
 ·rename_i k i
  cases k
  ·obtain ⟨_, x, _⟩ := x; exact ⟨_, x⟩
  ·exact ⟨_, x⟩
  ·obtain ⟨_, x, _⟩ := x; exact ⟨_, x⟩
theorem Slot.holds.keeps {w : World} {h h' : Heap} {a : Addr} {o : Slot} (x : o.holds w h a) (e : h'.get? a = h.get? a) : o.holds w h' a := by
 cases o <;> simp only [Slot.holds] at x ⊢
 ·rw [e]; exact x
 ·rw [e]; exact x
 ·rw [e]; exact x
 ·rw [e]; exact x
 ·obtain ⟨kvs, x1, x2⟩ := x
  obtain ⟨o, y1, y2⟩ := Heap.dictOf_iff.mp x2
  exact ⟨kvs, x1, Heap.dictOf_iff.mpr ⟨o, by rw [e]; exact y1, y2⟩⟩
 ·rw [e]; exact x
 ·rw [e]; exact x
 ·rename_i k i
  cases k
  ·obtain ⟨o, x, r⟩ := x; exact ⟨o, e.trans x, r⟩
  ·exact e.trans x
  ·obtain ⟨o, x, r⟩ := x; exact ⟨o, e.trans x, r⟩
structure Fm (w : World) (ns : List Str) (L : Addr) (B : Bm) (vs : Vs) (N : Nm) (h : Heap) : Prop where
 loc : h.Ns L (look ns vs)
 keep : ∀ a o, B a = some o → o.holds w h a
 led : ∀ p ∈ N, p.2.holds w h p.1 ∧ B p.1 = none ∧ p.1 ≠ L
 nd : (N.map (·.1)).Nodup
 out : B L = none
structure Fx (L : Option Addr) (B : Bm) (N : Nm) (s : Shared) (B' : Bm) (N' : Nm) (s' : Shared) : Prop where
 same : ∀ a o, s.heap.get? a = some o → (∀ p ∈ N, p.1 ≠ a) → L ≠ some a → s'.heap.get? a = some o ∧ (∀ p ∈ N', p.1 ≠ a) ∧ B' a = B a
 le : ∀ a o, B a = some o → B' a = some o
 gens : s'.gens = s.gens
 drawn : s'.drawn = s.drawn
 os : s'.os = s.os
theorem Fx.refl {L : Option Addr} {B : Bm} {N : Nm} {s : Shared} : Fx L B N s B N s := ⟨fun a o e h _ => ⟨e, h, rfl⟩, fun _ _ h => h, rfl, rfl, rfl⟩
theorem Fx.tok {L : Option Addr} {B : Bm} {N : Nm} {s : Shared} {t : Nat} : Fx L B N s B N { s with toks := t } := ⟨fun a o e h _ => ⟨e, h, rfl⟩, fun _ _ h => h, rfl, rfl, rfl⟩
theorem Fx.trans {L : Option Addr} {B B' B'' : Bm} {N N' N'' : Nm} {s s' s'' : Shared} (x : Fx L B N s B' N' s') (y : Fx L B' N' s' B'' N'' s'') : Fx L B N s B'' N'' s'' :=
 ⟨fun a o ha hn hl => by
  obtain ⟨p, q, r⟩ := x.same a o ha hn hl
  obtain ⟨p', q', r'⟩ := y.same a o p q hl
  exact ⟨p', q', r'.trans r⟩, fun a o h => y.le a o (x.le a o h), y.gens.trans x.gens, y.drawn.trans x.drawn, y.os.trans x.os⟩
structure W {α : Type} (w : World) (A : Around) (ns : List Str) (L : Addr) (t : Sem α) (Q : α → Bm → Vs → Nm → Prop) (B : Bm) (vs : Vs) (N : Nm) : Prop where
 run : ∀ s, Fm w ns L B vs N s.heap → ∀ K : α → Shared → Prop, (∀ v s' B' vs' N', Fm w ns L B' vs' N' s'.heap → Fx (some L) B N s B' N' s' → Q v B' vs' N' → K v s') → wpAny (Mo w) A t K (fun _ _ => False) s
noncomputable abbrev leB (B B' : Bm) : Prop := ∀ a o, B a = some o → B' a = some o
theorem cutP {P : Prop} (h : ∀ G : Prop, (P → G) → G) : P := h P id
noncomputable abbrev Br (b : Bool) (P R : Bm → Vs → Nm → Prop) : Bm → Vs → Nm → Prop := fun B vs N => if b = true then P B vs N else R B vs N
noncomputable abbrev Nc (R : Bm → Vs → Nm → Prop) (Q : Flow → Bm → Vs → Nm → Prop) : Flow → Bm → Vs → Nm → Prop
 | .next => R
 | .brk => Q .brk
 | .cont => Q .cont
 | .ret v => Q (.ret v)
inductive RL (w : World) (ns : List Str) (L : Addr) (Q : Flow → Bm → Vs → Nm → Prop) (B : Bm) (N : Nm) (s : Shared) (r : Except Exn Flow) (s' : Shared) : Prop where
 | mk (f : Flow) (B' : Bm) (vs' : Vs) (N' : Nm) (e : r = .ok f) (F : Fm w ns L B' vs' N' s'.heap) (X : Fx (some L) B N s B' N' s') (q : Q f B' vs' N')
structure WL (w : World) (A : Around) (ns : List Str) (L : Addr) (c : Code) (Q : Flow → Bm → Vs → Nm → Prop) (B : Bm) (vs : Vs) (N : Nm) : Prop where
 run : ∀ s, Fm w ns L B vs N s.heap → codeAny (Mo w) A c (RL w ns L Q B N s) s
structure F0 (w : World) (B : Bm) (N : Nm) (h : Heap) : Prop where
 keep : ∀ a o, B a = some o → o.holds w h a
 led : ∀ p ∈ N, p.2.holds w h p.1 ∧ B p.1 = none
 nd : (N.map (·.1)).Nodup
inductive RC (w : World) (Q : Value → Bm → Nm → Prop) (B : Bm) (N : Nm) (s : Shared) (r : Except Exn Flow) (s' : Shared) : Prop where
 | mk (v : Value) (B' : Bm) (N' : Nm) (e : r = .ok (.ret v)) (F : F0 w B' N' s'.heap) (X : Fx none B N s B' N' s') (q : Q v B' N')
structure Wc (w : World) (A : Around) (c : Code) (Q : Value → Bm → Nm → Prop) (B : Bm) (N : Nm) : Prop where
 run : ∀ s, F0 w B N s.heap → codeAny (Mo w) A c (RC w Q B N s) s
section
variable {α β : Type} {w : World} {A : Around} {ns : List Str} {L : Addr} {B : Bm} {vs : Vs} {N : Nm}
theorem W_mono {t : Sem α} {Q Q' : α → Bm → Vs → Nm → Prop} (h : W w A ns L t Q B vs N) (k : ∀ v B vs N, Q v B vs N → Q' v B vs N) : W w A ns L t Q' B vs N :=
 .mk fun s F K c => h.run s F K fun v s' B' vs' N' F' X q => c v s' B' vs' N' F' X (k _ _ _ _ q)
theorem W_pure {a : α} {Q : α → Bm → Vs → Nm → Prop} (h : Q a B vs N) : W w A ns L (pure a) Q B vs N := .mk fun s F K c => wpAny_pure (c _ _ _ _ _ F .refl h)
theorem W_bind {t : Sem α} {f : α → Sem β} {Q : β → Bm → Vs → Nm → Prop} (h : W w A ns L t (fun v => W w A ns L (f v) Q) B vs N) : W w A ns L (t >>= f) Q B vs N :=
 .mk fun s F K c => wpAny_bind (h.run s F _ fun v s1 B1 vs1 N1 F1 X1 q => q.run s1 F1 _ fun v s2 B2 vs2 N2 F2 X2 q => c v s2 _ _ _ F2 (X1.trans X2) q)
theorem W_read {t : Sem α} {r : α} {Q : α → Bm → Vs → Nm → Prop} (h : ∀ s, Fm w ns L B vs N s.heap → ∀ (K : α → Shared → Prop), K r s → wpAny (Mo w) A t K (fun _ _ => False) s) (q : Q r B vs N) : W w A ns L t Q B vs N :=
 .mk fun s F K c => h s F K (c _ _ _ _ _ F .refl q)
theorem W_readT {t : Sem α} {r : Tok → α} {Q : α → Bm → Vs → Nm → Prop} (h : ∀ s, Fm w ns L B vs N s.heap → ∀ (K : α → Shared → Prop), (∀ k n, K (r k) { s with toks := n }) → wpAny (Mo w) A t K (fun _ _ => False) s) (q : ∀ k, Q (r k) B vs N) : W w A ns L t Q B vs N :=
 .mk fun s F K c => h s F K fun k n => c _ _ _ _ _ F .tok (q k)
theorem W_standAt {p : Pos} {Q : Unit → Bm → Vs → Nm → Prop} (h : Q () B vs N) : W w A ns L (standAt p) Q B vs N := .mk fun s F K c => wpAny_standAt (c _ _ _ _ _ F .refl h)
variable {env : Env}
theorem W_nil {Q : Flow → Bm → Vs → Nm → Prop} (h : Q .next B vs N) : W w A ns L (execs [] env) Q B vs N := .mk fun s F K c => wpAny_execs_nil (c _ _ _ _ _ F .refl h)
theorem W_cons {st : Stmt} {rest : List Stmt} {Q : Flow → Bm → Vs → Nm → Prop}
  (h : W w A ns L (exec st env) (Nc (W w A ns L (execs rest env) Q) Q) B vs N) : W w A ns L (execs (st :: rest) env) Q B vs N :=
 .mk fun s F K c => wpAny_execs_cons (h.run s F _ fun f s1 B1 vs1 N1 F1 X1 q => by
  cases f with
  | next => exact q.run s1 F1 _ fun v s2 B2 vs2 N2 F2 X2 q => c v s2 _ _ _ F2 (X1.trans X2) q
  | brk => exact c _ _ _ _ _ F1 X1 q
  | cont => exact c _ _ _ _ _ F1 X1 q
  | ret v => exact c _ _ _ _ _ F1 X1 q)
theorem W_Return {e : Expr} {pos : Pos} {Q : Flow → Bm → Vs → Nm → Prop} (h : W w A ns L (eval e env) (fun v => Q (.ret v)) B vs N) : W w A ns L (exec (.Return (some e) pos) env) Q B vs N :=
 .mk fun s F K c => wpAny_Return_some (h.run s F _ fun v s1 B1 vs1 N1 F1 X1 q => c _ _ _ _ _ F1 X1 q)
theorem W_If {test : Expr} {body orelse : List Stmt} {pos : Pos} {Q : Flow → Bm → Vs → Nm → Prop}
  (h : W w A ns L (isTrue test env (eval test env)) (fun b => Br b (W w A ns L (execs body env) Q) (W w A ns L (execs orelse env) Q)) B vs N) : W w A ns L (exec (.If test body orelse pos) env) Q B vs N :=
 .mk fun s F K c => wpAny_If (h.run s F _ fun b s1 B1 vs1 N1 F1 X1 q => by
  cases b
  ·exact q.run s1 F1 _ fun v s2 B2 vs2 N2 F2 X2 q => c v s2 _ _ _ F2 (X1.trans X2) q
  ·exact q.run s1 F1 _ fun v s2 B2 vs2 N2 F2 X2 q => c v s2 _ _ _ F2 (X1.trans X2) q)
theorem W_IfExp {test body orelse : Expr} {pos : Pos} {Q : Value → Bm → Vs → Nm → Prop}
  (h : W w A ns L (isTrue test env (eval test env)) (fun b => Br b (W w A ns L (eval body env) Q) (W w A ns L (eval orelse env) Q)) B vs N) : W w A ns L (eval (.IfExp test body orelse pos) env) Q B vs N :=
 .mk fun s F K c => wpAny_IfExp (h.run s F _ fun b s1 B1 vs1 N1 F1 X1 q => by
  cases b
  ·exact q.run s1 F1 _ fun v s2 B2 vs2 N2 F2 X2 q => c v s2 _ _ _ F2 (X1.trans X2) q
  ·exact q.run s1 F1 _ fun v s2 B2 vs2 N2 F2 X2 q => c v s2 _ _ _ F2 (X1.trans X2) q)
theorem W_BinOp {l r : Expr} {op : Operator} {pos : Pos} {Q : Value → Bm → Vs → Nm → Prop}
  (h : W w A ns L (eval l env) (fun a => W w A ns L (eval r env) (fun b => W w A ns L (binaryOp op a b) Q)) B vs N) : W w A ns L (eval (.BinOp l op r pos) env) Q B vs N :=
 .mk fun s F K c => wpAny_BinOp (h.run s F _ fun a s1 B1 vs1 N1 F1 X1 q1 => q1.run s1 F1 _ fun b s2 B2 vs2 N2 F2 X2 q2 => q2.run s2 F2 _ fun v s3 B3 vs3 N3 F3 X3 q3 => c v s3 _ _ _ F3 (X1.trans (X2.trans X3)) q3)
theorem W_Compare {l r : Expr} {op : CmpOp} {pos : Pos} {Q : Value → Bm → Vs → Nm → Prop}
  (h : W w A ns L (eval l env) (fun a => W w A ns L (eval r env) (fun b => W w A ns L (compareOp op a b) Q)) B vs N) (hm : behindInMarks op r = false := by with_unfolding_all rfl) : W w A ns L (eval (.Compare l [op] [r] pos) env) Q B vs N :=
 .mk fun s F K c => wpAny_Compare1 (h.run s F _ fun a s1 B1 vs1 N1 F1 X1 q1 => q1.run s1 F1 _ fun b s2 B2 vs2 N2 F2 X2 q2 => q2.run s2 F2 _ fun v s3 B3 vs3 N3 F3 X3 q3 => c v s3 _ _ _ F3 (X1.trans (X2.trans X3)) q3) hm
theorem W_tCompare {l r : Expr} {op : CmpOp} {pos : Pos} {whole : Sem Value} {Q : Bool → Bm → Vs → Nm → Prop}
  (h : W w A ns L (eval l env) (fun a => W w A ns L (eval r env) (fun b => W w A ns L (compareOp op a b) (fun c => W w A ns L (truthy c) Q))) B vs N) (hm : behindInMarks op r = false := by with_unfolding_all rfl) : W w A ns L (isTrue (.Compare l [op] [r] pos) env whole) Q B vs N :=
 .mk fun s F K c => wpAny_isTrue_Compare1 (h.run s F _ fun a s1 B1 vs1 N1 F1 X1 q1 => q1.run s1 F1 _ fun b s2 B2 vs2 N2 F2 X2 q2 => q2.run s2 F2 _ fun v s3 B3 vs3 N3 F3 X3 q3 => q3.run s3 F3 _ fun v s4 B4 vs4 N4 F4 X4 q4 => c v s4 _ _ _ F4 (X1.trans (X2.trans (X3.trans X4))) q4) hm
end
end
section
open PySem PySem.W PyProof.Rows PySem.Calls PySem.Spec
inductive Hv : List Str → Vs → Str → Value → Prop
 | here {x ns v vs} : Hv (x :: ns) (some v :: vs) x v
 | there {y ns u vs x v} : Hv ns vs x v → Hv (y :: ns) (u :: vs) x v
inductive Pv : List Str → Vs → Str → Value → Vs → Prop
 | here {x ns u v vs} : Pv (x :: ns) (u :: vs) x v (some v :: vs)
 | there {y ns u vs x v vs'} : Pv ns vs x v vs' → Pv (y :: ns) (u :: vs) x v (u :: vs')
theorem Hv.mem {ns : List Str} {vs : Vs} {x : Str} {v : Value} (h : Hv ns vs x v) : x ∈ ns := by
 induction h with
 | here => exact .head _
 | there _ ih => exact .tail _ ih
theorem Pv.mem {ns : List Str} {vs : Vs} {x : Str} {v : Value} {vs' : Vs} (h : Pv ns vs x v vs') : x ∈ ns := by
 induction h with
 | here => exact .head _
 | there _ ih => exact .tail _ ih
theorem Hv.look {ns : List Str} {vs : Vs} {x : Str} {v : Value} (nd : ns.Nodup) (h : Hv ns vs x v) : SJ.look ns vs x = some v := by
 induction h with
 | here => simp [look_cons]
 | @there y ns u vs x v h ih =>
  obtain ⟨n1, n2⟩ := List.nodup_cons.mp nd
  have : ¬ x = y := fun e => n1 (by subst e; exact h.mem)
  simp [look_cons, this, ih n2]
theorem Pv.look {ns : List Str} {vs : Vs} {x : Str} {v : Value} {vs' : Vs} (nd : ns.Nodup) (h : Pv ns vs x v vs') : SJ.look ns vs' = fun y => if y = x then some v else SJ.look ns vs y := by
 induction h with
 | here => funext y; simp only [look_cons]; split <;> simp_all
 | @there y ns u vs x v vs' h ih =>
  obtain ⟨n1, n2⟩ := List.nodup_cons.mp nd
  funext z
  simp only [look_cons, ih n2]
  by_cases hz : z = y
  ·have : ¬ y = x := fun e => n1 (by subst e; exact h.mem)
   subst hz; simp [this]
  ·simp [hz]
structure Ev (env : Env) (ns gs : List Str) (cl : List (Str × Addr)) (L : Addr) : Prop where
 kind : env.scope.kind = .function
 locals : env.locals = L
 globals : env.globals = mainGlobals
 builtins : env.builtins = builtinsNs
 cells : env.cells = cl
 nd : ns.Nodup
 loc : ∀ x ∈ ns, env.kindOf x = some .local
 glo : ∀ x ∈ gs, env.kindOf x = some .globalImplicit
 cel : ∀ x ∈ cl, env.kindOf x.1 = some .cell
 cnd : (cl.map (·.1)).Nodup
structure KB (w : World) (B : Bm) : Prop where
 own : ∀ a o, (H1 w.params).get? a = some o → B a = some (.obj o)
 blt : ∃ mb, (∀ h : Heap, (∀ a o, B a = some o → o.holds w h a) → h.Ns builtinsNs mb) ∧ ∀ x : Str, x ≠ "__name__" → mb x = bootBuiltins x
theorem KB.mono {w : World} {B B' : Bm} (x : KB w B) (h : ∀ a o, B a = some o → B' a = some o) : KB w B' :=
 ⟨fun a o e => h _ _ (x.own a o e), let ⟨mb, p, q⟩ := x.blt; ⟨mb, fun hh k => p hh fun a o e => k a o (h a o e), q⟩⟩
section
variable {α β : Type} {w : World} {A : Around} {ns gs : List Str} {cl : List (Str × Addr)} {L : Addr} {B : Bm} {vs : Vs} {N : Nm} {env : Env}
theorem Ev.notDebug {x : Str} (ev : Ev env ns gs cl L) (h : env.kindOf x = some .local ∨ env.kindOf x = some .globalImplicit) : True := trivial
theorem W_local {x : Str} {pos : Pos} {v : Value} {Q : Value → Bm → Vs → Nm → Prop} (ev : Ev env ns gs cl L) (hv : Hv ns vs x v) (q : Q v B vs N) (hd : (x == ("__debug__" : Str)) = false := by decide) : W w A ns L (eval (.Name x pos) env) Q B vs N :=
 W_read (fun s F K c => wpAny_Name (wpAny_loadName_local ev.kind (ev.loc _ hv.mem) (by rw [ev.locals]; exact F.loc) (hv.look ev.nd) c) hd) q
theorem W_localN {x : Str} {v : Value} {Q : Value → Bm → Vs → Nm → Prop} (ev : Ev env ns gs cl L) (hv : Hv ns vs x v) (q : Q v B vs N) : W w A ns L (loadName env x) Q B vs N :=
 W_read (fun s F K c => wpAny_loadName_local ev.kind (ev.loc _ hv.mem) (by rw [ev.locals]; exact F.loc) (hv.look ev.nd) c) q
theorem W_store {x : Str} {v : Value} {vs' : Vs} {Q : Unit → Bm → Vs → Nm → Prop} (ev : Ev env ns gs cl L) (hv : Pv ns vs x v vs') (q : Q () B vs' N) : W w A ns L (storeName env x v) Q B vs N :=
 .mk fun s F K c => by
  refine wpAny_storeName_local (ev.loc _ hv.mem) (by rw [ev.locals]; exact F.loc) (fun h' hn hs => ?_) (by rw [ev.kind]; rfl)
  rw [ev.locals] at hn hs
  refine c _ _ B vs' N ⟨by rw [hv.look ev.nd]; exact hn, fun a o e => (F.keep a o e).keeps (hs.2 a fun q => ?_), fun p hp => ⟨(F.led p hp).1.keeps (hs.2 _ (F.led p hp).2.2), (F.led p hp).2⟩, F.nd, F.out⟩
   ⟨fun a o e hn hl => ⟨(hs.2 a fun q => hl (by rw [q])).trans e, hn, rfl⟩, fun _ _ h => h, rfl, rfl, rfl⟩ q
  rw [q, F.out] at e; cases e
theorem W_AssignName {x : Str} {pos pos' : Pos} {value : Expr} {Q : Flow → Bm → Vs → Nm → Prop}
  (h : W w A ns L (eval value env) (fun v => W w A ns L (storeName env x v) (fun _ => Q .next)) B vs N)
  (hs : swapsWith value (some (.Name x pos')) pos.line env = pure false := by with_unfolding_all rfl) : W w A ns L (exec (.Assign [.Name x pos'] value pos) env) Q B vs N :=
 .mk fun s F K c => wpAny_Assign_Name (h.run s F _ fun a s1 B1 vs1 N1 F1 X1 q1 => q1.run s1 F1 _ fun b s2 B2 vs2 N2 F2 X2 q2 => c _ s2 _ _ _ F2 (X1.trans X2) q2) hs
theorem W_AugName {x : Str} {pos pos' : Pos} {op : Operator} {value : Expr} {Q : Flow → Bm → Vs → Nm → Prop}
  (h : W w A ns L (loadName env x) (fun old => W w A ns L (eval value env) (fun v => W w A ns L (inplaceOp op old v) (fun r => W w A ns L (storeName env x r) (fun _ => Q .next)))) B vs N) :
  W w A ns L (exec (.AugAssign (.Name x pos') op value pos) env) Q B vs N :=
 .mk fun s F K c => wpAny_AugAssign_Name (h.run s F _ fun a s1 B1 vs1 N1 F1 X1 q1 => q1.run s1 F1 _ fun b s2 B2 vs2 N2 F2 X2 q2 => q2.run s2 F2 _ fun r s3 B3 vs3 N3 F3 X3 q3 => q3.run s3 F3 _ fun _ s4 B4 vs4 N4 F4 X4 q4 => c _ s4 _ _ _ F4 (X1.trans (X2.trans (X3.trans X4))) q4)
theorem W_int {i : Int} {k : Nat} {pos : Pos} {Q : Value → Bm → Vs → Nm → Prop} (q : ∀ t, Q (.int i t) B vs N) : W w A ns L (eval (.Constant (.int i) k pos) env) Q B vs N :=
 W_readT (r := fun t => .int i t) (fun s F K c => wpAny_Constant_int (c _ _)) q
theorem W_str {x : Str} {k : Nat} {pos : Pos} {Q : Value → Bm → Vs → Nm → Prop} (q : ∀ t, Q (.str x t) B vs N) : W w A ns L (eval (.Constant (.str x) k pos) env) Q B vs N :=
 W_readT (r := fun t => .str x t) (fun s F K c => wpAny_Constant_str (c _ _)) q
theorem W_none {k : Nat} {pos : Pos} {Q : Value → Bm → Vs → Nm → Prop} (q : Q .none B vs N) : W w A ns L (eval (.Constant .none k pos) env) Q B vs N :=
 W_read (fun s F K c => wpAny_Constant_none c) q
theorem W_bool {b : Bool} {k : Nat} {pos : Pos} {Q : Value → Bm → Vs → Nm → Prop} (q : Q (.bool b) B vs N) : W w A ns L (eval (.Constant (.bool b) k pos) env) Q B vs N :=
 W_read (fun s F K c => wpAny_Constant_bool c) q
theorem Fm.push {h : Heap} {a : Addr} {o : Obj} {sl : Slot} (F : Fm w ns L B vs N h) (ha : a = h.objs.size) (hf : o.isFreed = false) (hh : ∀ h' : Heap, h'.get? a = some o → sl.holds w h' a) : Fm w ns L B vs ((a, sl) :: N) (h.push o) := by
 have kp : ∀ b x, h.get? b = some x → (h.push o).get? b = some x := fun b x e => Heap.get?_push_of_some _ e
 have lt : ∀ b x, h.get? b = some x → b < h.objs.size := fun b x e => Heap.lt_size e
 have na : ∀ sl b, Slot.holds w h b sl → b ≠ a := fun sl b hb e => by
  obtain ⟨x, hx⟩ := hb.some
  have := lt _ _ hx
  subst e; subst ha
  exact absurd this (Nat.lt_irrefl _)
 have kh : ∀ sl b, Slot.holds w h b sl → Slot.holds w (h.push o) b sl := fun sl b hb => hb.keeps (by
  obtain ⟨x, hx⟩ := hb.some
  rw [hx]; exact kp _ _ hx)
 have hL : L ≠ a := fun e => by
  obtain ⟨x, _, _, hx, _⟩ := F.loc
  have := lt _ _ hx
  subst e; subst ha
  exact absurd this (Nat.lt_irrefl _)
 refine ⟨F.loc.push o, fun b x e => kh _ _ (F.keep b x e), fun p hp => ?_, ?_, F.out⟩
 ·rcases List.mem_cons.mp hp with rfl | hp
  ·refine ⟨hh _ (by subst ha; exact Heap.get?_push_size _ hf), ?_, Ne.symm hL⟩
   cases e : B a with
   | none => rfl
   | some x => exact absurd rfl (na _ _ (F.keep _ _ e))
  ·exact ⟨kh _ _ (F.led p hp).1, (F.led p hp).2⟩
 ·rw [List.map_cons, List.nodup_cons]
  refine ⟨fun hm => ?_, F.nd⟩
  obtain ⟨p, hp, e⟩ := List.mem_map.mp hm
  exact na _ _ (F.led p hp).1 e
theorem Fx.push {L : Option Addr} {s : Shared} {o : Obj} {sl : Slot} {n : Nat} : Fx L B N s B ((s.heap.objs.size, sl) :: N) { s with heap := s.heap.push o, toks := n } :=
 ⟨fun a x e hn _ => ⟨Heap.get?_push_of_some _ e, fun p hp => by
  rcases List.mem_cons.mp hp with rfl | hp
  ·exact Nat.ne_of_gt (Heap.lt_size e)
  ·exact hn p hp, rfl⟩, fun _ _ h => h, rfl, rfl, rfl⟩
end
end
section
open PySem PySem.W PyProof.Rows PySem.Calls PySem.Spec
noncomputable def Rm (A : Around) (d : Nat) : Prop := A.depth + 2 * d < recursionLimit ∧ A.units + 20 * d < cLine ∧ A.handled = none
noncomputable def nameOf : Stmt → Str | .FunctionDef n _ _ _ _ _ _ _ _ _ => n | _ => ""
noncomputable def dArgs : Stmt → Arguments | .FunctionDef _ a _ _ _ _ _ _ _ _ => a | _ => ⟨[], [], none, [], [], none, []⟩
noncomputable def dBody : Stmt → List Stmt | .FunctionDef _ _ b _ _ _ _ _ _ _ => b | _ => []
noncomputable def dScope : Stmt → Scope | .FunctionDef _ _ _ _ _ _ s _ _ _ => s | _ => { kind := .function, names := [], isGenerator := false, isCoroutine := false }
noncomputable def isDef : Stmt → Bool | .FunctionDef _ _ _ _ _ _ _ _ _ _ => true | _ => false
theorem isDef.is {s : Stmt} (h : isDef s = true) : ∃ n a b ds r tps sc ts bi pos, s = .FunctionDef n a b ds r tps sc ts bi pos := by
 cases s <;> first | exact ⟨_, _, _, _, _, _, _, _, _, _, rfl⟩ | exact nomatch h
noncomputable def okDef (s : Stmt) (ps ns gs : List Str) : Bool :=
 isDef s && (dScope s).kind == .function && !(dScope s).isCoroutine && !(dScope s).isGenerator && decide (ns.Nodup) && decide (ps = ns.take ps.length) &&
 ns.all (fun x => (dScope s).names.lookup x == some .local) && gs.all (fun x => (dScope s).names.lookup x == some .globalImplicit) &&
 (dScope s).names.all (fun x => x.2 != .cell) && (dArgs s).posonlyargs.isEmpty && decide ((dArgs s).args.map (·.arg) = ps) && (dArgs s).vararg.isNone && (dArgs s).kwonlyargs.isEmpty && (dArgs s).kwarg.isNone && (dArgs s).defaults.isEmpty
section
variable {α β : Type} {w : World} {A : Around} {ns gs : List Str} {cl : List (Str × Addr)} {L : Addr} {B : Bm} {vs : Vs} {N : Nm} {env : Env}
noncomputable abbrev LstQ (Q : Value → Bm → Vs → Nm → Prop) : List Value → Bm → Vs → Nm → Prop := fun xs B vs N => xs.length ≤ sizeLine ∧ ∀ a, Q (.ref a) B vs ((a, .lst xs) :: N)
theorem W_spl_nil {pos : Pos} {Q : List Value → Bm → Vs → Nm → Prop} (q : Q [] B vs N) : W w A ns L (spliced (backTo pos (starEach [] env))) Q B vs N :=
 .mk fun s F K c => spliced_nil (c _ _ _ _ _ F .refl q)
theorem W_spl_cons {pos : Pos} {e : Expr} {rest : List Expr} {Q : List Value → Bm → Vs → Nm → Prop}
  (h : W w A ns L (eval e env) (fun v => W w A ns L (spliced (backTo pos (starEach rest env))) (fun xs => Q (v :: xs))) B vs N)
  (he : starEach (e :: rest) env = (false, eval e env) :: starEach rest env := by with_unfolding_all rfl) : W w A ns L (spliced (backTo pos (starEach (e :: rest) env))) Q B vs N :=
 .mk fun s F K c => by
  rw [he]
  exact spliced_cons (rest := backTo pos (starEach rest env)) (h.run s F _ fun a s1 B1 vs1 N1 F1 X1 q1 => q1.run s1 F1 _ fun b s2 B2 vs2 N2 F2 X2 q2 => c _ s2 _ _ _ F2 (X1.trans X2) q2)
theorem tup_holds {xs : List Value} {h' : Heap} {a : Addr} (e : h'.get? a = some { cls := .type "tuple", data := .seq xs.toArray }) : (Slot.tup xs).holds w h' a := ⟨_, e⟩
theorem lst_holds {xs : List Value} {h' : Heap} {a : Addr} (e : h'.get? a = some { cls := .type "list", data := .seq xs.toArray }) : (Slot.lst xs).holds w h' a := ⟨_, e⟩
theorem W_newTuple {xs : List Value} {Q : Value → Bm → Vs → Nm → Prop} (hl : xs.length ≤ sizeLine) (q : ∀ a, Q (.ref a) B vs ((a, .tup xs) :: N)) : W w A ns L (newTuple xs) Q B vs N :=
 .mk fun s F K c => wpAny_newTuple (c _ _ _ _ _ (F.push rfl rfl fun _ e => tup_holds e) (Fx.push (n := s.toks)) (q _)) hl
theorem W_newList {xs : List Value} {Q : Value → Bm → Vs → Nm → Prop} (hl : xs.length ≤ sizeLine) (q : ∀ a, Q (.ref a) B vs ((a, .lst xs) :: N)) : W w A ns L (newList xs) Q B vs N :=
 .mk fun s F K c => wpAny_newList (c _ _ _ _ _ (F.push rfl rfl fun _ e => lst_holds e) (Fx.push (n := s.toks)) (q _)) hl
theorem W_Tuple {elts : List Expr} {k : Nat} {pos : Pos} {Q : Value → Bm → Vs → Nm → Prop}
  (h : W w A ns L (spliced (backTo pos (starEach elts env))) (fun xs B vs N => xs.length ≤ sizeLine ∧ ∀ a, Q (.ref a) B vs ((a, .tup xs) :: N)) B vs N) : W w A ns L (eval (.Tuple elts k pos) env) Q B vs N :=
 .mk fun s F K c => Tuple_ (h.run s F _ fun xs s1 B1 vs1 N1 F1 X1 q1 => (W_newTuple q1.1 q1.2).run s1 F1 _ fun v s2 B2 vs2 N2 F2 X2 q2 => c _ s2 _ _ _ F2 (X1.trans X2) q2)
theorem W_List {elts : List Expr} {pos : Pos} {Q : Value → Bm → Vs → Nm → Prop}
  (h : W w A ns L (spliced (backTo pos (starEach elts env))) (LstQ Q) B vs N) : W w A ns L (eval (.List elts pos) env) Q B vs N :=
 .mk fun s F K c => List_ (h.run s F _ fun xs s1 B1 vs1 N1 F1 X1 q1 => (W_newList q1.1 q1.2).run s1 F1 _ fun v s2 B2 vs2 N2 F2 X2 q2 => c _ s2 _ _ _ F2 (X1.trans X2) q2)
theorem Wc_mono {c : Code} {Q Q' : Value → Bm → Nm → Prop} (h : Wc w A c Q B N) (k : ∀ v B N, Q v B N → Q' v B N) : Wc w A c Q' B N :=
 .mk fun s F => codeAny_mono (h.run s F) fun r s' ⟨v, B', N', e, F', X, q⟩ => ⟨v, B', N', e, F', X, k _ _ _ q⟩
theorem Wc_le {c : Code} {Q Q' : Value → Bm → Nm → Prop} (h : Wc w A c Q B N) (k : ∀ v B' N, (∀ a o, B a = some o → B' a = some o) → Q v B' N → Q' v B' N) : Wc w A c Q' B N :=
 .mk fun s F => codeAny_mono (h.run s F) fun r s' ⟨v, B', N', e, F', X, q⟩ => ⟨v, B', N', e, F', X, k _ _ _ X.le q⟩
theorem Wc_frame {c : Code} {Nc R : Nm} {Q : Value → Bm → Nm → Prop} (hp : N.Perm (Nc ++ R)) (h : Wc w A c Q B Nc) : Wc w A c (fun v B' N' => ∃ Nc', N' = Nc' ++ R ∧ Q v B' Nc') B N :=
 .mk fun s F => by
  have memN : ∀ p, p ∈ Nc ∨ p ∈ R ↔ p ∈ N := fun p => by rw [hp.mem_iff, List.mem_append]
  have nd : ((Nc ++ R).map (·.1)).Nodup := ((hp.map (·.1)).nodup_iff).mp F.nd
  rw [List.map_append, List.nodup_append] at nd
  obtain ⟨nd1, nd2, nd3⟩ := nd
  refine codeAny_mono (h.run s ⟨F.keep, fun p hp => F.led p ((memN p).mp (.inl hp)), nd1⟩) fun r s' ⟨v, B', N', e, F', X, q⟩ => ⟨v, B', N' ++ R, e, ?_, ?_, N', rfl, q⟩
  ·have key : ∀ p ∈ R, s'.heap.get? p.1 = s.heap.get? p.1 ∧ (∀ q ∈ N', q.1 ≠ p.1) ∧ B' p.1 = B p.1 := fun p hp => by
    obtain ⟨x, hx⟩ := (F.led p ((memN p).mp (.inr hp))).1.some
    obtain ⟨a, b, c⟩ := X.same p.1 x hx (fun q hq => nd3 _ (List.mem_map_of_mem hq) _ (List.mem_map_of_mem hp)) (by simp)
    exact ⟨a.trans hx.symm, b, c⟩
   refine ⟨F'.keep, fun p hp => ?_, ?_⟩
   ·rcases List.mem_append.mp hp with hp | hp
    ·exact F'.led p hp
    ·obtain ⟨a, b, c⟩ := key p hp
     exact ⟨(F.led p ((memN p).mp (.inr hp))).1.keeps a, by rw [c]; exact (F.led p ((memN p).mp (.inr hp))).2⟩
   ·rw [List.map_append, List.nodup_append]
    refine ⟨F'.nd, nd2, fun a ha b hb => ?_⟩
    obtain ⟨p, hp, rfl⟩ := List.mem_map.mp ha
    obtain ⟨q, hq, rfl⟩ := List.mem_map.mp hb
    exact (key q hq).2.1 p hp
  ·refine ⟨fun a o ha hn hl => ?_, X.le, X.gens, X.drawn, X.os⟩
   obtain ⟨x, y, z⟩ := X.same a o ha (fun p hp => hn p ((memN p).mp (.inl hp))) hl
   refine ⟨x, fun p hp => ?_, z⟩
   rcases List.mem_append.mp hp with hp | hp
   ·exact y p hp
   ·exact hn p ((memN p).mp (.inr hp))
theorem W_code {f : Value} {args : List Value} {R : Value → Bm → Nm → Prop} {Q : Value → Bm → Vs → Nm → Prop} (hc : Wc w A (.call f ⟨args, []⟩) R B N)
  (q : ∀ v B' N', leB B B' → R v B' N' → Q v B' vs N') : W w A ns L (call f args) Q B vs N :=
 .mk fun s F K c => wpAny_call (codeAny_mono (hc.run s ⟨F.keep, fun p hp => ⟨(F.led p hp).1, (F.led p hp).2.1⟩, F.nd⟩) fun r s' ⟨v, B', N', e, F', X, r⟩ => by
  subst e
  obtain ⟨o, es, ep, ho, h1⟩ := F.loc
  obtain ⟨x, y, z⟩ := X.same L o ho (fun p hp => (F.led p hp).2.2) (by simp)
  exact c _ _ B' vs N' ⟨⟨o, es, ep, x, h1⟩, F'.keep, fun p hp => ⟨(F'.led p hp).1, (F'.led p hp).2, y p hp⟩, F'.nd, by rw [z]; exact F.out⟩
   ⟨fun a o ha hn _ => X.same a o ha hn (by simp), X.le, X.gens, X.drawn, X.os⟩ (q _ _ _ X.le r))
theorem W_call {f : Value} {args : List Value} {Nc R : Nm} {S : Value → Bm → Nm → Prop} {Q : Value → Bm → Vs → Nm → Prop} (hp : N.Perm (Nc ++ R)) (hc : Wc w A (.call f ⟨args, []⟩) S B Nc)
  (q : ∀ v B' N', (∀ a o, B a = some o → B' a = some o) → S v B' N' → Q v B' vs (N' ++ R)) : W w A ns L (call f args) Q B vs N :=
 W_code (Wc_frame hp hc) fun v B' N' le ⟨Nc', e, r⟩ => e ▸ q v B' Nc' le r
theorem W_weaken {t : Sem α} {N' : Nm} {Q : α → Bm → Vs → Nm → Prop} (hs : ∀ p ∈ N', p ∈ N) (nd : (N.map (·.1)).Nodup → (N'.map (·.1)).Nodup) (h : W w A ns L t Q B vs N') : W w A ns L t Q B vs N :=
 .mk fun s F K c => h.run s ⟨F.loc, F.keep, fun p hp => F.led p (hs p hp), nd F.nd, F.out⟩ K fun v s' B' vs' N'' F' X q => c v s' B' vs' N'' F'
  ⟨fun a o ha hn hl => by
   obtain ⟨x, y, z⟩ := X.same a o ha (fun p hp => hn p (hs p hp)) hl
   exact ⟨x, y, z⟩, X.le, X.gens, X.drawn, X.os⟩ q
end
end
section
open PySem PySem.W PyProof.Rows PySem.Calls
theorem said : PySem.Challenge.rw_sj0202_01.wellSaid = true := by decide +kernel
noncomputable abbrev rr : OpenRow := PySem.Challenge.rw_sj0202_01.row
noncomputable def dPos : Stmt → Pos | .FunctionDef _ _ _ _ _ _ _ _ _ p => p | _ => ⟨0, 0, 0, 0⟩
noncomputable def lawD : DefRec := { name := "law", params := dArgs (st 102), body := dBody (st 102), scope := dScope (st 102), pos := dPos (st 102) }
noncomputable def YP (w : World) (h : Heap) : Prop := ∀ a o, (H1 w.params).get? a = some o → h.get? a = some o
theorem hdef : defOf qq rr.name = some (lawD, []) := by kernel_rfl
theorem hp : rr.prog.theDef rr.name = some (lawD.params, lawD.body, lawD.scope) := by kernel_rfl
theorem hk : kwWritten? lawD.params.kwonlyargs lawD.params.kw_defaults = some [] := by kernel_rfl
theorem ok : (chainsOk qq && opensWell rr.prog && (frees rr.toRowW && rr.within.isEmpty)) = true := by decide +kernel
theorem bare : rr.prog.bare := ⟨rfl, rfl, rfl, rfl, rfl, by decide +kernel⟩
theorem prom : rr.toRowW.promised := ⟨[.list []], by decide +kernel, by decide +kernel⟩
theorem top (call : WalkO qq loose (fun _ _ => True) YP rr.toRowW lawD [] fun f vs => PySem.call f vs) : PySem.Challenge.rw_sj0202_01.Holds :=
 holds_law said fun h => holds_open (r := rr) (q := qq) (loose := loose) (Xt := fun _ => true) (XP := fun _ _ => True) (Yf := fun s => s.heap) (Ya := fun w => H1 w.params) (YP := YP) (d := lawD) (kwd := []) (N := 10000)
  left (fun w s e a o ho => by rw [show s.heap = _ from e]; exact ho) (fun w h h' y k a o ho => k a o (y a o ho)) (fun _ _ => trivial) (fun _ _ _ _ _ => trivial)
  hdef hp hk (fun s _ => recFacts_nil rfl) rfl h ok bare prom call
end
section
open PySem PySem.W PyProof.Rows PySem.Calls PySem.Spec
noncomputable def entsOf (o : Obj) : Array DictEntry := match o.data with | .dict es _ => es | _ => #[]
noncomputable def strKeyed (es : Array DictEntry) : Bool := es.toList.all fun e => match e.key with | .str _ _ => true | _ => false
theorem strKeys_of {es : Array DictEntry} (h : strKeyed es = true) : StrKeys es := fun e he => by
 have := List.all_eq_true.mp h e (Array.mem_toList_iff.mpr he)
 revert this
 cases e.key <;> intro q <;> first | exact ⟨_, _, rfl⟩ | cases q
noncomputable def cod (l : List Nat) : Nat := l.foldr (fun c n => Nat.add c (Nat.mul 1114112 n)) 0
noncomputable def keyCod (e : DictEntry) : Nat := match e.key with | .str x _ => cod x.cps.toList | _ => 0
noncomputable def nodupB : List Nat → Bool
 | [] => true
 | a :: l => (l.all fun b => !Nat.beq a b) && nodupB l
theorem find_at (x : Str) (t : Tok) (v : Value) (hh : Int) : ∀ (l : List DictEntry) (i : Nat), nodupB (l.map keyCod) = true → l[i]? = some ⟨hh, .str x t, v⟩ → l.find? (fun e => e.key.isStr x) = some ⟨hh, .str x t, v⟩
 | [], i, _, h => by simp at h
 | e :: l, i, nd, h => by
  simp only [List.map_cons, nodupB, Bool.and_eq_true] at nd
  rw [List.find?_cons]
  cases i with
  | zero =>
   simp only [List.getElem?_cons_zero, Option.some.injEq] at h
   subst h
   simp [Value.isStr]
  | succ i =>
   simp only [List.getElem?_cons_succ] at h
   have hm : (⟨hh, .str x t, v⟩ : DictEntry) ∈ l := List.mem_of_getElem? h
   have hc := List.all_eq_true.mp nd.1 _ (List.mem_map_of_mem hm)
   cases q : e.key.isStr x with
   | true =>
    exfalso
    cases ek : e.key with
    | str y ty =>
     rw [ek] at q
     have : y = x := by simpa [Value.isStr] using q
     subst this
     simp [keyCod, ek] at hc
    | _ => rw [ek] at q; simp [Value.isStr] at q
   | false => simpa using find_at x t v hh l i nd.2 h
theorem nsFind_at {x : Str} {t : Tok} {v : Value} {hh : Int} {es : Array DictEntry} (i : Nat) (nd : nodupB (es.toList.map keyCod) = true) (h : es.toList[i]? = some ⟨hh, .str x t, v⟩) : nsFind es x = some v := by
 unfold nsFind findBy
 rw [← Array.find?_toList, find_at x t v hh _ i nd h]; rfl
noncomputable def gEs (P : Params) : Array DictEntry := entsOf (o3_14 P)
noncomputable def gv (w : World) (x : Str) : Option Value := nsFind (gEs w.params) x
theorem h1_3 (P : Params) : (H1 P).get? 3 = some (o3_14 P) := by kernel_rfl
theorem h1_2 (P : Params) : (H1 P).get? 2 = some (o2_3 P) := by kernel_rfl
theorem gKeys (P : Params) : strKeyed (gEs P) = true := by kernel_rfl
theorem gNd (P : Params) : nodupB ((gEs P).toList.map keyCod) = true := by kernel_rfl
theorem sKeys (P : Params) : strKeyed (entsOf (o2_3 P)) = true := by kernel_rfl
theorem sLim (P : Params) : nsFind (entsOf (o2_3 P)) "sys.recursionlimit" = none := by kernel_rfl
theorem KB.nolim {w : World} {B : Bm} {h : Heap} (K : KB w B) (k : ∀ a o, B a = some o → o.holds w h a) : h.NoLimit :=
 ⟨fun x => nsFind (entsOf (o2_3 w.params)) x, ⟨_, _, _, k _ _ (K.own _ _ (h1_2 _)), rfl, strKeys_of (sKeys _), fun _ => rfl⟩, sLim _⟩
theorem KB.globs {w : World} {B : Bm} {h : Heap} (K : KB w B) (k : ∀ a o, B a = some o → o.holds w h a) : h.Ns mainGlobals (gv w) :=
 ⟨_, _, _, k _ _ (K.own _ _ (h1_3 _)), rfl, strKeys_of (gKeys _), fun _ => rfl⟩
theorem g_ONE (w : World) : gv w "ONE" = some (.str "one" 189) := nsFind_at (t := 190) (hh := PyData.keyHash w.params "ONE") 9 (gNd _) (by kernel_rfl)
theorem g_WAYS (w : World) : gv w "WAYS" = some (.str "ways" 191) := nsFind_at (t := 192) (hh := PyData.keyHash w.params "WAYS") 10 (gNd _) (by kernel_rfl)
theorem g_SPLIT (w : World) : gv w "SPLIT" = some (.str "split" 193) := nsFind_at (t := 194) (hh := PyData.keyHash w.params "SPLIT") 11 (gNd _) (by kernel_rfl)
theorem g_JUMP (w : World) : gv w "JUMP" = some (.str "jump" 195) := nsFind_at (t := 196) (hh := PyData.keyHash w.params "JUMP") 12 (gNd _) (by kernel_rfl)
theorem g_MARK (w : World) : gv w "MARK" = some (.str "mark" 197) := nsFind_at (t := 198) (hh := PyData.keyHash w.params "MARK") 13 (gNd _) (by kernel_rfl)
theorem g_NAME (w : World) : gv w "NAME" = some (.str "name" 199) := nsFind_at (t := 200) (hh := PyData.keyHash w.params "NAME") 14 (gNd _) (by kernel_rfl)
theorem g_SET (w : World) : gv w "SET" = some (.str "set" 201) := nsFind_at (t := 202) (hh := PyData.keyHash w.params "SET") 15 (gNd _) (by kernel_rfl)
theorem g_GAIN (w : World) : gv w "GAIN" = some (.str "gain" 203) := nsFind_at (t := 204) (hh := PyData.keyHash w.params "GAIN") 16 (gNd _) (by kernel_rfl)
theorem g_PLACE (w : World) : gv w "PLACE" = some (.str "place" 205) := nsFind_at (t := 206) (hh := PyData.keyHash w.params "PLACE") 17 (gNd _) (by kernel_rfl)
theorem g_ASK (w : World) : gv w "ASK" = some (.str "ask" 207) := nsFind_at (t := 208) (hh := PyData.keyHash w.params "ASK") 18 (gNd _) (by kernel_rfl)
theorem g_FENCE (w : World) : gv w "FENCE" = some (.str "fence" 209) := nsFind_at (t := 210) (hh := PyData.keyHash w.params "FENCE") 19 (gNd _) (by kernel_rfl)
theorem g_FAIL (w : World) : gv w "FAIL" = some (.str "fail" 211) := nsFind_at (t := 212) (hh := PyData.keyHash w.params "FAIL") 20 (gNd _) (by kernel_rfl)
theorem g_ABORT (w : World) : gv w "ABORT" = some (.str "abort" 213) := nsFind_at (t := 214) (hh := PyData.keyHash w.params "ABORT") 21 (gNd _) (by kernel_rfl)
theorem g_SUCCEED (w : World) : gv w "SUCCEED" = some (.str "succeed" 215) := nsFind_at (t := 216) (hh := PyData.keyHash w.params "SUCCEED") 22 (gNd _) (by kernel_rfl)
theorem g_DONE (w : World) : gv w "DONE" = some (.str "done" 217) := nsFind_at (t := 218) (hh := PyData.keyHash w.params "DONE") 23 (gNd _) (by kernel_rfl)
theorem g_PUT (w : World) : gv w "PUT" = some (.str "put" 219) := nsFind_at (t := 220) (hh := PyData.keyHash w.params "PUT") 24 (gNd _) (by kernel_rfl)
theorem g_EMIT (w : World) : gv w "EMIT" = some (.str "emit" 221) := nsFind_at (t := 222) (hh := PyData.keyHash w.params "EMIT") 25 (gNd _) (by kernel_rfl)
theorem g_OPEN (w : World) : gv w "OPEN" = some (.str "open" 223) := nsFind_at (t := 224) (hh := PyData.keyHash w.params "OPEN") 26 (gNd _) (by kernel_rfl)
theorem g_SHUT (w : World) : gv w "SHUT" = some (.str "shut" 225) := nsFind_at (t := 226) (hh := PyData.keyHash w.params "SHUT") 27 (gNd _) (by kernel_rfl)
theorem g_MEET (w : World) : gv w "MEET" = some (.str "meet" 227) := nsFind_at (t := 228) (hh := PyData.keyHash w.params "MEET") 28 (gNd _) (by kernel_rfl)
theorem g_SINGLE (w : World) : gv w "SINGLE" = some (.ref 15) := nsFind_at (t := 240) (hh := PyData.keyHash w.params "SINGLE") 29 (gNd _) (by kernel_rfl)
theorem g_ALONE (w : World) : gv w "ALONE" = some (.ref 16) := nsFind_at (t := 245) (hh := PyData.keyHash w.params "ALONE") 30 (gNd _) (by kernel_rfl)
theorem g_row_of (w : World) : gv w "row_of" = some (.ref 23) := nsFind_at (t := 256) (hh := PyData.keyHash w.params "row_of") 31 (gNd _) (by kernel_rfl)
theorem g_is_plain_text (w : World) : gv w "is_plain_text" = some (.ref 30) := nsFind_at (t := 263) (hh := PyData.keyHash w.params "is_plain_text") 32 (gNd _) (by kernel_rfl)
theorem g_with_texts_joined (w : World) : gv w "with_texts_joined" = some (.ref 37) := nsFind_at (t := 272) (hh := PyData.keyHash w.params "with_texts_joined") 33 (gNd _) (by kernel_rfl)
theorem g_PatternCode (w : World) : gv w "PatternCode" = some (.ref 94) := nsFind_at (t := 356) (hh := PyData.keyHash w.params "PatternCode") 34 (gNd _) (by kernel_rfl)
theorem g_straightened (w : World) : gv w "straightened" = some (.ref 105) := nsFind_at (t := 366) (hh := PyData.keyHash w.params "straightened") 35 (gNd _) (by kernel_rfl)
theorem g_compile_pattern (w : World) : gv w "compile_pattern" = some (.ref 112) := nsFind_at (t := 374) (hh := PyData.keyHash w.params "compile_pattern") 36 (gNd _) (by kernel_rfl)
theorem g_SnobolError (w : World) : gv w "SnobolError" = some (.ref 132) := nsFind_at (t := 410) (hh := PyData.keyHash w.params "SnobolError") 37 (gNd _) (by kernel_rfl)
theorem g_Failure (w : World) : gv w "Failure" = some (.ref 145) := nsFind_at (t := 430) (hh := PyData.keyHash w.params "Failure") 38 (gNd _) (by kernel_rfl)
theorem g_Pattern (w : World) : gv w "Pattern" = some (.ref 166) := nsFind_at (t := 459) (hh := PyData.keyHash w.params "Pattern") 39 (gNd _) (by kernel_rfl)
theorem g_Delayed (w : World) : gv w "Delayed" = some (.ref 187) := nsFind_at (t := 488) (hh := PyData.keyHash w.params "Delayed") 40 (gNd _) (by kernel_rfl)
theorem g_NameRef (w : World) : gv w "NameRef" = some (.ref 208) := nsFind_at (t := 521) (hh := PyData.keyHash w.params "NameRef") 41 (gNd _) (by kernel_rfl)
theorem g_is_fail (w : World) : gv w "is_fail" = some (.ref 219) := nsFind_at (t := 528) (hh := PyData.keyHash w.params "is_fail") 42 (gNd _) (by kernel_rfl)
theorem g_fits (w : World) : gv w "fits" = some (.ref 226) := nsFind_at (t := 536) (hh := PyData.keyHash w.params "fits") 43 (gNd _) (by kernel_rfl)
theorem g_whole_of_text (w : World) : gv w "whole_of_text" = some (.ref 233) := nsFind_at (t := 547) (hh := PyData.keyHash w.params "whole_of_text") 44 (gNd _) (by kernel_rfl)
theorem g_text_of_whole (w : World) : gv w "text_of_whole" = some (.ref 240) := nsFind_at (t := 556) (hh := PyData.keyHash w.params "text_of_whole") 45 (gNd _) (by kernel_rfl)
theorem g_to_whole (w : World) : gv w "to_whole" = some (.ref 247) := nsFind_at (t := 564) (hh := PyData.keyHash w.params "to_whole") 46 (gNd _) (by kernel_rfl)
theorem g_to_text (w : World) : gv w "to_text" = some (.ref 254) := nsFind_at (t := 571) (hh := PyData.keyHash w.params "to_text") 47 (gNd _) (by kernel_rfl)
theorem g_need_text (w : World) : gv w "need_text" = some (.ref 261) := nsFind_at (t := 579) (hh := PyData.keyHash w.params "need_text") 48 (gNd _) (by kernel_rfl)
theorem g_COUNTED (w : World) : gv w "COUNTED" = some (.ref 262) := nsFind_at (t := 587) (hh := PyData.keyHash w.params "COUNTED") 49 (gNd _) (by kernel_rfl)
theorem g_SIGNED (w : World) : gv w "SIGNED" = some (.ref 263) := nsFind_at (t := 592) (hh := PyData.keyHash w.params "SIGNED") 50 (gNd _) (by kernel_rfl)
theorem g_WIDTH_OF_COUNT (w : World) : gv w "WIDTH_OF_COUNT" = some (.int 64 593) := nsFind_at (t := 594) (hh := PyData.keyHash w.params "WIDTH_OF_COUNT") 51 (gNd _) (by kernel_rfl)
theorem g_plain_count (w : World) : gv w "plain_count" = some (.ref 271) := nsFind_at (t := 604) (hh := PyData.keyHash w.params "plain_count") 52 (gNd _) (by kernel_rfl)
theorem g_plain_signs (w : World) : gv w "plain_signs" = some (.ref 278) := nsFind_at (t := 613) (hh := PyData.keyHash w.params "plain_signs") 53 (gNd _) (by kernel_rfl)
theorem g_pattern_of (w : World) : gv w "pattern_of" = some (.ref 285) := nsFind_at (t := 621) (hh := PyData.keyHash w.params "pattern_of") 54 (gNd _) (by kernel_rfl)
theorem g_is_delayed (w : World) : gv w "is_delayed" = some (.ref 292) := nsFind_at (t := 628) (hh := PyData.keyHash w.params "is_delayed") 55 (gNd _) (by kernel_rfl)
theorem g_settled (w : World) : gv w "settled" = some (.ref 299) := nsFind_at (t := 637) (hh := PyData.keyHash w.params "settled") 56 (gNd _) (by kernel_rfl)
theorem g_OPENING (w : World) : gv w "OPENING" = some (.str "(" 640) := nsFind_at (t := 641) (hh := PyData.keyHash w.params "OPENING") 57 (gNd _) (by kernel_rfl)
theorem g_CLOSING (w : World) : gv w "CLOSING" = some (.str ")" 642) := nsFind_at (t := 643) (hh := PyData.keyHash w.params "CLOSING") 58 (gNd _) (by kernel_rfl)
theorem g_chars_end (w : World) : gv w "chars_end" = some (.ref 306) := nsFind_at (t := 653) (hh := PyData.keyHash w.params "chars_end") 59 (gNd _) (by kernel_rfl)
theorem g_len_end (w : World) : gv w "len_end" = some (.ref 313) := nsFind_at (t := 662) (hh := PyData.keyHash w.params "len_end") 60 (gNd _) (by kernel_rfl)
theorem g_pos_end (w : World) : gv w "pos_end" = some (.ref 320) := nsFind_at (t := 670) (hh := PyData.keyHash w.params "pos_end") 61 (gNd _) (by kernel_rfl)
theorem g_rpos_end (w : World) : gv w "rpos_end" = some (.ref 327) := nsFind_at (t := 679) (hh := PyData.keyHash w.params "rpos_end") 62 (gNd _) (by kernel_rfl)
theorem g_tab_end (w : World) : gv w "tab_end" = some (.ref 334) := nsFind_at (t := 688) (hh := PyData.keyHash w.params "tab_end") 63 (gNd _) (by kernel_rfl)
theorem g_rtab_end (w : World) : gv w "rtab_end" = some (.ref 341) := nsFind_at (t := 698) (hh := PyData.keyHash w.params "rtab_end") 64 (gNd _) (by kernel_rfl)
theorem g_rem_end (w : World) : gv w "rem_end" = some (.ref 348) := nsFind_at (t := 705) (hh := PyData.keyHash w.params "rem_end") 65 (gNd _) (by kernel_rfl)
theorem g_any_at (w : World) : gv w "any_at" = some (.ref 355) := nsFind_at (t := 714) (hh := PyData.keyHash w.params "any_at") 66 (gNd _) (by kernel_rfl)
theorem g_notany_at (w : World) : gv w "notany_at" = some (.ref 362) := nsFind_at (t := 723) (hh := PyData.keyHash w.params "notany_at") 67 (gNd _) (by kernel_rfl)
theorem g_run_end (w : World) : gv w "run_end" = some (.ref 369) := nsFind_at (t := 733) (hh := PyData.keyHash w.params "run_end") 68 (gNd _) (by kernel_rfl)
theorem g_span_end (w : World) : gv w "span_end" = some (.ref 376) := nsFind_at (t := 743) (hh := PyData.keyHash w.params "span_end") 69 (gNd _) (by kernel_rfl)
theorem g_break_end (w : World) : gv w "break_end" = some (.ref 383) := nsFind_at (t := 753) (hh := PyData.keyHash w.params "break_end") 70 (gNd _) (by kernel_rfl)
theorem g_arb_ends (w : World) : gv w "arb_ends" = some (.ref 390) := nsFind_at (t := 761) (hh := PyData.keyHash w.params "arb_ends") 71 (gNd _) (by kernel_rfl)
theorem g_bal_end (w : World) : gv w "bal_end" = some (.ref 397) := nsFind_at (t := 770) (hh := PyData.keyHash w.params "bal_end") 72 (gNd _) (by kernel_rfl)
theorem g_bal_ends (w : World) : gv w "bal_ends" = some (.ref 404) := nsFind_at (t := 780) (hh := PyData.keyHash w.params "bal_ends") 73 (gNd _) (by kernel_rfl)
theorem g_one_end (w : World) : gv w "one_end" = some (.ref 411) := nsFind_at (t := 790) (hh := PyData.keyHash w.params "one_end") 74 (gNd _) (by kernel_rfl)
theorem g_plain_end (w : World) : gv w "plain_end" = some (.ref 418) := nsFind_at (t := 799) (hh := PyData.keyHash w.params "plain_end") 75 (gNd _) (by kernel_rfl)
theorem g_ends_of (w : World) : gv w "ends_of" = some (.ref 425) := nsFind_at (t := 810) (hh := PyData.keyHash w.params "ends_of") 76 (gNd _) (by kernel_rfl)
theorem g_MET (w : World) : gv w "MET" = some (.int 0 813) := nsFind_at (t := 814) (hh := PyData.keyHash w.params "MET") 77 (gNd _) (by kernel_rfl)
theorem g_FAILED (w : World) : gv w "FAILED" = some (.int 1 815) := nsFind_at (t := 816) (hh := PyData.keyHash w.params "FAILED") 78 (gNd _) (by kernel_rfl)
theorem g_OVER (w : World) : gv w "OVER" = some (.int 2 817) := nsFind_at (t := 818) (hh := PyData.keyHash w.params "OVER") 79 (gNd _) (by kernel_rfl)
theorem g_Way (w : World) : gv w "Way" = some (.ref 449) := nsFind_at (t := 865) (hh := PyData.keyHash w.params "Way") 80 (gNd _) (by kernel_rfl)
theorem g_Match (w : World) : gv w "Match" = some (.ref 526) := nsFind_at (t := 980) (hh := PyData.keyHash w.params "Match") 81 (gNd _) (by kernel_rfl)
theorem g_named_rows (w : World) : gv w "named_rows" = some (.ref 537) := nsFind_at (t := 989) (hh := PyData.keyHash w.params "named_rows") 82 (gNd _) (by kernel_rfl)
theorem g_match_orders (w : World) : gv w "match_orders" = some (.ref 544) := nsFind_at (t := 1002) (hh := PyData.keyHash w.params "match_orders") 83 (gNd _) (by kernel_rfl)
theorem g_match_compiled (w : World) : gv w "match_compiled" = some (.ref 551) := nsFind_at (t := 1012) (hh := PyData.keyHash w.params "match_compiled") 84 (gNd _) (by kernel_rfl)
theorem g_PlainHost (w : World) : gv w "PlainHost" = some (.ref 589) := nsFind_at (t := 1074) (hh := PyData.keyHash w.params "PlainHost") 85 (gNd _) (by kernel_rfl)
theorem g_LOST (w : World) : gv w "LOST" = some (.str "lost" 1077) := nsFind_at (t := 1078) (hh := PyData.keyHash w.params "LOST") 86 (gNd _) (by kernel_rfl)
theorem g_match_plain (w : World) : gv w "match_plain" = some (.ref 600) := nsFind_at (t := 1090) (hh := PyData.keyHash w.params "match_plain") 87 (gNd _) (by kernel_rfl)
theorem g_match_at (w : World) : gv w "match_at" = some (.ref 607) := nsFind_at (t := 1101) (hh := PyData.keyHash w.params "match_at") 88 (gNd _) (by kernel_rfl)
theorem g_tried (w : World) : gv w "tried" = some (.ref 614) := nsFind_at (t := 1116) (hh := PyData.keyHash w.params "tried") 89 (gNd _) (by kernel_rfl)
theorem g_advanced (w : World) : gv w "advanced" = some (.ref 621) := nsFind_at (t := 1132) (hh := PyData.keyHash w.params "advanced") 90 (gNd _) (by kernel_rfl)
theorem g_led_in (w : World) : gv w "led_in" = some (.ref 628) := nsFind_at (t := 1144) (hh := PyData.keyHash w.params "led_in") 91 (gNd _) (by kernel_rfl)
theorem g_led_out (w : World) : gv w "led_out" = some (.ref 635) := nsFind_at (t := 1160) (hh := PyData.keyHash w.params "led_out") 92 (gNd _) (by kernel_rfl)
theorem g_steered (w : World) : gv w "steered" = some (.ref 642) := nsFind_at (t := 1172) (hh := PyData.keyHash w.params "steered") 93 (gNd _) (by kernel_rfl)
theorem g_taken (w : World) : gv w "taken" = some (.ref 649) := nsFind_at (t := 1189) (hh := PyData.keyHash w.params "taken") 94 (gNd _) (by kernel_rfl)
theorem gu_law_take (w : World) : gv w "_law_take" = some (.ref 656) := nsFind_at (t := 1199) (hh := PyData.keyHash w.params "_law_take") 95 (gNd _) (by kernel_rfl)
theorem gu_law_leaf (w : World) : gv w "_law_leaf" = some (.ref 663) := nsFind_at (t := 1207) (hh := PyData.keyHash w.params "_law_leaf") 96 (gNd _) (by kernel_rfl)
theorem gu_law_drawn (w : World) : gv w "_law_drawn" = some (.ref 670) := nsFind_at (t := 1217) (hh := PyData.keyHash w.params "_law_drawn") 97 (gNd _) (by kernel_rfl)
theorem gu_law_node (w : World) : gv w "_law_node" = some (.ref 677) := nsFind_at (t := 1228) (hh := PyData.keyHash w.params "_law_node") 98 (gNd _) (by kernel_rfl)
theorem gu_law_is_even (w : World) : gv w "_law_is_even" = some (.ref 684) := nsFind_at (t := 1237) (hh := PyData.keyHash w.params "_law_is_even") 99 (gNd _) (by kernel_rfl)
theorem gu_law_leaf_ends (w : World) : gv w "_law_leaf_ends" = some (.ref 689) := nsFind_at (t := 1243) (hh := PyData.keyHash w.params "_law_leaf_ends") 100 (gNd _) (by kernel_rfl)
theorem gu_law_rounds (w : World) : gv w "_law_rounds" = some (.ref 696) := nsFind_at (t := 1254) (hh := PyData.keyHash w.params "_law_rounds") 101 (gNd _) (by kernel_rfl)
theorem gu_law_told (w : World) : gv w "_law_told" = some (.ref 701) := nsFind_at (t := 1260) (hh := PyData.keyHash w.params "_law_told") 102 (gNd _) (by kernel_rfl)
theorem g_law (w : World) : gv w "law" = some (.ref 706) := nsFind_at (t := 1266) (hh := PyData.keyHash w.params "law") 103 (gNd _) (by kernel_rfl)
theorem gn_len (w : World) : gv w "len" = none := by kernel_rfl
theorem gn_range (w : World) : gv w "range" = none := by kernel_rfl
theorem gn_list (w : World) : gv w "list" = none := by kernel_rfl
theorem gn_isinstance (w : World) : gv w "isinstance" = none := by kernel_rfl
theorem gn_str (w : World) : gv w "str" = none := by kernel_rfl
theorem gn_tuple (w : World) : gv w "tuple" = none := by kernel_rfl
theorem b_len : bootBuiltins "len" = some (.builtin "len") := by kernel_rfl
theorem b_range : bootBuiltins "range" = some (.type "range") := by kernel_rfl
theorem b_list : bootBuiltins "list" = some (.type "list") := by kernel_rfl
theorem b_str : bootBuiltins "str" = some (.type "str") := by kernel_rfl
theorem b_tuple : bootBuiltins "tuple" = some (.type "tuple") := by kernel_rfl
theorem b_isinstance : bootBuiltins "isinstance" = some (.builtin "isinstance") := by kernel_rfl
end
section
open PySem PySem.W PyProof.Rows PySem.Calls PySem.Spec
noncomputable def retOf : Flow → Value | .ret v => v | _ => .none
theorem retOf_eq (f : Flow) : (match f with | .ret v => v | _ => .none) = retOf f := by cases f <;> rfl
noncomputable def codeFields (o : Obj) : Array Value := match o.data with | .fields vs => vs | _ => #[]
section
variable {α β : Type} {w : World} {A : Around} {ns gs : List Str} {cl : List (Str × Addr)} {L : Addr} {B : Bm} {vs : Vs} {N : Nm} {env : Env}
theorem W_glob {x : Str} {pos : Pos} {v : Value} {Q : Value → Bm → Vs → Nm → Prop} (K : KB w B) (ev : Ev env ns gs cl L) (hx : x ∈ gs) (hv : gv w x = some v) (q : Q v B vs N)
  (hd : (x == ("__debug__" : Str)) = false := by decide) : W w A ns L (eval (.Name x pos) env) Q B vs N :=
 W_read (fun s F c k => Name_function_global ev.kind (ev.glo _ hx) (loadGlobal_global (by rw [ev.globals]; exact K.globs F.keep) hv k) hd) q
theorem W_blt {x : Str} {pos : Pos} {v : Value} {Q : Value → Bm → Vs → Nm → Prop} (K : KB w B) (ev : Ev env ns gs cl L) (hx : x ∈ gs) (hn : gv w x = none) (hv : bootBuiltins x = some v) (q : Q v B vs N)
  (hd : (x == ("__debug__" : Str)) = false := by decide) (hne : x ≠ "__name__" := by decide) : W w A ns L (eval (.Name x pos) env) Q B vs N :=
 W_read (fun s F c k => by
  obtain ⟨mb, p, r⟩ := K.blt
  exact Name_function_global ev.kind (ev.glo _ hx) (loadGlobal_builtin (by rw [ev.globals]; exact K.globs F.keep) hn (by rw [ev.builtins]; exact p _ F.keep) ((r x hne).trans hv) k) hd) q
theorem look_none (xs : List Str) (x : Str) : look xs (xs.map fun _ => none) x = none := by
 induction xs with
 | nil => rfl
 | cons y ys ih => rw [List.map_cons, look_cons, ih, ite_self]
theorem look_args (ps : List Str) (args : List Value) (ns : List Str) (nd : (ps ++ ns).Nodup) (h : ps.length = args.length) : look (ps ++ ns) (args.map some ++ ns.map fun _ => none) = fun y => (ps.zip args).lookup y := by
 induction ps generalizing args with
 | nil =>
  cases args with
  | nil => exact funext (look_none ns)
  | cons a r => cases h
 | cons p ps ih =>
  cases args with
  | nil => cases h
  | cons a args =>
   funext y
   rw [List.cons_append, List.map_cons, List.cons_append, look_cons, List.zip_cons_cons, List.lookup_cons, ih args (List.nodup_cons.mp nd).2 (Nat.succ.inj h)]
   cases e : y == p with
   | true => rw [eq_of_beq e, if_pos rfl]
   | false => rw [if_neg (beq_eq_false_iff_ne.mp e)]
theorem lookup_rev : ∀ (l : List (Str × Value)), (l.map (·.1)).Nodup → ∀ y, l.reverse.lookup y = l.lookup y
 | [], _, _ => rfl
 | (k, v) :: l, nd, y => by
  rw [List.map_cons, List.nodup_cons] at nd
  rw [List.reverse_cons, List.lookup_append, lookup_rev l nd.2, List.lookup_cons, List.lookup_cons]
  by_cases e : y = k
  ·subst e
   have : l.lookup y = none := by
    rw [List.lookup_eq_none_iff]
    intro p hp
    simp only [bne_iff_ne, ne_eq]
    intro q
    exact nd.1 (List.mem_map.mpr ⟨p, hp, by simpa using q.symm⟩)
   simp [this]
  ·have e' : (y == k) = false := by simpa using e
   simp [e']
theorem Rm.deeper {d : Nat} (r : Rm A (d + 1)) (env : Env) : Rm (A.deeper env) d := by
 unfold Rm at *
 exact ⟨by show A.depth + 1 + _ < _; lia, by show A.units + 3 + _ < _; lia, r.2.2⟩
theorem Rm.in1 {d : Nat} (r : Rm A (d + 1)) : Rm A.in1 d := by
 unfold Rm at *
 exact ⟨by show A.depth + _ < _; lia, by show A.units + 1 + _ < _; lia, r.2.2⟩
theorem Rm.le {d e : Nat} (r : Rm A d) (h : e ≤ d) : Rm A e := by
 unfold Rm at *
 exact ⟨by lia, by lia, r.2.2⟩
theorem Wc_def {f : Addr} {fo : Obj} {st : Stmt} {qual : Str} {pm : Value} {c : Addr} {co : Obj} {fvs : Array Value} {tk : Tok} {ps rest gs' : List Str} {args : List Value} {d : Nat} {Q : Value → Bm → Nm → Prop}
  (K : KB w B) (rm : Rm A (d + 1)) (ho : (H1 w.params).get? f = some fo) (hd : fo.data = .func (fd st qual .none pm (.ref c))) (hc : (H1 w.params).get? c = some co) (hcd : co.data = .fields fvs) (hcq : fvs[1]? = some (.str qual tk))
  (ok : okDef st ps (ps ++ rest) gs' = true) (hl : ps.length = args.length) (hb : bindArgs (fd st qual .none pm (.ref c)) ⟨args, []⟩ = pure (ps.zip args))
  (h : ∀ L env A', Ev env (ps ++ rest) gs' [] L → Rm A' d → A'.guards = A.guards → W w A' (ps ++ rest) L (execs (dBody st) env) (fun fl B' vs' N' => Q (retOf fl) B' N') B (args.map some ++ rest.map fun _ => none) N) :
  Wc w A (.call (.ref f) ⟨args, []⟩) Q B N := by
 refine .mk fun s F => ?_
 have okd : isDef st = true := by
  revert ok; unfold okDef; cases isDef st
  ·simp only [Bool.false_and]; exact fun z => nomatch z
  ·exact fun _ => rfl
 obtain ⟨name, a, body, ds, r, tps, sc, ts, bind, pos, rfl⟩ := isDef.is okd
 simp only [okDef, Bool.and_eq_true, decide_eq_true_eq, List.all_eq_true, Bool.not_eq_true', beq_iff_eq] at ok
 obtain ⟨⟨⟨⟨⟨⟨⟨⟨⟨⟨⟨⟨⟨⟨_, o1⟩, o2⟩, o3⟩, o4⟩, o5⟩, o6⟩, o7⟩, o8⟩, o9⟩, o10⟩, o11⟩, o12⟩, o13⟩, o14⟩ := ok
 have k1 : ∀ a o, (H1 w.params).get? a = some o → s.heap.get? a = some o := fun a o e => F.keep _ _ (K.own a o e)
 have hzip : (ps.zip args).map (·.1) = ps := by rw [List.map_fst_zip]; lia
 have ndp : ps.Nodup := (List.nodup_append.mp o4).1
 refine codeAny_call_def (fd := fd (.FunctionDef name a body ds r tps sc ts bind pos) qual .none pm (.ref c)) (body := body) (binds := ps.zip args) (by have := rm.1; lia) (k1 _ _ ho) hd (K.nolim F.keep) ⟨c, co, fvs, tk, rfl, k1 _ _ hc, hcd, hcq⟩ rfl (BindsTo.of_eq hb)
  (fun x hx e => by have := o8 x hx; rw [e] at this; simp at this) (fun x hx => ?_) (fun h₀ hns hk => ?_) o2 o3 o1
 ·have : x.1 ∈ ps := by rw [← hzip]; exact List.mem_map_of_mem hx
  exact o6 x.1 (List.mem_append_left _ this)
 ·refine wpAny_mono ((h s.heap.objs.size (callEnv (fd (.FunctionDef name a body ds r tps sc ts bind pos) qual .none pm (.ref c)) s.heap.objs.size f) (A.deeper (callEnv (fd (.FunctionDef name a body ds r tps sc ts bind pos) qual .none pm (.ref c)) s.heap.objs.size f)) ⟨o1, rfl, rfl, rfl, rfl, o4, fun x hx => o6 x hx, fun x hx => o7 x hx, fun x hx => (nomatch hx), .nil⟩ (rm.deeper _) rfl).run
   { s with heap := h₀, toks := s.toks + (ps.zip args).length } ?_ _ ?_) (fun _ _ z => z) (fun _ _ z => z.elim)
  ·have hne : ∀ a sl, Slot.holds w s.heap a sl → a ≠ s.heap.objs.size := fun a sl x e => by
    obtain ⟨o, ho⟩ := x.some
    exact absurd (Heap.lt_size ho) (by rw [e]; exact Nat.lt_irrefl _)
   have hkp : ∀ a sl, Slot.holds w s.heap a sl → Slot.holds w h₀ a sl := fun a sl x => x.keeps (by
    obtain ⟨o, ho⟩ := x.some
    rw [ho]; exact hk _ _ ho)
   refine ⟨?_, fun a o e => hkp _ _ (F.keep _ _ e), fun p hp => ⟨hkp _ _ (F.led p hp).1, (F.led p hp).2, hne _ _ (F.led p hp).1⟩, F.nd, ?_⟩
   ·rw [look_args ps args rest o4 hl]
    have : (fun x => (ps.zip args).reverse.lookup x) = fun y => (ps.zip args).lookup y := funext fun y => lookup_rev _ (by rw [hzip]; exact ndp) y
    rw [← this]; exact hns
   ·show B s.heap.objs.size = none
    cases e : B s.heap.objs.size with
    | none => rfl
    | some o => exact absurd rfl (hne _ _ (F.keep _ _ e))
  ·intro fl s' B' vs' N' F' X q
   refine ⟨_, B', N', congrArg (fun v => Except.ok (Flow.ret v)) (retOf_eq fl), ⟨F'.keep, fun p hp => ⟨(F'.led p hp).1, (F'.led p hp).2.1⟩, F'.nd⟩, ⟨fun a o ha hn _ => ?_, X.le, X.gens, X.drawn, X.os⟩, q⟩
   exact X.same a o (hk _ _ ha) hn (fun e => by cases e; exact absurd (Heap.lt_size ha) (Nat.lt_irrefl _))
theorem Wc_def2 {f : Addr} {fo : Obj} {st : Stmt} {qual : Str} {pm : Value} {c : Addr} {co : Obj} {fvs : Array Value} {tk : Tok} {ps rest gs' ns' : List Str} {vs0 : Vs} {args : List Value} {d : Nat} {Q : Value → Bm → Nm → Prop}
  (K : KB w B) (rm : Rm A (d + 1)) (ho : (H1 w.params).get? f = some fo) (hd : fo.data = .func (fd st qual .none pm (.ref c))) (hc : (H1 w.params).get? c = some co) (hcd : co.data = .fields fvs) (hcq : fvs[1]? = some (.str qual tk))
  (ok : okDef st ps (ps ++ rest) gs' = true) (hns : ps ++ rest = ns') (hl : ps.length = args.length) (hb : bindArgs (fd st qual .none pm (.ref c)) ⟨args, []⟩ = pure (ps.zip args)) (hvs : (args.map some ++ rest.map fun _ => none) = vs0)
  (h : ∀ L env A', Ev env ns' gs' [] L → Rm A' d → A'.guards = A.guards → W w A' ns' L (execs (dBody st) env) (fun fl B' vs' N' => Q (retOf fl) B' N') B vs0 N) :
  Wc w A (.call (.ref f) ⟨args, []⟩) Q B N := by
 subst hns hvs
 exact Wc_def K rm ho hd hc hcd hcq ok hl hb h
end
end
section
open PySem PySem.W PyProof.Rows PySem.Calls PySem.Spec
inductive Rd (B : Bm) (N : Nm) (a : Addr) (sl : Slot) : Prop
 | b : B a = some sl → Rd B N a sl
 | n : (a, sl) ∈ N → Rd B N a sl
section
variable {α β : Type} {w : World} {A : Around} {ns gs : List Str} {cl : List (Str × Addr)} {L : Addr} {B : Bm} {vs : Vs} {N : Nm} {env : Env}
theorem Rd.holds {a : Addr} {sl : Slot} {h : Heap} (r : Rd B N a sl) (F : Fm w ns L B vs N h) : sl.holds w h a := by
 cases r with
 | b e => exact F.keep _ _ e
 | n m => exact (F.led _ m).1
theorem isTup_of {h : Heap} {a : Addr} {xs : List Value} (x : (Slot.tup xs).holds w h a) : IsTup h a xs.toArray := let ⟨n, e⟩ := x; ⟨_, e, rfl, n, rfl⟩
theorem isList_of {h : Heap} {a : Addr} {xs : List Value} (x : (Slot.lst xs).holds w h a) : h.IsList a xs.toArray := let ⟨n, e⟩ := x; ⟨_, e, rfl, n, rfl⟩
theorem W_truthy {b : Bool} {Q : Bool → Bm → Vs → Nm → Prop} (q : Q b B vs N) : W w A ns L (truthy (.bool b)) Q B vs N := W_read (fun s F c k => wpAny_truthy_bool k) q
theorem W_tValue {e : Expr} {whole : Sem Value} {Q : Bool → Bm → Vs → Nm → Prop} (h : W w A ns L whole (fun v => W w A ns L (truthy v) Q) B vs N)
  (he : isTrue e env whole = (do let v ← whole; standAt e.pos; holding [v] (truthy v)) := by with_unfolding_all rfl) : W w A ns L (isTrue e env whole) Q B vs N :=
 .mk fun s F K c => wpAny_isTrue_value (h.run s F _ fun a s1 B1 vs1 N1 F1 X1 q1 => q1.run s1 F1 _ fun b s2 B2 vs2 N2 F2 X2 q2 => c _ s2 _ _ _ F2 (X1.trans X2) q2) he
theorem W_tNot {x : Expr} {pos : Pos} {whole : Sem Value} {Q : Bool → Bm → Vs → Nm → Prop} (h : W w A ns L (isTrue x env (eval x env)) (fun b => Q (!b)) B vs N) : W w A ns L (isTrue (.UnaryOp .Not x pos) env whole) Q B vs N :=
 .mk fun s F K c => wpAny_isTrue_Not (h.run s F _ fun a s1 B1 vs1 N1 F1 X1 q1 => c _ _ _ _ _ F1 X1 q1)
theorem W_tBool {op : BoolOp} {values : List Expr} {pos : Pos} {whole : Sem Value} {Q : Bool → Bm → Vs → Nm → Prop} (h : W w A ns L (allTrue op values env) Q B vs N) : W w A ns L (isTrue (.BoolOp op values pos) env whole) Q B vs N :=
 .mk fun s F K c => wpAny_isTrue_BoolOp (h.run s F K c)
theorem W_andNil {Q : Bool → Bm → Vs → Nm → Prop} (h : Q true B vs N) : W w A ns L (allTrue .And [] env) Q B vs N := .mk fun s F K c => wpAny_allTrue_And_nil (c _ _ _ _ _ F .refl h)
theorem W_orNil {Q : Bool → Bm → Vs → Nm → Prop} (h : Q false B vs N) : W w A ns L (allTrue .Or [] env) Q B vs N := .mk fun s F K c => wpAny_allTrue_Or_nil (c _ _ _ _ _ F .refl h)
theorem W_andCons {x : Expr} {rest : List Expr} {Q : Bool → Bm → Vs → Nm → Prop} (h : W w A ns L (isTrue x env (eval x env)) (fun b => Br b (W w A ns L (allTrue .And rest env) Q) (Q false)) B vs N) : W w A ns L (allTrue .And (x :: rest) env) Q B vs N :=
 .mk fun s F K c => wpAny_allTrue_And_cons (h.run s F _ fun b s1 B1 vs1 N1 F1 X1 q => by
  cases b
  ·exact c _ _ _ _ _ F1 X1 q
  ·exact q.run s1 F1 _ fun v s2 B2 vs2 N2 F2 X2 q => c v s2 _ _ _ F2 (X1.trans X2) q)
theorem W_orCons {x : Expr} {rest : List Expr} {Q : Bool → Bm → Vs → Nm → Prop} (h : W w A ns L (isTrue x env (eval x env)) (fun b => Br b (Q true) (W w A ns L (allTrue .Or rest env) Q)) B vs N) : W w A ns L (allTrue .Or (x :: rest) env) Q B vs N :=
 .mk fun s F K c => wpAny_allTrue_Or_cons (h.run s F _ fun b s1 B1 vs1 N1 F1 X1 q => by
  cases b
  ·exact q.run s1 F1 _ fun v s2 B2 vs2 N2 F2 X2 q => c v s2 _ _ _ F2 (X1.trans X2) q
  ·exact c _ _ _ _ _ F1 X1 q)
theorem W_And2 {x y : Expr} {pos : Pos} {Q : Value → Bm → Vs → Nm → Prop} (h : W w A ns L (eval x env) (fun v => W w A ns L (truthy v) (fun t => Br t (W w A ns L (eval y env) Q) (Q v))) B vs N) : W w A ns L (eval (.BoolOp .And [x, y] pos) env) Q B vs N :=
 .mk fun s F K c => wpAny_And2 (h.run s F _ fun v s1 B1 vs1 N1 F1 X1 q => q.run s1 F1 _ fun b s2 B2 vs2 N2 F2 X2 q => by
  cases b
  ·exact c _ _ _ _ _ F2 (X1.trans X2) q
  ·exact q.run s2 F2 _ fun v s3 B3 vs3 N3 F3 X3 q => c v s3 _ _ _ F3 (X1.trans (X2.trans X3)) q)
theorem W_Or2 {x y : Expr} {pos : Pos} {Q : Value → Bm → Vs → Nm → Prop} (h : W w A ns L (eval x env) (fun v => W w A ns L (truthy v) (fun t => Br t (Q v) (W w A ns L (eval y env) Q))) B vs N) : W w A ns L (eval (.BoolOp .Or [x, y] pos) env) Q B vs N :=
 .mk fun s F K c => wpAny_Or2 (h.run s F _ fun v s1 B1 vs1 N1 F1 X1 q => q.run s1 F1 _ fun b s2 B2 vs2 N2 F2 X2 q => by
  cases b
  ·exact q.run s2 F2 _ fun v s3 B3 vs3 N3 F3 X3 q => c v s3 _ _ _ F3 (X1.trans (X2.trans X3)) q
  ·exact c _ _ _ _ _ F2 (X1.trans X2) q)
theorem W_Unary {op : UnaryOp} {x : Expr} {pos : Pos} {Q : Value → Bm → Vs → Nm → Prop} (h : W w A ns L (eval x env) (fun v => W w A ns L (unaryOp op v) Q) B vs N) : W w A ns L (eval (.UnaryOp op x pos) env) Q B vs N :=
 .mk fun s F K c => wpAny_UnaryOp (h.run s F _ fun v s1 B1 vs1 N1 F1 X1 q => q.run s1 F1 _ fun b s2 B2 vs2 N2 F2 X2 q => c _ _ _ _ _ F2 (X1.trans X2) q)
theorem W_Not {v : Value} {Q : Value → Bm → Vs → Nm → Prop} (h : W w A ns L (truthy v) (fun b => Q (.bool (!b))) B vs N) : W w A ns L (unaryOp .Not v) Q B vs N :=
 .mk fun s F K c => not_of (h.run s F _ fun b s1 B1 vs1 N1 F1 X1 q => c _ _ _ _ _ F1 X1 q)
variable {a b : Int} {t u : Tok}
theorem W_add {Q : Value → Bm → Vs → Nm → Prop} (q : ∀ t, Q (.int (a + b) t) B vs N) : W w A ns L (binaryOp .Add (.int a t) (.int b u)) Q B vs N := W_readT (r := fun t => .int (a + b) t) (fun s F c k => add_int (k _ _)) q
theorem W_iadd {Q : Value → Bm → Vs → Nm → Prop} (q : ∀ t, Q (.int (a + b) t) B vs N) : W w A ns L (inplaceOp .Add (.int a t) (.int b u)) Q B vs N := W_readT (r := fun t => .int (a + b) t) (fun s F c k => iadd_int (k _ _)) q
theorem W_sub {Q : Value → Bm → Vs → Nm → Prop} (q : ∀ t, Q (.int (a - b) t) B vs N) : W w A ns L (binaryOp .Sub (.int a t) (.int b u)) Q B vs N := W_readT (r := fun t => .int (a - b) t) (fun s F c k => sub_int' (k _ _)) q
theorem W_isub {Q : Value → Bm → Vs → Nm → Prop} (q : ∀ t, Q (.int (a - b) t) B vs N) : W w A ns L (inplaceOp .Sub (.int a t) (.int b u)) Q B vs N := W_readT (r := fun t => .int (a - b) t) (fun s F c k => isub_int (k _ _)) q
theorem W_mul {Q : Value → Bm → Vs → Nm → Prop} (hm : IntMulOk a b) (q : ∀ t, Q (.int (a * b) t) B vs N) : W w A ns L (binaryOp .Mult (.int a t) (.int b u)) Q B vs N := W_readT (r := fun t => .int (a * b) t) (fun s F c k => mul_int (k _ _) hm) q
theorem W_fdiv {Q : Value → Bm → Vs → Nm → Prop} (hb : b ≠ 0) (hs : b.natAbs < 1073741824) (q : ∀ t, Q (.int (a.fdiv b) t) B vs N) : W w A ns L (binaryOp .FloorDiv (.int a t) (.int b u)) Q B vs N :=
 W_readT (r := fun t => .int (a.fdiv b) t) (fun s F c k => floordiv_int hb (k _ _) (.inl (PyProof.noPylong_small hs))) q
theorem W_mod {Q : Value → Bm → Vs → Nm → Prop} (hb : b ≠ 0) (q : ∀ t, Q (.int (a.fmod b) t) B vs N) : W w A ns L (binaryOp .Mod (.int a t) (.int b u)) Q B vs N := W_readT (r := fun t => .int (a.fmod b) t) (fun s F c k => mod_int' hb (k _ _)) q
theorem W_neg {Q : Value → Bm → Vs → Nm → Prop} (q : ∀ t, Q (.int (-a) t) B vs N) : W w A ns L (unaryOp .USub (.int a t)) Q B vs N := W_readT (r := fun t => .int (-a) t) (fun s F c k => PySem.P.neg_int (k _ _)) q
theorem W_eqI {Q : Value → Bm → Vs → Nm → Prop} (q : Q (.bool (decide (a = b))) B vs N) : W w A ns L (compareOp .Eq (.int a t) (.int b u)) Q B vs N := W_read (fun s F c k => eq_int (by rw [show (a == b) = decide (a = b) from rfl]; exact k)) q
theorem W_neI {Q : Value → Bm → Vs → Nm → Prop} (q : Q (.bool (decide (a ≠ b))) B vs N) : W w A ns L (compareOp .NotEq (.int a t) (.int b u)) Q B vs N := W_read (fun s F c k => ne_int (by rw [show (a != b) = decide (a ≠ b) from by by_cases h : a = b <;> simp [h]]; exact k)) q
theorem W_ltI {Q : Value → Bm → Vs → Nm → Prop} (q : Q (.bool (decide (a < b))) B vs N) : W w A ns L (compareOp .Lt (.int a t) (.int b u)) Q B vs N := W_read (fun s F c k => lt_int k) q
theorem W_leI {Q : Value → Bm → Vs → Nm → Prop} (q : Q (.bool (decide (a ≤ b))) B vs N) : W w A ns L (compareOp .LtE (.int a t) (.int b u)) Q B vs N := W_read (fun s F c k => le_int k) q
theorem W_gtI {Q : Value → Bm → Vs → Nm → Prop} (q : Q (.bool (decide (b < a))) B vs N) : W w A ns L (compareOp .Gt (.int a t) (.int b u)) Q B vs N := W_read (fun s F c k => gt_int k) q
variable {x y : Str}
theorem W_isNone {v : Value} {Q : Value → Bm → Vs → Nm → Prop} (q : Q (.bool (v == .none)) B vs N) : W w A ns L (compareOp .Is v .none) Q B vs N := W_read (fun s F c k => is_none_gen k) q
theorem W_isNotNone {v : Value} {Q : Value → Bm → Vs → Nm → Prop} (q : Q (.bool (!(v == .none))) B vs N) : W w A ns L (compareOp .IsNot v .none) Q B vs N := W_read (fun s F c k => isnot_none_gen k) q
theorem W_eqS {Q : Value → Bm → Vs → Nm → Prop} (q : Q (.bool (x == y)) B vs N) : W w A ns L (compareOp .Eq (.str x t) (.str y u)) Q B vs N := W_read (fun s F c k => eq_str k) q
theorem W_neS {Q : Value → Bm → Vs → Nm → Prop} (q : Q (.bool (x != y)) B vs N) : W w A ns L (compareOp .NotEq (.str x t) (.str y u)) Q B vs N := W_read (fun s F c k => ne_str k) q
theorem W_inTup {p : Addr} {xs : List Value} {ys : List Str} {Q : Value → Bm → Vs → Nm → Prop} (r : Rd B N p (.tup xs)) (hi : StrsAre xs ys) (q : Q (.bool (ys.any (· == x))) B vs N) : W w A ns L (compareOp .In (.str x t) (.ref p)) Q B vs N :=
 W_read (fun s F c k => in_tuple_strs (isTup_of (r.holds F)) hi k) q
theorem W_inLst {p : Addr} {xs : List Value} {ys : List Str} {Q : Value → Bm → Vs → Nm → Prop} (r : Rd B N p (.lst xs)) (hi : StrsAre xs ys) (q : Q (.bool (ys.any (· == x))) B vs N) : W w A ns L (compareOp .In (.str x t) (.ref p)) Q B vs N :=
 W_read (fun s F c k => in_list_strs (isList_of (r.holds F)) hi k) q
theorem W_Sub {value slice : Expr} {pos : Pos} {Q : Value → Bm → Vs → Nm → Prop} (h : W w A ns L (eval value env) (fun o => W w A ns L (eval slice env) (fun i => W w A ns L (subscriptTail value slice o i) Q)) B vs N) : W w A ns L (eval (.Subscript value slice pos) env) Q B vs N :=
 .mk fun s F K c => Subscript_ (h.run s F _ fun v s1 B1 vs1 N1 F1 X1 q => q.run s1 F1 _ fun b s2 B2 vs2 N2 F2 X2 q => q.run s2 F2 _ fun b s3 B3 vs3 N3 F3 X3 q => c _ _ _ _ _ F3 (X1.trans (X2.trans X3)) q)
theorem W_item_tup {value slice : Expr} {p : Addr} {xs : List Value} {k : Int} {u : Tok} {j : Nat} {v : Value} {Q : Value → Bm → Vs → Nm → Prop} (r : Rd B N p (.tup xs)) (hlo : -(2 ^ 63) ≤ k) (hhi : k < 2 ^ 63) (hj : seqIndex? k xs.length = some j) (hx : xs[j]? = some v) (q : Q v B vs N)
  (hs : subscripted slice false (.ref p) (.int k u) = operate [.ref p, .int k u] (getItem (.ref p) (.int k u)) := by with_unfolding_all rfl) : W w A ns L (subscriptTail value slice (.ref p) (.int k u)) Q B vs N :=
 W_read (fun s F c kk => item_tupleT (isTup_of (r.holds F)) hlo hhi hj hx kk hs) q
theorem W_item_lst {value slice : Expr} {p : Addr} {xs : List Value} {k : Int} {u : Tok} {v : Value} {Q : Value → Bm → Vs → Nm → Prop} (r : Rd B N p (.lst xs)) (hlo : 0 ≤ k) (hhi : k < 2 ^ 63) (hx : xs[k.toNat]? = some v) (q : Q v B vs N)
  (hs : subscripted slice false (.ref p) (.int k u) = operate [.ref p, .int k u] (getItem (.ref p) (.int k u)) := by with_unfolding_all rfl) : W w A ns L (subscriptTail value slice (.ref p) (.int k u)) Q B vs N :=
 W_read (fun s F c kk => tail_any (isList_of (r.holds F)).typeIs slot_list_getitem.lookup (wpAny_getItem_list (isList_of (r.holds F)) hlo hhi (by simpa using hx) kk) hs) q
theorem W_item_str {value slice : Expr} {k : Int} {u : Tok} {ch : Nat} {Q : Value → Bm → Vs → Nm → Prop} (hlo : 0 ≤ k) (hhi : k < 2 ^ 63) (hc : x.cps[k.toNat]? = some ch) (q : ∀ t, Q (.str ⟨#[ch]⟩ t) B vs N)
  (hs : subscripted slice false (.str x t) (.int k u) = operate [.str x t, .int k u] (getItem (.str x t) (.int k u)) := by with_unfolding_all rfl) : W w A ns L (subscriptTail value slice (.str x t) (.int k u)) Q B vs N :=
 W_readT (r := fun t => .str ⟨#[ch]⟩ t) (fun s F c kk => tail_any (typeIs_str s x t) slot_str_getitem.lookup (PySem.P.getItem_str (by simp; lia) (by
  have hl : k.toNat < x.length := (Array.getElem?_eq_some_iff.mp hc).1
  have : seqIndex? k x.length = some k.toNat := by
   unfold seqIndex?
   rw [if_neg (show ¬ k < 0 by lia), if_pos (by simp; lia)]
  rw [this]; exact hc) (kk _ _)) hs) q
end
end
section
open PySem PySem.W PyProof.Rows PySem.Calls PySem.Spec
section
variable {w : World} {A : Around} {B : Bm} {N : Nm} {d : Nat} {Q : Value → Bm → Nm → Prop}
theorem hf_row_of (P : Params) : (H1 P).get? 23 = some (o23 P) := by kernel_rfl
theorem hd_row_of (P : Params) : (o23 P).data = .func (fd (st 23) "row_of" .none (.str "snobol.compile_pattern" 187) (.ref 22)) := by kernel_rfl
theorem c_row_of {x0 x1 : Value} (K : KB w B) (rm : Rm A (d + 1))
  (h : ∀ L env A', Ev env (["node", "kind", "found", "waiting", "part"] : List Str) (["len"] : List Str) [] L → Rm A' d → A'.guards = A.guards → W w A' (["node", "kind", "found", "waiting", "part"] : List Str) L (execs (dBody (st 23)) env) (fun fl B' vs' N' => Q (retOf fl) B' N') B [some x0, some x1, none, none, none] N) :
  Wc w A (.call (.ref 23) ⟨[x0, x1], []⟩) Q B N :=
 Wc_def2 (fo := o23 w.params) (co := o22 w.params) (fvs := codeFields (o22 w.params)) (qual := "row_of") (pm := .str "snobol.compile_pattern" 187) (c := 22) (ps := ["node", "kind"]) (rest := ["found", "waiting", "part"]) (tk := 247) K rm (hf_row_of _) (hd_row_of _) (by kernel_rfl) (by kernel_rfl) (by kernel_rfl) (by decide +kernel) (by kernel_rfl) (by kernel_rfl) (by kernel_rfl) (by kernel_rfl) h
theorem hf_is_plain_text (P : Params) : (H1 P).get? 30 = some (o30 P) := by kernel_rfl
theorem hd_is_plain_text (P : Params) : (o30 P).data = .func (fd (st 24) "is_plain_text" .none (.str "snobol.compile_pattern" 187) (.ref 29)) := by kernel_rfl
theorem c_is_plain_text {x0 : Value} (K : KB w B) (rm : Rm A (d + 1))
  (h : ∀ L env A', Ev env (["node"] : List Str) (["isinstance", "str"] : List Str) [] L → Rm A' d → A'.guards = A.guards → W w A' (["node"] : List Str) L (execs (dBody (st 24)) env) (fun fl B' vs' N' => Q (retOf fl) B' N') B [some x0] N) :
  Wc w A (.call (.ref 30) ⟨[x0], []⟩) Q B N :=
 Wc_def2 (fo := o30 w.params) (co := o29 w.params) (fvs := codeFields (o29 w.params)) (qual := "is_plain_text") (pm := .str "snobol.compile_pattern" 187) (c := 29) (ps := ["node"]) (rest := []) (tk := 258) K rm (hf_is_plain_text _) (hd_is_plain_text _) (by kernel_rfl) (by kernel_rfl) (by kernel_rfl) (by decide +kernel) (by kernel_rfl) (by kernel_rfl) (by kernel_rfl) (by kernel_rfl) h
theorem hf_with_texts_joined (P : Params) : (H1 P).get? 37 = some (o37 P) := by kernel_rfl
theorem hd_with_texts_joined (P : Params) : (o37 P).data = .func (fd (st 25) "with_texts_joined" .none (.str "snobol.compile_pattern" 187) (.ref 36)) := by kernel_rfl
theorem c_with_texts_joined {x0 : Value} (K : KB w B) (rm : Rm A (d + 1))
  (h : ∀ L env A', Ev env (["parts", "found", "part"] : List Str) (["is_plain_text", "len"] : List Str) [] L → Rm A' d → A'.guards = A.guards → W w A' (["parts", "found", "part"] : List Str) L (execs (dBody (st 25)) env) (fun fl B' vs' N' => Q (retOf fl) B' N') B [some x0, none, none] N) :
  Wc w A (.call (.ref 37) ⟨[x0], []⟩) Q B N :=
 Wc_def2 (fo := o37 w.params) (co := o36 w.params) (fvs := codeFields (o36 w.params)) (qual := "with_texts_joined") (pm := .str "snobol.compile_pattern" 187) (c := 36) (ps := ["parts"]) (rest := ["found", "part"]) (tk := 265) K rm (hf_with_texts_joined _) (hd_with_texts_joined _) (by kernel_rfl) (by kernel_rfl) (by kernel_rfl) (by decide +kernel) (by kernel_rfl) (by kernel_rfl) (by kernel_rfl) (by kernel_rfl) h
theorem hf_PatternCode_init (P : Params) : (H1 P).get? 51 = some (o51 P) := by kernel_rfl
theorem hd_PatternCode_init (P : Params) : (o51 P).data = .func (fd (mt 26 0) "PatternCode.__init__" .none (.str "snobol.compile_pattern" 187) (.ref 50)) := by kernel_rfl
theorem c_PatternCode_init {x0 : Value} (K : KB w B) (rm : Rm A (d + 1))
  (h : ∀ L env A', Ev env (["self"] : List Str) ([] : List Str) [] L → Rm A' d → A'.guards = A.guards → W w A' (["self"] : List Str) L (execs (dBody (mt 26 0)) env) (fun fl B' vs' N' => Q (retOf fl) B' N') B [some x0] N) :
  Wc w A (.call (.ref 51) ⟨[x0], []⟩) Q B N :=
 Wc_def2 (fo := o51 w.params) (co := o50 w.params) (fvs := codeFields (o50 w.params)) (qual := "PatternCode.__init__") (pm := .str "snobol.compile_pattern" 187) (c := 50) (ps := ["self"]) (rest := []) (tk := 286) K rm (hf_PatternCode_init _) (hd_PatternCode_init _) (by kernel_rfl) (by kernel_rfl) (by kernel_rfl) (by decide +kernel) (by kernel_rfl) (by kernel_rfl) (by kernel_rfl) (by kernel_rfl) h
theorem hf_PatternCode_emit (P : Params) : (H1 P).get? 58 = some (o58 P) := by kernel_rfl
theorem hd_PatternCode_emit (P : Params) : (o58 P).data = .func (fd (mt 26 1) "PatternCode.emit" .none (.str "snobol.compile_pattern" 187) (.ref 57)) := by kernel_rfl
theorem c_PatternCode_emit {x0 x1 : Value} (K : KB w B) (rm : Rm A (d + 1))
  (h : ∀ L env A', Ev env (["self", "order"] : List Str) (["len"] : List Str) [] L → Rm A' d → A'.guards = A.guards → W w A' (["self", "order"] : List Str) L (execs (dBody (mt 26 1)) env) (fun fl B' vs' N' => Q (retOf fl) B' N') B [some x0, some x1] N) :
  Wc w A (.call (.ref 58) ⟨[x0, x1], []⟩) Q B N :=
 Wc_def2 (fo := o58 w.params) (co := o57 w.params) (fvs := codeFields (o57 w.params)) (qual := "PatternCode.emit") (pm := .str "snobol.compile_pattern" 187) (c := 57) (ps := ["self", "order"]) (rest := []) (tk := 293) K rm (hf_PatternCode_emit _) (hd_PatternCode_emit _) (by kernel_rfl) (by kernel_rfl) (by kernel_rfl) (by decide +kernel) (by kernel_rfl) (by kernel_rfl) (by kernel_rfl) (by kernel_rfl) h
theorem hf_PatternCode_put (P : Params) : (H1 P).get? 65 = some (o65 P) := by kernel_rfl
theorem hd_PatternCode_put (P : Params) : (o65 P).data = .func (fd (mt 26 2) "PatternCode.put" .none (.str "snobol.compile_pattern" 187) (.ref 64)) := by kernel_rfl
theorem c_PatternCode_put {x0 x1 : Value} (K : KB w B) (rm : Rm A (d + 1))
  (h : ∀ L env A', Ev env (["self", "node", "waiting", "word", "told"] : List Str) (["PUT", "len", "EMIT"] : List Str) [] L → Rm A' d → A'.guards = A.guards → W w A' (["self", "node", "waiting", "word", "told"] : List Str) L (execs (dBody (mt 26 2)) env) (fun fl B' vs' N' => Q (retOf fl) B' N') B [some x0, some x1, none, none, none] N) :
  Wc w A (.call (.ref 65) ⟨[x0, x1], []⟩) Q B N :=
 Wc_def2 (fo := o65 w.params) (co := o64 w.params) (fvs := codeFields (o64 w.params)) (qual := "PatternCode.put") (pm := .str "snobol.compile_pattern" 187) (c := 64) (ps := ["self", "node"]) (rest := ["waiting", "word", "told"]) (tk := 301) K rm (hf_PatternCode_put _) (hd_PatternCode_put _) (by kernel_rfl) (by kernel_rfl) (by kernel_rfl) (by decide +kernel) (by kernel_rfl) (by kernel_rfl) (by kernel_rfl) (by kernel_rfl) h
theorem hf_PatternCode_begun (P : Params) : (H1 P).get? 70 = some (o70 P) := by kernel_rfl
theorem hd_PatternCode_begun (P : Params) : (o70 P).data = .func (fd (mt 26 3) "PatternCode.begun" .none (.str "snobol.compile_pattern" 187) (.ref 69)) := by kernel_rfl
theorem c_PatternCode_begun {x0 x1 : Value} (K : KB w B) (rm : Rm A (d + 1))
  (h : ∀ L env A', Ev env (["self", "node", "kind"] : List Str) (["with_texts_joined", "row_of", "PUT", "MARK", "EMIT", "NAME", "SET", "SINGLE", "ONE", "len", "WAYS", "ALONE", "PLACE", "ASK"] : List Str) [] L → Rm A' d → A'.guards = A.guards → W w A' (["self", "node", "kind"] : List Str) L (execs (dBody (mt 26 3)) env) (fun fl B' vs' N' => Q (retOf fl) B' N') B [some x0, some x1, none] N) :
  Wc w A (.call (.ref 70) ⟨[x0, x1], []⟩) Q B N :=
 Wc_def2 (fo := o70 w.params) (co := o69 w.params) (fvs := codeFields (o69 w.params)) (qual := "PatternCode.begun") (pm := .str "snobol.compile_pattern" 187) (c := 69) (ps := ["self", "node"]) (rest := ["kind"]) (tk := 312) K rm (hf_PatternCode_begun _) (hd_PatternCode_begun _) (by kernel_rfl) (by kernel_rfl) (by kernel_rfl) (by decide +kernel) (by kernel_rfl) (by kernel_rfl) (by kernel_rfl) (by kernel_rfl) h
theorem hf_PatternCode_choice (P : Params) : (H1 P).get? 77 = some (o77 P) := by kernel_rfl
theorem hd_PatternCode_choice (P : Params) : (o77 P).data = .func (fd (mt 26 4) "PatternCode.choice" .none (.str "snobol.compile_pattern" 187) (.ref 76)) := by kernel_rfl
theorem c_PatternCode_choice {x0 x1 : Value} (K : KB w B) (rm : Rm A (d + 1))
  (h : ∀ L env A', Ev env (["self", "parts", "found", "ends", "part"] : List Str) (["len", "OPEN", "PUT", "SHUT", "MEET"] : List Str) [] L → Rm A' d → A'.guards = A.guards → W w A' (["self", "parts", "found", "ends", "part"] : List Str) L (execs (dBody (mt 26 4)) env) (fun fl B' vs' N' => Q (retOf fl) B' N') B [some x0, some x1, none, none, none] N) :
  Wc w A (.call (.ref 77) ⟨[x0, x1], []⟩) Q B N :=
 Wc_def2 (fo := o77 w.params) (co := o76 w.params) (fvs := codeFields (o76 w.params)) (qual := "PatternCode.choice") (pm := .str "snobol.compile_pattern" 187) (c := 76) (ps := ["self", "parts"]) (rest := ["found", "ends", "part"]) (tk := 318) K rm (hf_PatternCode_choice _) (hd_PatternCode_choice _) (by kernel_rfl) (by kernel_rfl) (by kernel_rfl) (by decide +kernel) (by kernel_rfl) (by kernel_rfl) (by kernel_rfl) (by kernel_rfl) h
theorem hf_PatternCode_repeat (P : Params) : (H1 P).get? 84 = some (o84 P) := by kernel_rfl
theorem hd_PatternCode_repeat (P : Params) : (o84 P).data = .func (fd (mt 26 5) "PatternCode.repeat" .none (.str "snobol.compile_pattern" 187) (.ref 83)) := by kernel_rfl
theorem c_PatternCode_repeat {x0 x1 : Value} (K : KB w B) (rm : Rm A (d + 1))
  (h : ∀ L env A', Ev env (["self", "node", "split", "leave"] : List Str) (["SPLIT", "len", "MARK", "PUT", "EMIT", "GAIN", "JUMP", "MEET"] : List Str) [] L → Rm A' d → A'.guards = A.guards → W w A' (["self", "node", "split", "leave"] : List Str) L (execs (dBody (mt 26 5)) env) (fun fl B' vs' N' => Q (retOf fl) B' N') B [some x0, some x1, none, none] N) :
  Wc w A (.call (.ref 84) ⟨[x0, x1], []⟩) Q B N :=
 Wc_def2 (fo := o84 w.params) (co := o83 w.params) (fvs := codeFields (o83 w.params)) (qual := "PatternCode.repeat") (pm := .str "snobol.compile_pattern" 187) (c := 83) (ps := ["self", "node"]) (rest := ["split", "leave"]) (tk := 329) K rm (hf_PatternCode_repeat _) (hd_PatternCode_repeat _) (by kernel_rfl) (by kernel_rfl) (by kernel_rfl) (by decide +kernel) (by kernel_rfl) (by kernel_rfl) (by kernel_rfl) (by kernel_rfl) h
theorem hf_PatternCode_bound (P : Params) : (H1 P).get? 91 = some (o91 P) := by kernel_rfl
theorem hd_PatternCode_bound (P : Params) : (o91 P).data = .func (fd (mt 26 6) "PatternCode.bound" .none (.str "snobol.compile_pattern" 187) (.ref 90)) := by kernel_rfl
theorem c_PatternCode_bound {x0 x1 x2 : Value} (K : KB w B) (rm : Rm A (d + 1))
  (h : ∀ L env A', Ev env (["self", "word", "ends", "at"] : List Str) (["OPEN", "SHUT", "SPLIT", "len", "JUMP"] : List Str) [] L → Rm A' d → A'.guards = A.guards → W w A' (["self", "word", "ends", "at"] : List Str) L (execs (dBody (mt 26 6)) env) (fun fl B' vs' N' => Q (retOf fl) B' N') B [some x0, some x1, some x2, none] N) :
  Wc w A (.call (.ref 91) ⟨[x0, x1, x2], []⟩) Q B N :=
 Wc_def2 (fo := o91 w.params) (co := o90 w.params) (fvs := codeFields (o90 w.params)) (qual := "PatternCode.bound") (pm := .str "snobol.compile_pattern" 187) (c := 90) (ps := ["self", "word", "ends"]) (rest := ["at"]) (tk := 339) K rm (hf_PatternCode_bound _) (hd_PatternCode_bound _) (by kernel_rfl) (by kernel_rfl) (by kernel_rfl) (by decide +kernel) (by kernel_rfl) (by kernel_rfl) (by kernel_rfl) (by kernel_rfl) h
theorem hf_straightened (P : Params) : (H1 P).get? 105 = some (o105 P) := by kernel_rfl
theorem hd_straightened (P : Params) : (o105 P).data = .func (fd (st 27) "straightened" .none (.str "snobol.compile_pattern" 187) (.ref 104)) := by kernel_rfl
theorem c_straightened {x0 : Value} (K : KB w B) (rm : Rm A (d + 1))
  (h : ∀ L env A', Ev env (["orders", "found", "order", "goal"] : List Str) (["JUMP", "SPLIT"] : List Str) [] L → Rm A' d → A'.guards = A.guards → W w A' (["orders", "found", "order", "goal"] : List Str) L (execs (dBody (st 27)) env) (fun fl B' vs' N' => Q (retOf fl) B' N') B [some x0, none, none, none] N) :
  Wc w A (.call (.ref 105) ⟨[x0], []⟩) Q B N :=
 Wc_def2 (fo := o105 w.params) (co := o104 w.params) (fvs := codeFields (o104 w.params)) (qual := "straightened") (pm := .str "snobol.compile_pattern" 187) (c := 104) (ps := ["orders"]) (rest := ["found", "order", "goal"]) (tk := 358) K rm (hf_straightened _) (hd_straightened _) (by kernel_rfl) (by kernel_rfl) (by kernel_rfl) (by decide +kernel) (by kernel_rfl) (by kernel_rfl) (by kernel_rfl) (by kernel_rfl) h
theorem hf_compile_pattern (P : Params) : (H1 P).get? 112 = some (o112 P) := by kernel_rfl
theorem hd_compile_pattern (P : Params) : (o112 P).data = .func (fd (st 28) "compile_pattern" .none (.str "snobol.compile_pattern" 187) (.ref 111)) := by kernel_rfl
theorem c_compile_pattern {x0 : Value} (K : KB w B) (rm : Rm A (d + 1))
  (h : ∀ L env A', Ev env (["node", "code"] : List Str) (["PatternCode", "DONE", "straightened"] : List Str) [] L → Rm A' d → A'.guards = A.guards → W w A' (["node", "code"] : List Str) L (execs (dBody (st 28)) env) (fun fl B' vs' N' => Q (retOf fl) B' N') B [some x0, none] N) :
  Wc w A (.call (.ref 112) ⟨[x0], []⟩) Q B N :=
 Wc_def2 (fo := o112 w.params) (co := o111 w.params) (fvs := codeFields (o111 w.params)) (qual := "compile_pattern") (pm := .str "snobol.compile_pattern" 187) (c := 111) (ps := ["node"]) (rest := ["code"]) (tk := 368) K rm (hf_compile_pattern _) (hd_compile_pattern _) (by kernel_rfl) (by kernel_rfl) (by kernel_rfl) (by decide +kernel) (by kernel_rfl) (by kernel_rfl) (by kernel_rfl) (by kernel_rfl) h
theorem hf_NameRef_init (P : Params) : (H1 P).get? 205 = some (o205 P) := by kernel_rfl
theorem hd_NameRef_init (P : Params) : (o205 P).data = .func (fd (mt 34 0) "NameRef.__init__" .none (.str "snobol.values" 375) (.ref 204)) := by kernel_rfl
theorem c_NameRef_init {x0 x1 x2 x3 : Value} (K : KB w B) (rm : Rm A (d + 1))
  (h : ∀ L env A', Ev env (["self", "kind", "owner", "key"] : List Str) ([] : List Str) [] L → Rm A' d → A'.guards = A.guards → W w A' (["self", "kind", "owner", "key"] : List Str) L (execs (dBody (mt 34 0)) env) (fun fl B' vs' N' => Q (retOf fl) B' N') B [some x0, some x1, some x2, some x3] N) :
  Wc w A (.call (.ref 205) ⟨[x0, x1, x2, x3], []⟩) Q B N :=
 Wc_def2 (fo := o205 w.params) (co := o204 w.params) (fvs := codeFields (o204 w.params)) (qual := "NameRef.__init__") (pm := .str "snobol.values" 375) (c := 204) (ps := ["self", "kind", "owner", "key"]) (rest := []) (tk := 502) K rm (hf_NameRef_init _) (hd_NameRef_init _) (by kernel_rfl) (by kernel_rfl) (by kernel_rfl) (by decide +kernel) (by kernel_rfl) (by kernel_rfl) (by kernel_rfl) (by kernel_rfl) h
theorem hf_is_delayed (P : Params) : (H1 P).get? 292 = some (o292 P) := by kernel_rfl
theorem hd_is_delayed (P : Params) : (o292 P).data = .func (fd (st 49) "is_delayed" .none (.str "snobol.nodes" 580) (.ref 291)) := by kernel_rfl
theorem c_is_delayed {x0 : Value} (K : KB w B) (rm : Rm A (d + 1))
  (h : ∀ L env A', Ev env (["told"] : List Str) (["isinstance", "tuple"] : List Str) [] L → Rm A' d → A'.guards = A.guards → W w A' (["told"] : List Str) L (execs (dBody (st 49)) env) (fun fl B' vs' N' => Q (retOf fl) B' N') B [some x0] N) :
  Wc w A (.call (.ref 292) ⟨[x0], []⟩) Q B N :=
 Wc_def2 (fo := o292 w.params) (co := o291 w.params) (fvs := codeFields (o291 w.params)) (qual := "is_delayed") (pm := .str "snobol.nodes" 580) (c := 291) (ps := ["told"]) (rest := []) (tk := 623) K rm (hf_is_delayed _) (hd_is_delayed _) (by kernel_rfl) (by kernel_rfl) (by kernel_rfl) (by decide +kernel) (by kernel_rfl) (by kernel_rfl) (by kernel_rfl) (by kernel_rfl) h
theorem hf_settled (P : Params) : (H1 P).get? 299 = some (o299 P) := by kernel_rfl
theorem hd_settled (P : Params) : (o299 P).data = .func (fd (st 50) "settled" .none (.str "snobol.nodes" 580) (.ref 298)) := by kernel_rfl
theorem c_settled {x0 x1 : Value} (K : KB w B) (rm : Rm A (d + 1))
  (h : ∀ L env A', Ev env (["node", "host", "value"] : List Str) (["COUNTED", "SIGNED", "is_delayed", "is_fail", "plain_count", "plain_signs"] : List Str) [] L → Rm A' d → A'.guards = A.guards → W w A' (["node", "host", "value"] : List Str) L (execs (dBody (st 50)) env) (fun fl B' vs' N' => Q (retOf fl) B' N') B [some x0, some x1, none] N) :
  Wc w A (.call (.ref 299) ⟨[x0, x1], []⟩) Q B N :=
 Wc_def2 (fo := o299 w.params) (co := o298 w.params) (fvs := codeFields (o298 w.params)) (qual := "settled") (pm := .str "snobol.nodes" 580) (c := 298) (ps := ["node", "host"]) (rest := ["value"]) (tk := 630) K rm (hf_settled _) (hd_settled _) (by kernel_rfl) (by kernel_rfl) (by kernel_rfl) (by decide +kernel) (by kernel_rfl) (by kernel_rfl) (by kernel_rfl) (by kernel_rfl) h
theorem hf_chars_end (P : Params) : (H1 P).get? 306 = some (o306 P) := by kernel_rfl
theorem hd_chars_end (P : Params) : (o306 P).data = .func (fd (st 54) "chars_end" .none (.str "snobol.primitives" 638) (.ref 305)) := by kernel_rfl
theorem c_chars_end {x0 x1 x2 : Value} (K : KB w B) (rm : Rm A (d + 1))
  (h : ∀ L env A', Ev env (["subject", "at", "text", "end"] : List Str) (["len"] : List Str) [] L → Rm A' d → A'.guards = A.guards → W w A' (["subject", "at", "text", "end"] : List Str) L (execs (dBody (st 54)) env) (fun fl B' vs' N' => Q (retOf fl) B' N') B [some x0, some x1, some x2, none] N) :
  Wc w A (.call (.ref 306) ⟨[x0, x1, x2], []⟩) Q B N :=
 Wc_def2 (fo := o306 w.params) (co := o305 w.params) (fvs := codeFields (o305 w.params)) (qual := "chars_end") (pm := .str "snobol.primitives" 638) (c := 305) (ps := ["subject", "at", "text"]) (rest := ["end"]) (tk := 645) K rm (hf_chars_end _) (hd_chars_end _) (by kernel_rfl) (by kernel_rfl) (by kernel_rfl) (by decide +kernel) (by kernel_rfl) (by kernel_rfl) (by kernel_rfl) (by kernel_rfl) h
theorem hf_len_end (P : Params) : (H1 P).get? 313 = some (o313 P) := by kernel_rfl
theorem hd_len_end (P : Params) : (o313 P).data = .func (fd (st 55) "len_end" .none (.str "snobol.primitives" 638) (.ref 312)) := by kernel_rfl
theorem c_len_end {x0 x1 x2 : Value} (K : KB w B) (rm : Rm A (d + 1))
  (h : ∀ L env A', Ev env (["subject", "at", "many"] : List Str) (["len"] : List Str) [] L → Rm A' d → A'.guards = A.guards → W w A' (["subject", "at", "many"] : List Str) L (execs (dBody (st 55)) env) (fun fl B' vs' N' => Q (retOf fl) B' N') B [some x0, some x1, some x2] N) :
  Wc w A (.call (.ref 313) ⟨[x0, x1, x2], []⟩) Q B N :=
 Wc_def2 (fo := o313 w.params) (co := o312 w.params) (fvs := codeFields (o312 w.params)) (qual := "len_end") (pm := .str "snobol.primitives" 638) (c := 312) (ps := ["subject", "at", "many"]) (rest := []) (tk := 655) K rm (hf_len_end _) (hd_len_end _) (by kernel_rfl) (by kernel_rfl) (by kernel_rfl) (by decide +kernel) (by kernel_rfl) (by kernel_rfl) (by kernel_rfl) (by kernel_rfl) h
theorem hf_pos_end (P : Params) : (H1 P).get? 320 = some (o320 P) := by kernel_rfl
theorem hd_pos_end (P : Params) : (o320 P).data = .func (fd (st 56) "pos_end" .none (.str "snobol.primitives" 638) (.ref 319)) := by kernel_rfl
theorem c_pos_end {x0 x1 : Value} (K : KB w B) (rm : Rm A (d + 1))
  (h : ∀ L env A', Ev env (["at", "place"] : List Str) ([] : List Str) [] L → Rm A' d → A'.guards = A.guards → W w A' (["at", "place"] : List Str) L (execs (dBody (st 56)) env) (fun fl B' vs' N' => Q (retOf fl) B' N') B [some x0, some x1] N) :
  Wc w A (.call (.ref 320) ⟨[x0, x1], []⟩) Q B N :=
 Wc_def2 (fo := o320 w.params) (co := o319 w.params) (fvs := codeFields (o319 w.params)) (qual := "pos_end") (pm := .str "snobol.primitives" 638) (c := 319) (ps := ["at", "place"]) (rest := []) (tk := 664) K rm (hf_pos_end _) (hd_pos_end _) (by kernel_rfl) (by kernel_rfl) (by kernel_rfl) (by decide +kernel) (by kernel_rfl) (by kernel_rfl) (by kernel_rfl) (by kernel_rfl) h
theorem hf_tab_end (P : Params) : (H1 P).get? 334 = some (o334 P) := by kernel_rfl
theorem hd_tab_end (P : Params) : (o334 P).data = .func (fd (st 58) "tab_end" .none (.str "snobol.primitives" 638) (.ref 333)) := by kernel_rfl
theorem c_tab_end {x0 x1 x2 : Value} (K : KB w B) (rm : Rm A (d + 1))
  (h : ∀ L env A', Ev env (["subject", "at", "place"] : List Str) (["len"] : List Str) [] L → Rm A' d → A'.guards = A.guards → W w A' (["subject", "at", "place"] : List Str) L (execs (dBody (st 58)) env) (fun fl B' vs' N' => Q (retOf fl) B' N') B [some x0, some x1, some x2] N) :
  Wc w A (.call (.ref 334) ⟨[x0, x1, x2], []⟩) Q B N :=
 Wc_def2 (fo := o334 w.params) (co := o333 w.params) (fvs := codeFields (o333 w.params)) (qual := "tab_end") (pm := .str "snobol.primitives" 638) (c := 333) (ps := ["subject", "at", "place"]) (rest := []) (tk := 681) K rm (hf_tab_end _) (hd_tab_end _) (by kernel_rfl) (by kernel_rfl) (by kernel_rfl) (by decide +kernel) (by kernel_rfl) (by kernel_rfl) (by kernel_rfl) (by kernel_rfl) h
theorem hf_rem_end (P : Params) : (H1 P).get? 348 = some (o348 P) := by kernel_rfl
theorem hd_rem_end (P : Params) : (o348 P).data = .func (fd (st 60) "rem_end" .none (.str "snobol.primitives" 638) (.ref 347)) := by kernel_rfl
theorem c_rem_end {x0 : Value} (K : KB w B) (rm : Rm A (d + 1))
  (h : ∀ L env A', Ev env (["subject"] : List Str) (["len"] : List Str) [] L → Rm A' d → A'.guards = A.guards → W w A' (["subject"] : List Str) L (execs (dBody (st 60)) env) (fun fl B' vs' N' => Q (retOf fl) B' N') B [some x0] N) :
  Wc w A (.call (.ref 348) ⟨[x0], []⟩) Q B N :=
 Wc_def2 (fo := o348 w.params) (co := o347 w.params) (fvs := codeFields (o347 w.params)) (qual := "rem_end") (pm := .str "snobol.primitives" 638) (c := 347) (ps := ["subject"]) (rest := []) (tk := 700) K rm (hf_rem_end _) (hd_rem_end _) (by kernel_rfl) (by kernel_rfl) (by kernel_rfl) (by decide +kernel) (by kernel_rfl) (by kernel_rfl) (by kernel_rfl) (by kernel_rfl) h
theorem hf_any_at (P : Params) : (H1 P).get? 355 = some (o355 P) := by kernel_rfl
theorem hd_any_at (P : Params) : (o355 P).data = .func (fd (st 61) "any_at" .none (.str "snobol.primitives" 638) (.ref 354)) := by kernel_rfl
theorem c_any_at {x0 x1 x2 : Value} (K : KB w B) (rm : Rm A (d + 1))
  (h : ∀ L env A', Ev env (["subject", "at", "signs"] : List Str) (["len"] : List Str) [] L → Rm A' d → A'.guards = A.guards → W w A' (["subject", "at", "signs"] : List Str) L (execs (dBody (st 61)) env) (fun fl B' vs' N' => Q (retOf fl) B' N') B [some x0, some x1, some x2] N) :
  Wc w A (.call (.ref 355) ⟨[x0, x1, x2], []⟩) Q B N :=
 Wc_def2 (fo := o355 w.params) (co := o354 w.params) (fvs := codeFields (o354 w.params)) (qual := "any_at") (pm := .str "snobol.primitives" 638) (c := 354) (ps := ["subject", "at", "signs"]) (rest := []) (tk := 707) K rm (hf_any_at _) (hd_any_at _) (by kernel_rfl) (by kernel_rfl) (by kernel_rfl) (by decide +kernel) (by kernel_rfl) (by kernel_rfl) (by kernel_rfl) (by kernel_rfl) h
theorem hf_run_end (P : Params) : (H1 P).get? 369 = some (o369 P) := by kernel_rfl
theorem hd_run_end (P : Params) : (o369 P).data = .func (fd (st 63) "run_end" .none (.str "snobol.primitives" 638) (.ref 368)) := by kernel_rfl
theorem c_run_end {x0 x1 x2 x3 : Value} (K : KB w B) (rm : Rm A (d + 1))
  (h : ∀ L env A', Ev env (["subject", "at", "signs", "is_in"] : List Str) (["len"] : List Str) [] L → Rm A' d → A'.guards = A.guards → W w A' (["subject", "at", "signs", "is_in"] : List Str) L (execs (dBody (st 63)) env) (fun fl B' vs' N' => Q (retOf fl) B' N') B [some x0, some x1, some x2, some x3] N) :
  Wc w A (.call (.ref 369) ⟨[x0, x1, x2, x3], []⟩) Q B N :=
 Wc_def2 (fo := o369 w.params) (co := o368 w.params) (fvs := codeFields (o368 w.params)) (qual := "run_end") (pm := .str "snobol.primitives" 638) (c := 368) (ps := ["subject", "at", "signs", "is_in"]) (rest := []) (tk := 725) K rm (hf_run_end _) (hd_run_end _) (by kernel_rfl) (by kernel_rfl) (by kernel_rfl) (by decide +kernel) (by kernel_rfl) (by kernel_rfl) (by kernel_rfl) (by kernel_rfl) h
theorem hf_span_end (P : Params) : (H1 P).get? 376 = some (o376 P) := by kernel_rfl
theorem hd_span_end (P : Params) : (o376 P).data = .func (fd (st 64) "span_end" .none (.str "snobol.primitives" 638) (.ref 375)) := by kernel_rfl
theorem c_span_end {x0 x1 x2 : Value} (K : KB w B) (rm : Rm A (d + 1))
  (h : ∀ L env A', Ev env (["subject", "at", "signs", "end"] : List Str) (["run_end"] : List Str) [] L → Rm A' d → A'.guards = A.guards → W w A' (["subject", "at", "signs", "end"] : List Str) L (execs (dBody (st 64)) env) (fun fl B' vs' N' => Q (retOf fl) B' N') B [some x0, some x1, some x2, none] N) :
  Wc w A (.call (.ref 376) ⟨[x0, x1, x2], []⟩) Q B N :=
 Wc_def2 (fo := o376 w.params) (co := o375 w.params) (fvs := codeFields (o375 w.params)) (qual := "span_end") (pm := .str "snobol.primitives" 638) (c := 375) (ps := ["subject", "at", "signs"]) (rest := ["end"]) (tk := 735) K rm (hf_span_end _) (hd_span_end _) (by kernel_rfl) (by kernel_rfl) (by kernel_rfl) (by decide +kernel) (by kernel_rfl) (by kernel_rfl) (by kernel_rfl) (by kernel_rfl) h
theorem hf_arb_ends (P : Params) : (H1 P).get? 390 = some (o390 P) := by kernel_rfl
theorem hd_arb_ends (P : Params) : (o390 P).data = .func (fd (st 66) "arb_ends" .none (.str "snobol.primitives" 638) (.ref 389)) := by kernel_rfl
theorem c_arb_ends {x0 x1 : Value} (K : KB w B) (rm : Rm A (d + 1))
  (h : ∀ L env A', Ev env (["subject", "at"] : List Str) (["list", "range", "len"] : List Str) [] L → Rm A' d → A'.guards = A.guards → W w A' (["subject", "at"] : List Str) L (execs (dBody (st 66)) env) (fun fl B' vs' N' => Q (retOf fl) B' N') B [some x0, some x1] N) :
  Wc w A (.call (.ref 390) ⟨[x0, x1], []⟩) Q B N :=
 Wc_def2 (fo := o390 w.params) (co := o389 w.params) (fvs := codeFields (o389 w.params)) (qual := "arb_ends") (pm := .str "snobol.primitives" 638) (c := 389) (ps := ["subject", "at"]) (rest := []) (tk := 755) K rm (hf_arb_ends _) (hd_arb_ends _) (by kernel_rfl) (by kernel_rfl) (by kernel_rfl) (by decide +kernel) (by kernel_rfl) (by kernel_rfl) (by kernel_rfl) (by kernel_rfl) h
theorem hf_bal_end (P : Params) : (H1 P).get? 397 = some (o397 P) := by kernel_rfl
theorem hd_bal_end (P : Params) : (o397 P).data = .func (fd (st 67) "bal_end" .none (.str "snobol.primitives" 638) (.ref 396)) := by kernel_rfl
theorem c_bal_end {x0 x1 : Value} (K : KB w B) (rm : Rm A (d + 1))
  (h : ∀ L env A', Ev env (["subject", "at", "level"] : List Str) (["len", "OPENING", "CLOSING"] : List Str) [] L → Rm A' d → A'.guards = A.guards → W w A' (["subject", "at", "level"] : List Str) L (execs (dBody (st 67)) env) (fun fl B' vs' N' => Q (retOf fl) B' N') B [some x0, some x1, none] N) :
  Wc w A (.call (.ref 397) ⟨[x0, x1], []⟩) Q B N :=
 Wc_def2 (fo := o397 w.params) (co := o396 w.params) (fvs := codeFields (o396 w.params)) (qual := "bal_end") (pm := .str "snobol.primitives" 638) (c := 396) (ps := ["subject", "at"]) (rest := ["level"]) (tk := 763) K rm (hf_bal_end _) (hd_bal_end _) (by kernel_rfl) (by kernel_rfl) (by kernel_rfl) (by decide +kernel) (by kernel_rfl) (by kernel_rfl) (by kernel_rfl) (by kernel_rfl) h
theorem hf_bal_ends (P : Params) : (H1 P).get? 404 = some (o404 P) := by kernel_rfl
theorem hd_bal_ends (P : Params) : (o404 P).data = .func (fd (st 68) "bal_ends" .none (.str "snobol.primitives" 638) (.ref 403)) := by kernel_rfl
theorem c_bal_ends {x0 x1 : Value} (K : KB w B) (rm : Rm A (d + 1))
  (h : ∀ L env A', Ev env (["subject", "at", "found", "end"] : List Str) (["bal_end"] : List Str) [] L → Rm A' d → A'.guards = A.guards → W w A' (["subject", "at", "found", "end"] : List Str) L (execs (dBody (st 68)) env) (fun fl B' vs' N' => Q (retOf fl) B' N') B [some x0, some x1, none, none] N) :
  Wc w A (.call (.ref 404) ⟨[x0, x1], []⟩) Q B N :=
 Wc_def2 (fo := o404 w.params) (co := o403 w.params) (fvs := codeFields (o403 w.params)) (qual := "bal_ends") (pm := .str "snobol.primitives" 638) (c := 403) (ps := ["subject", "at"]) (rest := ["found", "end"]) (tk := 772) K rm (hf_bal_ends _) (hd_bal_ends _) (by kernel_rfl) (by kernel_rfl) (by kernel_rfl) (by decide +kernel) (by kernel_rfl) (by kernel_rfl) (by kernel_rfl) (by kernel_rfl) h
theorem hf_one_end (P : Params) : (H1 P).get? 411 = some (o411 P) := by kernel_rfl
theorem hd_one_end (P : Params) : (o411 P).data = .func (fd (st 69) "one_end" .none (.str "snobol.primitives" 638) (.ref 410)) := by kernel_rfl
theorem c_one_end {x0 x1 x2 x3 : Value} (K : KB w B) (rm : Rm A (d + 1))
  (h : ∀ L env A', Ev env (["kind", "subject", "at", "told"] : List Str) (["chars_end", "len_end", "pos_end", "rpos_end", "tab_end", "rtab_end", "any_at", "notany_at", "span_end", "break_end"] : List Str) [] L → Rm A' d → A'.guards = A.guards → W w A' (["kind", "subject", "at", "told"] : List Str) L (execs (dBody (st 69)) env) (fun fl B' vs' N' => Q (retOf fl) B' N') B [some x0, some x1, some x2, some x3] N) :
  Wc w A (.call (.ref 411) ⟨[x0, x1, x2, x3], []⟩) Q B N :=
 Wc_def2 (fo := o411 w.params) (co := o410 w.params) (fvs := codeFields (o410 w.params)) (qual := "one_end") (pm := .str "snobol.primitives" 638) (c := 410) (ps := ["kind", "subject", "at", "told"]) (rest := []) (tk := 782) K rm (hf_one_end _) (hd_one_end _) (by kernel_rfl) (by kernel_rfl) (by kernel_rfl) (by decide +kernel) (by kernel_rfl) (by kernel_rfl) (by kernel_rfl) (by kernel_rfl) h
theorem hf_plain_end (P : Params) : (H1 P).get? 418 = some (o418 P) := by kernel_rfl
theorem hd_plain_end (P : Params) : (o418 P).data = .func (fd (st 70) "plain_end" .none (.str "snobol.primitives" 638) (.ref 417)) := by kernel_rfl
theorem c_plain_end {x0 x1 x2 : Value} (K : KB w B) (rm : Rm A (d + 1))
  (h : ∀ L env A', Ev env (["node", "subject", "at"] : List Str) (["rem_end", "one_end"] : List Str) [] L → Rm A' d → A'.guards = A.guards → W w A' (["node", "subject", "at"] : List Str) L (execs (dBody (st 70)) env) (fun fl B' vs' N' => Q (retOf fl) B' N') B [some x0, some x1, some x2] N) :
  Wc w A (.call (.ref 418) ⟨[x0, x1, x2], []⟩) Q B N :=
 Wc_def2 (fo := o418 w.params) (co := o417 w.params) (fvs := codeFields (o417 w.params)) (qual := "plain_end") (pm := .str "snobol.primitives" 638) (c := 417) (ps := ["node", "subject", "at"]) (rest := []) (tk := 792) K rm (hf_plain_end _) (hd_plain_end _) (by kernel_rfl) (by kernel_rfl) (by kernel_rfl) (by decide +kernel) (by kernel_rfl) (by kernel_rfl) (by kernel_rfl) (by kernel_rfl) h
theorem hf_ends_of (P : Params) : (H1 P).get? 425 = some (o425 P) := by kernel_rfl
theorem hd_ends_of (P : Params) : (o425 P).data = .func (fd (st 71) "ends_of" .none (.str "snobol.primitives" 638) (.ref 424)) := by kernel_rfl
theorem c_ends_of {x0 x1 x2 x3 : Value} (K : KB w B) (rm : Rm A (d + 1))
  (h : ∀ L env A', Ev env (["kind", "subject", "at", "told", "end"] : List Str) (["arb_ends", "bal_ends", "rem_end", "one_end"] : List Str) [] L → Rm A' d → A'.guards = A.guards → W w A' (["kind", "subject", "at", "told", "end"] : List Str) L (execs (dBody (st 71)) env) (fun fl B' vs' N' => Q (retOf fl) B' N') B [some x0, some x1, some x2, some x3, none] N) :
  Wc w A (.call (.ref 425) ⟨[x0, x1, x2, x3], []⟩) Q B N :=
 Wc_def2 (fo := o425 w.params) (co := o424 w.params) (fvs := codeFields (o424 w.params)) (qual := "ends_of") (pm := .str "snobol.primitives" 638) (c := 424) (ps := ["kind", "subject", "at", "told"]) (rest := ["end"]) (tk := 801) K rm (hf_ends_of _) (hd_ends_of _) (by kernel_rfl) (by kernel_rfl) (by kernel_rfl) (by decide +kernel) (by kernel_rfl) (by kernel_rfl) (by kernel_rfl) (by kernel_rfl) h
theorem hf_Way_init (P : Params) : (H1 P).get? 439 = some (o439 P) := by kernel_rfl
theorem hd_Way_init (P : Params) : (o439 P).data = .func (fd (mt 76 0) "Way.__init__" .none (.str "snobol.pattern_machine" 811) (.ref 438)) := by kernel_rfl
theorem c_Way_init {x0 x1 x2 x3 x4 x5 x6 : Value} (K : KB w B) (rm : Rm A (d + 1))
  (h : ∀ L env A', Ev env (["self", "orders", "pc", "at", "named", "marks", "calls"] : List Str) ([] : List Str) [] L → Rm A' d → A'.guards = A.guards → W w A' (["self", "orders", "pc", "at", "named", "marks", "calls"] : List Str) L (execs (dBody (mt 76 0)) env) (fun fl B' vs' N' => Q (retOf fl) B' N') B [some x0, some x1, some x2, some x3, some x4, some x5, some x6] N) :
  Wc w A (.call (.ref 439) ⟨[x0, x1, x2, x3, x4, x5, x6], []⟩) Q B N :=
 Wc_def2 (fo := o439 w.params) (co := o438 w.params) (fvs := codeFields (o438 w.params)) (qual := "Way.__init__") (pm := .str "snobol.pattern_machine" 811) (c := 438) (ps := ["self", "orders", "pc", "at", "named", "marks", "calls"]) (rest := []) (tk := 832) K rm (hf_Way_init _) (hd_Way_init _) (by kernel_rfl) (by kernel_rfl) (by kernel_rfl) (by decide +kernel) (by kernel_rfl) (by kernel_rfl) (by kernel_rfl) (by kernel_rfl) h
theorem hf_Way_copied (P : Params) : (H1 P).get? 446 = some (o446 P) := by kernel_rfl
theorem hd_Way_copied (P : Params) : (o446 P).data = .func (fd (mt 76 1) "Way.copied" .none (.str "snobol.pattern_machine" 811) (.ref 445)) := by kernel_rfl
theorem c_Way_copied {x0 x1 : Value} (K : KB w B) (rm : Rm A (d + 1))
  (h : ∀ L env A', Ev env (["self", "pc"] : List Str) (["Way"] : List Str) [] L → Rm A' d → A'.guards = A.guards → W w A' (["self", "pc"] : List Str) L (execs (dBody (mt 76 1)) env) (fun fl B' vs' N' => Q (retOf fl) B' N') B [some x0, some x1] N) :
  Wc w A (.call (.ref 446) ⟨[x0, x1], []⟩) Q B N :=
 Wc_def2 (fo := o446 w.params) (co := o445 w.params) (fvs := codeFields (o445 w.params)) (qual := "Way.copied") (pm := .str "snobol.pattern_machine" 811) (c := 445) (ps := ["self", "pc"]) (rest := []) (tk := 845) K rm (hf_Way_copied _) (hd_Way_copied _) (by kernel_rfl) (by kernel_rfl) (by kernel_rfl) (by decide +kernel) (by kernel_rfl) (by kernel_rfl) (by kernel_rfl) (by kernel_rfl) h
theorem hf_Match_init (P : Params) : (H1 P).get? 467 = some (o467 P) := by kernel_rfl
theorem hd_Match_init (P : Params) : (o467 P).data = .func (fd (mt 77 0) "Match.__init__" .none (.str "snobol.pattern_machine" 811) (.ref 466)) := by kernel_rfl
theorem c_Match_init {x0 x1 x2 : Value} (K : KB w B) (rm : Rm A (d + 1))
  (h : ∀ L env A', Ev env (["self", "subject", "host"] : List Str) ([] : List Str) [] L → Rm A' d → A'.guards = A.guards → W w A' (["self", "subject", "host"] : List Str) L (execs (dBody (mt 77 0)) env) (fun fl B' vs' N' => Q (retOf fl) B' N') B [some x0, some x1, some x2] N) :
  Wc w A (.call (.ref 467) ⟨[x0, x1, x2], []⟩) Q B N :=
 Wc_def2 (fo := o467 w.params) (co := o466 w.params) (fvs := codeFields (o466 w.params)) (qual := "Match.__init__") (pm := .str "snobol.pattern_machine" 811) (c := 466) (ps := ["self", "subject", "host"]) (rest := []) (tk := 879) K rm (hf_Match_init _) (hd_Match_init _) (by kernel_rfl) (by kernel_rfl) (by kernel_rfl) (by decide +kernel) (by kernel_rfl) (by kernel_rfl) (by kernel_rfl) (by kernel_rfl) h
theorem hf_Match_run (P : Params) : (H1 P).get? 474 = some (o474 P) := by kernel_rfl
theorem hd_Match_run (P : Params) : (o474 P).data = .func (fd (mt 77 1) "Match.run" .none (.str "snobol.pattern_machine" 811) (.ref 473)) := by kernel_rfl
theorem c_Match_run {x0 x1 x2 : Value} (K : KB w B) (rm : Rm A (d + 1))
  (h : ∀ L env A', Ev env (["self", "orders", "begin", "way", "order"] : List Str) (["Way", "DONE", "MET", "ABORT", "OVER", "FAILED"] : List Str) [] L → Rm A' d → A'.guards = A.guards → W w A' (["self", "orders", "begin", "way", "order"] : List Str) L (execs (dBody (mt 77 1)) env) (fun fl B' vs' N' => Q (retOf fl) B' N') B [some x0, some x1, some x2, none, none] N) :
  Wc w A (.call (.ref 474) ⟨[x0, x1, x2], []⟩) Q B N :=
 Wc_def2 (fo := o474 w.params) (co := o473 w.params) (fvs := codeFields (o473 w.params)) (qual := "Match.run") (pm := .str "snobol.pattern_machine" 811) (c := 473) (ps := ["self", "orders", "begin"]) (rest := ["way", "order"]) (tk := 888) K rm (hf_Match_run _) (hd_Match_run _) (by kernel_rfl) (by kernel_rfl) (by kernel_rfl) (by decide +kernel) (by kernel_rfl) (by kernel_rfl) (by kernel_rfl) (by kernel_rfl) h
theorem hf_Match_way_back (P : Params) : (H1 P).get? 481 = some (o481 P) := by kernel_rfl
theorem hd_Match_way_back (P : Params) : (o481 P).data = .func (fd (mt 77 2) "Match.way_back" .none (.str "snobol.pattern_machine" 811) (.ref 480)) := by kernel_rfl
theorem c_Match_way_back {x0 : Value} (K : KB w B) (rm : Rm A (d + 1))
  (h : ∀ L env A', Ev env (["self"] : List Str) (["len"] : List Str) [] L → Rm A' d → A'.guards = A.guards → W w A' (["self"] : List Str) L (execs (dBody (mt 77 2)) env) (fun fl B' vs' N' => Q (retOf fl) B' N') B [some x0] N) :
  Wc w A (.call (.ref 481) ⟨[x0], []⟩) Q B N :=
 Wc_def2 (fo := o481 w.params) (co := o480 w.params) (fvs := codeFields (o480 w.params)) (qual := "Match.way_back") (pm := .str "snobol.pattern_machine" 811) (c := 480) (ps := ["self"]) (rest := []) (tk := 899) K rm (hf_Match_way_back _) (hd_Match_way_back _) (by kernel_rfl) (by kernel_rfl) (by kernel_rfl) (by decide +kernel) (by kernel_rfl) (by kernel_rfl) (by kernel_rfl) (by kernel_rfl) h
theorem hf_Match_done (P : Params) : (H1 P).get? 488 = some (o488 P) := by kernel_rfl
theorem hd_Match_done (P : Params) : (o488 P).data = .func (fd (mt 77 3) "Match.done" .none (.str "snobol.pattern_machine" 811) (.ref 487)) := by kernel_rfl
theorem c_Match_done {x0 x1 x2 : Value} (K : KB w B) (rm : Rm A (d + 1))
  (h : ∀ L env A', Ev env (["self", "order", "way", "word"] : List Str) (["ONE", "SPLIT", "JUMP", "MARK", "NAME", "SET", "GAIN", "PLACE"] : List Str) [] L → Rm A' d → A'.guards = A.guards → W w A' (["self", "order", "way", "word"] : List Str) L (execs (dBody (mt 77 3)) env) (fun fl B' vs' N' => Q (retOf fl) B' N') B [some x0, some x1, some x2, none] N) :
  Wc w A (.call (.ref 488) ⟨[x0, x1, x2], []⟩) Q B N :=
 Wc_def2 (fo := o488 w.params) (co := o487 w.params) (fvs := codeFields (o487 w.params)) (qual := "Match.done") (pm := .str "snobol.pattern_machine" 811) (c := 487) (ps := ["self", "order", "way"]) (rest := ["word"]) (tk := 906) K rm (hf_Match_done _) (hd_Match_done _) (by kernel_rfl) (by kernel_rfl) (by kernel_rfl) (by decide +kernel) (by kernel_rfl) (by kernel_rfl) (by kernel_rfl) (by kernel_rfl) h
theorem hf_Match_met_once (P : Params) : (H1 P).get? 495 = some (o495 P) := by kernel_rfl
theorem hd_Match_met_once (P : Params) : (o495 P).data = .func (fd (mt 77 4) "Match.met_once" .none (.str "snobol.pattern_machine" 811) (.ref 494)) := by kernel_rfl
theorem c_Match_met_once {x0 x1 x2 : Value} (K : KB w B) (rm : Rm A (d + 1))
  (h : ∀ L env A', Ev env (["self", "order", "way", "told", "node", "end"] : List Str) (["isinstance", "tuple", "settled", "plain_end"] : List Str) [] L → Rm A' d → A'.guards = A.guards → W w A' (["self", "order", "way", "told", "node", "end"] : List Str) L (execs (dBody (mt 77 4)) env) (fun fl B' vs' N' => Q (retOf fl) B' N') B [some x0, some x1, some x2, none, none, none] N) :
  Wc w A (.call (.ref 495) ⟨[x0, x1, x2], []⟩) Q B N :=
 Wc_def2 (fo := o495 w.params) (co := o494 w.params) (fvs := codeFields (o494 w.params)) (qual := "Match.met_once") (pm := .str "snobol.pattern_machine" 811) (c := 494) (ps := ["self", "order", "way"]) (rest := ["told", "node", "end"]) (tk := 916) K rm (hf_Match_met_once _) (hd_Match_met_once _) (by kernel_rfl) (by kernel_rfl) (by kernel_rfl) (by decide +kernel) (by kernel_rfl) (by kernel_rfl) (by kernel_rfl) (by kernel_rfl) h
theorem hf_Match_ended (P : Params) : (H1 P).get? 502 = some (o502 P) := by kernel_rfl
theorem hd_Match_ended (P : Params) : (o502 P).data = .func (fd (mt 77 5) "Match.ended" .none (.str "snobol.pattern_machine" 811) (.ref 501)) := by kernel_rfl
theorem c_Match_ended {x0 x1 x2 : Value} (K : KB w B) (rm : Rm A (d + 1))
  (h : ∀ L env A', Ev env (["self", "order", "way", "marks", "begin", "text"] : List Str) (["GAIN", "SET"] : List Str) [] L → Rm A' d → A'.guards = A.guards → W w A' (["self", "order", "way", "marks", "begin", "text"] : List Str) L (execs (dBody (mt 77 5)) env) (fun fl B' vs' N' => Q (retOf fl) B' N') B [some x0, some x1, some x2, none, none, none] N) :
  Wc w A (.call (.ref 502) ⟨[x0, x1, x2], []⟩) Q B N :=
 Wc_def2 (fo := o502 w.params) (co := o501 w.params) (fvs := codeFields (o501 w.params)) (qual := "Match.ended") (pm := .str "snobol.pattern_machine" 811) (c := 501) (ps := ["self", "order", "way"]) (rest := ["marks", "begin", "text"]) (tk := 928) K rm (hf_Match_ended _) (hd_Match_ended _) (by kernel_rfl) (by kernel_rfl) (by kernel_rfl) (by decide +kernel) (by kernel_rfl) (by kernel_rfl) (by kernel_rfl) (by kernel_rfl) h
theorem hf_Match_other (P : Params) : (H1 P).get? 509 = some (o509 P) := by kernel_rfl
theorem hd_Match_other (P : Params) : (o509 P).data = .func (fd (mt 77 6) "Match.other" .none (.str "snobol.pattern_machine" 811) (.ref 508)) := by kernel_rfl
theorem c_Match_other {x0 x1 x2 : Value} (K : KB w B) (rm : Rm A (d + 1))
  (h : ∀ L env A', Ev env (["self", "order", "way", "word"] : List Str) (["FAIL", "WAYS", "ends_of", "ASK", "DONE", "FENCE", "Way", "SUCCEED"] : List Str) [] L → Rm A' d → A'.guards = A.guards → W w A' (["self", "order", "way", "word"] : List Str) L (execs (dBody (mt 77 6)) env) (fun fl B' vs' N' => Q (retOf fl) B' N') B [some x0, some x1, some x2, none] N) :
  Wc w A (.call (.ref 509) ⟨[x0, x1, x2], []⟩) Q B N :=
 Wc_def2 (fo := o509 w.params) (co := o508 w.params) (fvs := codeFields (o508 w.params)) (qual := "Match.other") (pm := .str "snobol.pattern_machine" 811) (c := 508) (ps := ["self", "order", "way"]) (rest := ["word"]) (tk := 940) K rm (hf_Match_other _) (hd_Match_other _) (by kernel_rfl) (by kernel_rfl) (by kernel_rfl) (by decide +kernel) (by kernel_rfl) (by kernel_rfl) (by kernel_rfl) (by kernel_rfl) h
theorem hf_Match_met_often (P : Params) : (H1 P).get? 516 = some (o516 P) := by kernel_rfl
theorem hd_Match_met_often (P : Params) : (o516 P).data = .func (fd (mt 77 7) "Match.met_often" .none (.str "snobol.pattern_machine" 811) (.ref 515)) := by kernel_rfl
theorem c_Match_met_often {x0 x1 x2 : Value} (K : KB w B) (rm : Rm A (d + 1))
  (h : ∀ L env A', Ev env (["self", "way", "ends", "end", "other"] : List Str) (["len"] : List Str) [] L → Rm A' d → A'.guards = A.guards → W w A' (["self", "way", "ends", "end", "other"] : List Str) L (execs (dBody (mt 77 7)) env) (fun fl B' vs' N' => Q (retOf fl) B' N') B [some x0, some x1, some x2, none, none] N) :
  Wc w A (.call (.ref 516) ⟨[x0, x1, x2], []⟩) Q B N :=
 Wc_def2 (fo := o516 w.params) (co := o515 w.params) (fvs := codeFields (o515 w.params)) (qual := "Match.met_often") (pm := .str "snobol.pattern_machine" 811) (c := 515) (ps := ["self", "way", "ends"]) (rest := ["end", "other"]) (tk := 950) K rm (hf_Match_met_often _) (hd_Match_met_often _) (by kernel_rfl) (by kernel_rfl) (by kernel_rfl) (by decide +kernel) (by kernel_rfl) (by kernel_rfl) (by kernel_rfl) (by kernel_rfl) h
theorem hf_match_orders (P : Params) : (H1 P).get? 544 = some (o544 P) := by kernel_rfl
theorem hd_match_orders (P : Params) : (o544 P).data = .func (fd (st 79) "match_orders" .none (.str "snobol.pattern_machine" 811) (.ref 543)) := by kernel_rfl
theorem c_match_orders {x0 x1 x2 x3 : Value} (K : KB w B) (rm : Rm A (d + 1))
  (h : ∀ L env A', Ev env (["orders", "subject", "is_anchored", "host", "begin", "how", "way"] : List Str) (["range", "len", "Match", "MET", "named_rows", "OVER"] : List Str) [] L → Rm A' d → A'.guards = A.guards → W w A' (["orders", "subject", "is_anchored", "host", "begin", "how", "way"] : List Str) L (execs (dBody (st 79)) env) (fun fl B' vs' N' => Q (retOf fl) B' N') B [some x0, some x1, some x2, some x3, none, none, none] N) :
  Wc w A (.call (.ref 544) ⟨[x0, x1, x2, x3], []⟩) Q B N :=
 Wc_def2 (fo := o544 w.params) (co := o543 w.params) (fvs := codeFields (o543 w.params)) (qual := "match_orders") (pm := .str "snobol.pattern_machine" 811) (c := 543) (ps := ["orders", "subject", "is_anchored", "host"]) (rest := ["begin", "how", "way"]) (tk := 991) K rm (hf_match_orders _) (hd_match_orders _) (by kernel_rfl) (by kernel_rfl) (by kernel_rfl) (by decide +kernel) (by kernel_rfl) (by kernel_rfl) (by kernel_rfl) (by kernel_rfl) h
theorem hf_match_compiled (P : Params) : (H1 P).get? 551 = some (o551 P) := by kernel_rfl
theorem hd_match_compiled (P : Params) : (o551 P).data = .func (fd (st 80) "match_compiled" .none (.str "snobol.pattern_machine" 811) (.ref 550)) := by kernel_rfl
theorem c_match_compiled {x0 x1 x2 x3 : Value} (K : KB w B) (rm : Rm A (d + 1))
  (h : ∀ L env A', Ev env (["node", "subject", "is_anchored", "host"] : List Str) (["match_orders", "compile_pattern"] : List Str) [] L → Rm A' d → A'.guards = A.guards → W w A' (["node", "subject", "is_anchored", "host"] : List Str) L (execs (dBody (st 80)) env) (fun fl B' vs' N' => Q (retOf fl) B' N') B [some x0, some x1, some x2, some x3] N) :
  Wc w A (.call (.ref 551) ⟨[x0, x1, x2, x3], []⟩) Q B N :=
 Wc_def2 (fo := o551 w.params) (co := o550 w.params) (fvs := codeFields (o550 w.params)) (qual := "match_compiled") (pm := .str "snobol.pattern_machine" 811) (c := 550) (ps := ["node", "subject", "is_anchored", "host"]) (rest := []) (tk := 1004) K rm (hf_match_compiled _) (hd_match_compiled _) (by kernel_rfl) (by kernel_rfl) (by kernel_rfl) (by decide +kernel) (by kernel_rfl) (by kernel_rfl) (by kernel_rfl) (by kernel_rfl) h
theorem hf_PlainHost_init (P : Params) : (H1 P).get? 565 = some (o565 P) := by kernel_rfl
theorem hd_PlainHost_init (P : Params) : (o565 P).data = .func (fd (mt 82 0) "PlainHost.__init__" .none (.str "snobol.hosts" 1013) (.ref 564)) := by kernel_rfl
theorem c_PlainHost_init {x0 x1 x2 x3 : Value} (K : KB w B) (rm : Rm A (d + 1))
  (h : ∀ L env A', Ev env (["self", "values", "limit", "refused"] : List Str) ([] : List Str) [] L → Rm A' d → A'.guards = A.guards → W w A' (["self", "values", "limit", "refused"] : List Str) L (execs (dBody (mt 82 0)) env) (fun fl B' vs' N' => Q (retOf fl) B' N') B [some x0, some x1, some x2, some x3] N) :
  Wc w A (.call (.ref 565) ⟨[x0, x1, x2, x3], []⟩) Q B N :=
 Wc_def2 (fo := o565 w.params) (co := o564 w.params) (fvs := codeFields (o564 w.params)) (qual := "PlainHost.__init__") (pm := .str "snobol.hosts" 1013) (c := 564) (ps := ["self", "values", "limit", "refused"]) (rest := []) (tk := 1028) K rm (hf_PlainHost_init _) (hd_PlainHost_init _) (by kernel_rfl) (by kernel_rfl) (by kernel_rfl) (by decide +kernel) (by kernel_rfl) (by kernel_rfl) (by kernel_rfl) (by kernel_rfl) h
theorem hf_PlainHost_assign (P : Params) : (H1 P).get? 579 = some (o579 P) := by kernel_rfl
theorem hd_PlainHost_assign (P : Params) : (o579 P).data = .func (fd (mt 82 2) "PlainHost.assign" .none (.str "snobol.hosts" 1013) (.ref 578)) := by kernel_rfl
theorem c_PlainHost_assign {x0 x1 x2 : Value} (K : KB w B) (rm : Rm A (d + 1))
  (h : ∀ L env A', Ev env (["self", "ref", "value"] : List Str) ([] : List Str) [] L → Rm A' d → A'.guards = A.guards → W w A' (["self", "ref", "value"] : List Str) L (execs (dBody (mt 82 2)) env) (fun fl B' vs' N' => Q (retOf fl) B' N') B [some x0, some x1, some x2] N) :
  Wc w A (.call (.ref 579) ⟨[x0, x1, x2], []⟩) Q B N :=
 Wc_def2 (fo := o579 w.params) (co := o578 w.params) (fvs := codeFields (o578 w.params)) (qual := "PlainHost.assign") (pm := .str "snobol.hosts" 1013) (c := 578) (ps := ["self", "ref", "value"]) (rest := []) (tk := 1046) K rm (hf_PlainHost_assign _) (hd_PlainHost_assign _) (by kernel_rfl) (by kernel_rfl) (by kernel_rfl) (by decide +kernel) (by kernel_rfl) (by kernel_rfl) (by kernel_rfl) (by kernel_rfl) h
theorem hf_PlainHost_step (P : Params) : (H1 P).get? 586 = some (o586 P) := by kernel_rfl
theorem hd_PlainHost_step (P : Params) : (o586 P).data = .func (fd (mt 82 3) "PlainHost.step" .none (.str "snobol.hosts" 1013) (.ref 585)) := by kernel_rfl
theorem c_PlainHost_step {x0 : Value} (K : KB w B) (rm : Rm A (d + 1))
  (h : ∀ L env A', Ev env (["self"] : List Str) (["SnobolError"] : List Str) [] L → Rm A' d → A'.guards = A.guards → W w A' (["self"] : List Str) L (execs (dBody (mt 82 3)) env) (fun fl B' vs' N' => Q (retOf fl) B' N') B [some x0] N) :
  Wc w A (.call (.ref 586) ⟨[x0], []⟩) Q B N :=
 Wc_def2 (fo := o586 w.params) (co := o585 w.params) (fvs := codeFields (o585 w.params)) (qual := "PlainHost.step") (pm := .str "snobol.hosts" 1013) (c := 585) (ps := ["self"]) (rest := []) (tk := 1055) K rm (hf_PlainHost_step _) (hd_PlainHost_step _) (by kernel_rfl) (by kernel_rfl) (by kernel_rfl) (by decide +kernel) (by kernel_rfl) (by kernel_rfl) (by kernel_rfl) (by kernel_rfl) h
theorem hf_match_plain (P : Params) : (H1 P).get? 600 = some (o600 P) := by kernel_rfl
theorem hd_match_plain (P : Params) : (o600 P).data = .func (fd (st 85) "match_plain" .none (.str "snobol.trial" 1075) (.ref 599)) := by kernel_rfl
theorem c_match_plain {x0 x1 x2 x3 : Value} (K : KB w B) (rm : Rm A (d + 1))
  (h : ∀ L env A', Ev env (["node", "subject", "is_anchored", "host", "begin", "found"] : List Str) (["range", "len", "match_at", "LOST"] : List Str) [] L → Rm A' d → A'.guards = A.guards → W w A' (["node", "subject", "is_anchored", "host", "begin", "found"] : List Str) L (execs (dBody (st 85)) env) (fun fl B' vs' N' => Q (retOf fl) B' N') B [some x0, some x1, some x2, some x3, none, none] N) :
  Wc w A (.call (.ref 600) ⟨[x0, x1, x2, x3], []⟩) Q B N :=
 Wc_def2 (fo := o600 w.params) (co := o599 w.params) (fvs := codeFields (o599 w.params)) (qual := "match_plain") (pm := .str "snobol.trial" 1075) (c := 599) (ps := ["node", "subject", "is_anchored", "host"]) (rest := ["begin", "found"]) (tk := 1080) K rm (hf_match_plain _) (hd_match_plain _) (by kernel_rfl) (by kernel_rfl) (by kernel_rfl) (by decide +kernel) (by kernel_rfl) (by kernel_rfl) (by kernel_rfl) (by kernel_rfl) h
theorem hf_match_at (P : Params) : (H1 P).get? 607 = some (o607 P) := by kernel_rfl
theorem hd_match_at (P : Params) : (o607 P).data = .func (fd (st 86) "match_at" .none (.str "snobol.trial" 1075) (.ref 606)) := by kernel_rfl
theorem c_match_at {x0 x1 x2 x3 : Value} (K : KB w B) (rm : Rm A (d + 1))
  (h : ∀ L env A', Ev env (["node", "subject", "begin", "host", "found"] : List Str) (["tried", "LOST"] : List Str) [] L → Rm A' d → A'.guards = A.guards → W w A' (["node", "subject", "begin", "host", "found"] : List Str) L (execs (dBody (st 86)) env) (fun fl B' vs' N' => Q (retOf fl) B' N') B [some x0, some x1, some x2, some x3, none] N) :
  Wc w A (.call (.ref 607) ⟨[x0, x1, x2, x3], []⟩) Q B N :=
 Wc_def2 (fo := o607 w.params) (co := o606 w.params) (fvs := codeFields (o606 w.params)) (qual := "match_at") (pm := .str "snobol.trial" 1075) (c := 606) (ps := ["node", "subject", "begin", "host"]) (rest := ["found"]) (tk := 1092) K rm (hf_match_at _) (hd_match_at _) (by kernel_rfl) (by kernel_rfl) (by kernel_rfl) (by decide +kernel) (by kernel_rfl) (by kernel_rfl) (by kernel_rfl) (by kernel_rfl) h
theorem hf_tried (P : Params) : (H1 P).get? 614 = some (o614 P) := by kernel_rfl
theorem hd_tried (P : Params) : (o614 P).data = .func (fd (st 87) "tried" .none (.str "snobol.trial" 1075) (.ref 613)) := by kernel_rfl
theorem c_tried {x0 x1 x2 x3 : Value} (K : KB w B) (rm : Rm A (d + 1))
  (h : ∀ L env A', Ev env (["node", "subject", "begin", "host", "pile", "way", "chain", "at", "named"] : List Str) (["len", "LOST", "advanced", "list"] : List Str) [] L → Rm A' d → A'.guards = A.guards → W w A' (["node", "subject", "begin", "host", "pile", "way", "chain", "at", "named"] : List Str) L (execs (dBody (st 87)) env) (fun fl B' vs' N' => Q (retOf fl) B' N') B [some x0, some x1, some x2, some x3, none, none, none, none, none] N) :
  Wc w A (.call (.ref 614) ⟨[x0, x1, x2, x3], []⟩) Q B N :=
 Wc_def2 (fo := o614 w.params) (co := o613 w.params) (fvs := codeFields (o613 w.params)) (qual := "tried") (pm := .str "snobol.trial" 1075) (c := 613) (ps := ["node", "subject", "begin", "host"]) (rest := ["pile", "way", "chain", "at", "named"]) (tk := 1103) K rm (hf_tried _) (hd_tried _) (by kernel_rfl) (by kernel_rfl) (by kernel_rfl) (by decide +kernel) (by kernel_rfl) (by kernel_rfl) (by kernel_rfl) (by kernel_rfl) h
theorem hf_advanced (P : Params) : (H1 P).get? 621 = some (o621 P) := by kernel_rfl
theorem hd_advanced (P : Params) : (o621 P).data = .func (fd (st 88) "advanced" .none (.str "snobol.trial" 1075) (.ref 620)) := by kernel_rfl
theorem c_advanced {x0 x1 x2 x3 x4 x5 : Value} (K : KB w B) (rm : Rm A (d + 1))
  (h : ∀ L env A', Ev env (["chain", "at", "named", "subject", "pile", "host", "here", "rest", "kind", "value"] : List Str) (["led_in", "led_out", "is_fail", "pattern_of", "steered", "taken"] : List Str) [] L → Rm A' d → A'.guards = A.guards → W w A' (["chain", "at", "named", "subject", "pile", "host", "here", "rest", "kind", "value"] : List Str) L (execs (dBody (st 88)) env) (fun fl B' vs' N' => Q (retOf fl) B' N') B [some x0, some x1, some x2, some x3, some x4, some x5, none, none, none, none] N) :
  Wc w A (.call (.ref 621) ⟨[x0, x1, x2, x3, x4, x5], []⟩) Q B N :=
 Wc_def2 (fo := o621 w.params) (co := o620 w.params) (fvs := codeFields (o620 w.params)) (qual := "advanced") (pm := .str "snobol.trial" 1075) (c := 620) (ps := ["chain", "at", "named", "subject", "pile", "host"]) (rest := ["here", "rest", "kind", "value"]) (tk := 1118) K rm (hf_advanced _) (hd_advanced _) (by kernel_rfl) (by kernel_rfl) (by kernel_rfl) (by decide +kernel) (by kernel_rfl) (by kernel_rfl) (by kernel_rfl) (by kernel_rfl) h
theorem hf_led_in (P : Params) : (H1 P).get? 628 = some (o628 P) := by kernel_rfl
theorem hd_led_in (P : Params) : (o628 P).data = .func (fd (st 89) "led_in" .none (.str "snobol.trial" 1075) (.ref 627)) := by kernel_rfl
theorem c_led_in {x0 x1 x2 x3 x4 : Value} (K : KB w B) (rm : Rm A (d + 1))
  (h : ∀ L env A', Ev env (["here", "rest", "at", "named", "pile", "kind"] : List Str) ([] : List Str) [] L → Rm A' d → A'.guards = A.guards → W w A' (["here", "rest", "at", "named", "pile", "kind"] : List Str) L (execs (dBody (st 89)) env) (fun fl B' vs' N' => Q (retOf fl) B' N') B [some x0, some x1, some x2, some x3, some x4, none] N) :
  Wc w A (.call (.ref 628) ⟨[x0, x1, x2, x3, x4], []⟩) Q B N :=
 Wc_def2 (fo := o628 w.params) (co := o627 w.params) (fvs := codeFields (o627 w.params)) (qual := "led_in") (pm := .str "snobol.trial" 1075) (c := 627) (ps := ["here", "rest", "at", "named", "pile"]) (rest := ["kind"]) (tk := 1134) K rm (hf_led_in _) (hd_led_in _) (by kernel_rfl) (by kernel_rfl) (by kernel_rfl) (by decide +kernel) (by kernel_rfl) (by kernel_rfl) (by kernel_rfl) (by kernel_rfl) h
theorem hf_led_out (P : Params) : (H1 P).get? 635 = some (o635 P) := by kernel_rfl
theorem hd_led_out (P : Params) : (o635 P).data = .func (fd (st 90) "led_out" .none (.str "snobol.trial" 1075) (.ref 634)) := by kernel_rfl
theorem c_led_out {x0 x1 x2 x3 x4 x5 x6 : Value} (K : KB w B) (rm : Rm A (d + 1))
  (h : ∀ L env A', Ev env (["here", "rest", "at", "named", "subject", "pile", "host", "kind", "told", "begin"] : List Str) ([] : List Str) [] L → Rm A' d → A'.guards = A.guards → W w A' (["here", "rest", "at", "named", "subject", "pile", "host", "kind", "told", "begin"] : List Str) L (execs (dBody (st 90)) env) (fun fl B' vs' N' => Q (retOf fl) B' N') B [some x0, some x1, some x2, some x3, some x4, some x5, some x6, none, none, none] N) :
  Wc w A (.call (.ref 635) ⟨[x0, x1, x2, x3, x4, x5, x6], []⟩) Q B N :=
 Wc_def2 (fo := o635 w.params) (co := o634 w.params) (fvs := codeFields (o634 w.params)) (qual := "led_out") (pm := .str "snobol.trial" 1075) (c := 634) (ps := ["here", "rest", "at", "named", "subject", "pile", "host"]) (rest := ["kind", "told", "begin"]) (tk := 1146) K rm (hf_led_out _) (hd_led_out _) (by kernel_rfl) (by kernel_rfl) (by kernel_rfl) (by decide +kernel) (by kernel_rfl) (by kernel_rfl) (by kernel_rfl) (by kernel_rfl) h
theorem hf_steered (P : Params) : (H1 P).get? 642 = some (o642 P) := by kernel_rfl
theorem hd_steered (P : Params) : (o642 P).data = .func (fd (st 91) "steered" .none (.str "snobol.trial" 1075) (.ref 641)) := by kernel_rfl
theorem c_steered {x0 x1 x2 x3 : Value} (K : KB w B) (rm : Rm A (d + 1))
  (h : ∀ L env A', Ev env (["chain", "at", "named", "pile", "kind", "rest"] : List Str) (["LOST"] : List Str) [] L → Rm A' d → A'.guards = A.guards → W w A' (["chain", "at", "named", "pile", "kind", "rest"] : List Str) L (execs (dBody (st 91)) env) (fun fl B' vs' N' => Q (retOf fl) B' N') B [some x0, some x1, some x2, some x3, none, none] N) :
  Wc w A (.call (.ref 642) ⟨[x0, x1, x2, x3], []⟩) Q B N :=
 Wc_def2 (fo := o642 w.params) (co := o641 w.params) (fvs := codeFields (o641 w.params)) (qual := "steered") (pm := .str "snobol.trial" 1075) (c := 641) (ps := ["chain", "at", "named", "pile"]) (rest := ["kind", "rest"]) (tk := 1162) K rm (hf_steered _) (hd_steered _) (by kernel_rfl) (by kernel_rfl) (by kernel_rfl) (by decide +kernel) (by kernel_rfl) (by kernel_rfl) (by kernel_rfl) (by kernel_rfl) h
theorem hf_taken (P : Params) : (H1 P).get? 649 = some (o649 P) := by kernel_rfl
theorem hd_taken (P : Params) : (o649 P).data = .func (fd (st 92) "taken" .none (.str "snobol.trial" 1075) (.ref 648)) := by kernel_rfl
theorem c_taken {x0 x1 x2 x3 x4 x5 x6 : Value} (K : KB w B) (rm : Rm A (d + 1))
  (h : ∀ L env A', Ev env (["here", "rest", "at", "named", "subject", "pile", "host", "kind", "ends", "end", "plain"] : List Str) (["len", "bal_ends", "settled", "plain_end"] : List Str) [] L → Rm A' d → A'.guards = A.guards → W w A' (["here", "rest", "at", "named", "subject", "pile", "host", "kind", "ends", "end", "plain"] : List Str) L (execs (dBody (st 92)) env) (fun fl B' vs' N' => Q (retOf fl) B' N') B [some x0, some x1, some x2, some x3, some x4, some x5, some x6, none, none, none, none] N) :
  Wc w A (.call (.ref 649) ⟨[x0, x1, x2, x3, x4, x5, x6], []⟩) Q B N :=
 Wc_def2 (fo := o649 w.params) (co := o648 w.params) (fvs := codeFields (o648 w.params)) (qual := "taken") (pm := .str "snobol.trial" 1075) (c := 648) (ps := ["here", "rest", "at", "named", "subject", "pile", "host"]) (rest := ["kind", "ends", "end", "plain"]) (tk := 1174) K rm (hf_taken _) (hd_taken _) (by kernel_rfl) (by kernel_rfl) (by kernel_rfl) (by decide +kernel) (by kernel_rfl) (by kernel_rfl) (by kernel_rfl) (by kernel_rfl) h
theorem hf_law_take (P : Params) : (H1 P).get? 656 = some (o656 P) := by kernel_rfl
theorem hd_law_take (P : Params) : (o656 P).data = .func (fd (st 94) "_law_take" .none (.str "law_sj0202_01" 1190) (.ref 655)) := by kernel_rfl
theorem c_law_take {x0 x1 : Value} (K : KB w B) (rm : Rm A (d + 1))
  (h : ∀ L env A', Ev env (["box", "wide"] : List Str) ([] : List Str) [] L → Rm A' d → A'.guards = A.guards → W w A' (["box", "wide"] : List Str) L (execs (dBody (st 94)) env) (fun fl B' vs' N' => Q (retOf fl) B' N') B [some x0, some x1] N) :
  Wc w A (.call (.ref 656) ⟨[x0, x1], []⟩) Q B N :=
 Wc_def2 (fo := o656 w.params) (co := o655 w.params) (fvs := codeFields (o655 w.params)) (qual := "_law_take") (pm := .str "law_sj0202_01" 1190) (c := 655) (ps := ["box", "wide"]) (rest := []) (tk := 1193) K rm (hf_law_take _) (hd_law_take _) (by kernel_rfl) (by kernel_rfl) (by kernel_rfl) (by decide +kernel) (by kernel_rfl) (by kernel_rfl) (by kernel_rfl) (by kernel_rfl) h
theorem hf_law_leaf (P : Params) : (H1 P).get? 663 = some (o663 P) := by kernel_rfl
theorem hd_law_leaf (P : Params) : (o663 P).data = .func (fd (st 95) "_law_leaf" .none (.str "law_sj0202_01" 1190) (.ref 662)) := by kernel_rfl
theorem c_law_leaf {x0 : Value} (K : KB w B) (rm : Rm A (d + 1))
  (h : ∀ L env A', Ev env (["box", "kind"] : List Str) (["_law_take"] : List Str) [] L → Rm A' d → A'.guards = A.guards → W w A' (["box", "kind"] : List Str) L (execs (dBody (st 95)) env) (fun fl B' vs' N' => Q (retOf fl) B' N') B [some x0, none] N) :
  Wc w A (.call (.ref 663) ⟨[x0], []⟩) Q B N :=
 Wc_def2 (fo := o663 w.params) (co := o662 w.params) (fvs := codeFields (o662 w.params)) (qual := "_law_leaf") (pm := .str "law_sj0202_01" 1190) (c := 662) (ps := ["box"]) (rest := ["kind"]) (tk := 1201) K rm (hf_law_leaf _) (hd_law_leaf _) (by kernel_rfl) (by kernel_rfl) (by kernel_rfl) (by decide +kernel) (by kernel_rfl) (by kernel_rfl) (by kernel_rfl) (by kernel_rfl) h
theorem hf_law_drawn (P : Params) : (H1 P).get? 670 = some (o670 P) := by kernel_rfl
theorem hd_law_drawn (P : Params) : (o670 P).data = .func (fd (st 96) "_law_drawn" .none (.str "law_sj0202_01" 1190) (.ref 669)) := by kernel_rfl
theorem c_law_drawn {x0 x1 : Value} (K : KB w B) (rm : Rm A (d + 1))
  (h : ∀ L env A', Ev env (["box", "deep", "kind", "told"] : List Str) (["_law_take", "_law_leaf", "_law_drawn", "str"] : List Str) [] L → Rm A' d → A'.guards = A.guards → W w A' (["box", "deep", "kind", "told"] : List Str) L (execs (dBody (st 96)) env) (fun fl B' vs' N' => Q (retOf fl) B' N') B [some x0, some x1, none, none] N) :
  Wc w A (.call (.ref 670) ⟨[x0, x1], []⟩) Q B N :=
 Wc_def2 (fo := o670 w.params) (co := o669 w.params) (fvs := codeFields (o669 w.params)) (qual := "_law_drawn") (pm := .str "law_sj0202_01" 1190) (c := 669) (ps := ["box", "deep"]) (rest := ["kind", "told"]) (tk := 1209) K rm (hf_law_drawn _) (hd_law_drawn _) (by kernel_rfl) (by kernel_rfl) (by kernel_rfl) (by decide +kernel) (by kernel_rfl) (by kernel_rfl) (by kernel_rfl) (by kernel_rfl) h
theorem hf_law_node (P : Params) : (H1 P).get? 677 = some (o677 P) := by kernel_rfl
theorem hd_law_node (P : Params) : (o677 P).data = .func (fd (st 97) "_law_node" .none (.str "law_sj0202_01" 1190) (.ref 676)) := by kernel_rfl
theorem c_law_node {x0 : Value} (K : KB w B) (rm : Rm A (d + 1))
  (h : ∀ L env A', Ev env (["part", "number", "kind", "told", "inner"] : List Str) (["_law_node", "NameRef"] : List Str) [] L → Rm A' d → A'.guards = A.guards → W w A' (["part", "number", "kind", "told", "inner"] : List Str) L (execs (dBody (st 97)) env) (fun fl B' vs' N' => Q (retOf fl) B' N') B [some x0, none, none, none, none] N) :
  Wc w A (.call (.ref 677) ⟨[x0], []⟩) Q B N :=
 Wc_def2 (fo := o677 w.params) (co := o676 w.params) (fvs := codeFields (o676 w.params)) (qual := "_law_node") (pm := .str "law_sj0202_01" 1190) (c := 676) (ps := ["part"]) (rest := ["number", "kind", "told", "inner"]) (tk := 1219) K rm (hf_law_node _) (hd_law_node _) (by kernel_rfl) (by kernel_rfl) (by kernel_rfl) (by decide +kernel) (by kernel_rfl) (by kernel_rfl) (by kernel_rfl) (by kernel_rfl) h
theorem hf_law_is_even (P : Params) : (H1 P).get? 684 = some (o684 P) := by kernel_rfl
theorem hd_law_is_even (P : Params) : (o684 P).data = .func (fd (st 98) "_law_is_even" .none (.str "law_sj0202_01" 1190) (.ref 683)) := by kernel_rfl
theorem c_law_is_even {x0 : Value} (K : KB w B) (rm : Rm A (d + 1))
  (h : ∀ L env A', Ev env (["text", "level", "sign"] : List Str) ([] : List Str) [] L → Rm A' d → A'.guards = A.guards → W w A' (["text", "level", "sign"] : List Str) L (execs (dBody (st 98)) env) (fun fl B' vs' N' => Q (retOf fl) B' N') B [some x0, none, none] N) :
  Wc w A (.call (.ref 684) ⟨[x0], []⟩) Q B N :=
 Wc_def2 (fo := o684 w.params) (co := o683 w.params) (fvs := codeFields (o683 w.params)) (qual := "_law_is_even") (pm := .str "law_sj0202_01" 1190) (c := 683) (ps := ["text"]) (rest := ["level", "sign"]) (tk := 1230) K rm (hf_law_is_even _) (hd_law_is_even _) (by kernel_rfl) (by kernel_rfl) (by kernel_rfl) (by decide +kernel) (by kernel_rfl) (by kernel_rfl) (by kernel_rfl) (by kernel_rfl) h
theorem hf_law_rounds (P : Params) : (H1 P).get? 696 = some (o696 P) := by kernel_rfl
theorem hd_law_rounds (P : Params) : (o696 P).data = .func (fd (st 100) "_law_rounds" .none (.str "law_sj0202_01" 1190) (.ref 695)) := by kernel_rfl
theorem c_law_rounds {x0 x1 x2 : Value} (K : KB w B) (rm : Rm A (d + 1))
  (h : ∀ L env A', Ev env (["part", "subject", "at", "found", "row"] : List Str) (["_law_told", "_law_rounds"] : List Str) [] L → Rm A' d → A'.guards = A.guards → W w A' (["part", "subject", "at", "found", "row"] : List Str) L (execs (dBody (st 100)) env) (fun fl B' vs' N' => Q (retOf fl) B' N') B [some x0, some x1, some x2, none, none] N) :
  Wc w A (.call (.ref 696) ⟨[x0, x1, x2], []⟩) Q B N :=
 Wc_def2 (fo := o696 w.params) (co := o695 w.params) (fvs := codeFields (o695 w.params)) (qual := "_law_rounds") (pm := .str "law_sj0202_01" 1190) (c := 695) (ps := ["part", "subject", "at"]) (rest := ["found", "row"]) (tk := 1245) K rm (hf_law_rounds _) (hd_law_rounds _) (by kernel_rfl) (by kernel_rfl) (by kernel_rfl) (by decide +kernel) (by kernel_rfl) (by kernel_rfl) (by kernel_rfl) (by kernel_rfl) h
theorem hf_law_told (P : Params) : (H1 P).get? 701 = some (o701 P) := by kernel_rfl
theorem hd_law_told (P : Params) : (o701 P).data = .func (fd (st 101) "_law_told" .none (.str "law_sj0202_01" 1190) (.ref 700)) := by kernel_rfl
theorem c_law_told {x0 x1 x2 : Value} (K : KB w B) (rm : Rm A (d + 1))
  (h : ∀ L env A', Ev env (["part", "subject", "at", "number", "kind", "told", "found", "row", "done"] : List Str) (["_law_told", "_law_rounds", "_law_leaf_ends"] : List Str) [] L → Rm A' d → A'.guards = A.guards → W w A' (["part", "subject", "at", "number", "kind", "told", "found", "row", "done"] : List Str) L (execs (dBody (st 101)) env) (fun fl B' vs' N' => Q (retOf fl) B' N') B [some x0, some x1, some x2, none, none, none, none, none, none] N) :
  Wc w A (.call (.ref 701) ⟨[x0, x1, x2], []⟩) Q B N :=
 Wc_def2 (fo := o701 w.params) (co := o700 w.params) (fvs := codeFields (o700 w.params)) (qual := "_law_told") (pm := .str "law_sj0202_01" 1190) (c := 700) (ps := ["part", "subject", "at"]) (rest := ["number", "kind", "told", "found", "row", "done"]) (tk := 1256) K rm (hf_law_told _) (hd_law_told _) (by kernel_rfl) (by kernel_rfl) (by kernel_rfl) (by decide +kernel) (by kernel_rfl) (by kernel_rfl) (by kernel_rfl) (by kernel_rfl) h
end
end
section
open PySem PySem.W PyProof.Rows PySem.Calls PySem.Spec
inductive Up (a : Addr) (sl sl' : Slot) : Nm → Nm → Prop
 | here {r} : Up a sl sl' ((a, sl) :: r) ((a, sl') :: r)
 | there {p r r'} : Up a sl sl' r r' → Up a sl sl' (p :: r) (p :: r')
 | seg {q r r'} : Up a sl sl' r r' → Up a sl sl' (q ++ r) (q ++ r')
theorem Up.split {a : Addr} {sl sl' : Slot} {N N' : Nm} (u : Up a sl sl' N N') : ∃ pre post, N = pre ++ (a, sl) :: post ∧ N' = pre ++ (a, sl') :: post := by
 induction u with
 | here => exact ⟨[], _, rfl, rfl⟩
 | @there p _ _ _ ih => obtain ⟨x, y, e1, e2⟩ := ih; exact ⟨p :: x, y, by rw [e1]; rfl, by rw [e2]; rfl⟩
 | @seg q _ _ _ ih => obtain ⟨x, y, e1, e2⟩ := ih; exact ⟨q ++ x, y, by rw [e1, List.append_assoc], by rw [e2, List.append_assoc]⟩
theorem Up.mem {a : Addr} {sl sl' : Slot} {N N' : Nm} (u : Up a sl sl' N N') : (a, sl) ∈ N := by
 obtain ⟨x, y, e1, e2⟩ := u.split; rw [e1]; simp
section
variable {α β : Type} {w : World} {A : Around} {ns gs : List Str} {cl : List (Str × Addr)} {L : Addr} {B : Bm} {vs : Vs} {N N' : Nm} {env : Env}
theorem Fm.upd {h h' : Heap} {a : Addr} {sl sl' : Slot} (F : Fm w ns L B vs N h) (u : Up a sl sl' N N') (hs : Heap.SameBut a h h') (hh : sl'.holds w h' a) : Fm w ns L B vs N' h' := by
 obtain ⟨pre, post, rfl, rfl⟩ := u.split
 have hm := F.led (a, sl) (by simp)
 have nd := F.nd
 rw [List.map_append, List.map_cons, List.nodup_append, List.nodup_cons] at nd
 have ne : ∀ p, p ∈ pre ∨ p ∈ post → p.1 ≠ a := fun p hp e => by
  rcases hp with hp | hp
  ·exact nd.2.2 _ (List.mem_map_of_mem hp) a (.head _) e
  ·exact nd.2.1.1 (List.mem_map.mpr ⟨p, hp, e⟩)
 refine ⟨F.loc.sameBut hs (Ne.symm hm.2.2), fun b o e => (F.keep b o e).keeps (hs.2 b fun q => ?_), fun p hp => ?_, ?_, F.out⟩
 ·rw [q, hm.2.1] at e; cases e
 ·rcases List.mem_append.mp hp with q | q
  ·exact ⟨(F.led p (List.mem_append_left _ q)).1.keeps (hs.2 _ (ne p (.inl q))), (F.led p (List.mem_append_left _ q)).2⟩
  ·rcases List.mem_cons.mp q with rfl | q
   ·exact ⟨hh, hm.2⟩
   ·exact ⟨(F.led p (List.mem_append_right _ (.tail _ q))).1.keeps (hs.2 _ (ne p (.inr q))), (F.led p (List.mem_append_right _ (.tail _ q))).2⟩
 ·have := F.nd
  rw [List.map_append, List.map_cons] at this ⊢
  exact this
theorem Fx.upd {s s' : Shared} {a : Addr} {sl sl' : Slot} {Lo : Option Addr} (u : Up a sl sl' N N') (hs : Heap.SameBut a s.heap s'.heap) (hg : s'.gens = s.gens) (hd : s'.drawn = s.drawn) (ho : s'.os = s.os) : Fx Lo B N s B N' s' := by
 obtain ⟨pre, post, rfl, rfl⟩ := u.split
 refine ⟨fun b o e hn hl => ⟨(hs.2 b fun q => hn (a, sl) (by simp) q.symm).trans e, fun p hp => ?_, rfl⟩, fun _ _ e => e, hg, hd, ho⟩
 rcases List.mem_append.mp hp with q | q
 ·exact hn p (List.mem_append_left _ q)
 ·rcases List.mem_cons.mp q with rfl | q
  ·exact hn (a, sl) (by simp)
  ·exact hn p (List.mem_append_right _ (.tail _ q))
theorem Pv.cnt {xs : List Str} {us us' : Vs} {x : Str} {v : Value} (h : Pv xs us x v us') : SJ.cnt us ≤ SJ.cnt us' ∧ SJ.cnt us' ≤ SJ.cnt us + 1 := by
 induction h with
 | @here _ _ u => cases u <;> simp [cnt.k2, cnt.k3]
 | @there _ _ u _ _ _ _ _ ih => cases u <;> simp only [cnt.k2, cnt.k3] <;> lia
theorem Pv.cnt_new {xs : List Str} {us us' : Vs} {x : Str} {v : Value} (nd : xs.Nodup) (h : Pv xs us x v us') (hn : SJ.look xs us x = none) : SJ.cnt us' = SJ.cnt us + 1 := by
 induction h with
 | @here _ _ u =>
  simp only [look_cons, if_true] at hn
  subst hn; simp [cnt.k2, cnt.k3]
 | @there y _ u _ x _ _ h ih =>
  obtain ⟨n1, n2⟩ := List.nodup_cons.mp nd
  have : ¬ x = y := fun e => n1 (by subst e; exact h.mem)
  simp only [look_cons, this, if_false] at hn
  have := ih n2 hn
  cases u <;> simp only [cnt.k2, cnt.k3] <;> lia
theorem att_put {xs : List Str} {us us' : Vs} {x : Str} {v : Value} {es : Array DictEntry} {n : Nat} {hh : Int} {t : Tok} (nd : xs.Nodup) (hp : Pv xs us x v us') (sk : StrKeys es) (sz : es.size ≤ SJ.cnt us) (fd : ∀ y, nsFind es y = look xs us y) :
  ∃ es' n', Obj.putName x hh (.str x t) v ⟨.type "dict", none, .dict es n, #[]⟩ = ⟨.type "dict", none, .dict es' n', #[]⟩ ∧ StrKeys es' ∧ es'.size ≤ SJ.cnt us' ∧ ∀ y, nsFind es' y = look xs us' y := by
 have hc := hp.cnt
 rw [Obj.putName_eq]
 unfold Obj.putNameByArray
 cases q : es.findIdx? (·.key.isStr x) with
 | some i =>
  dsimp only
  rw [q]
  refine ⟨_, _, rfl, sk.modify i v, by rw [Array.size_modify]; lia, fun y => ?_⟩
  rw [hp.look nd]
  show _ = if y = x then some v else look xs us y
  rw [← fd y]
  exact findBy_modify (fun k v => v.isStr k) (fun v a b ha hb => Value.isStr_inj v a b ha hb) es x y v i q
 | none =>
  dsimp only
  rw [q]
  refine ⟨_, _, rfl, sk.push _ _ _ _, ?_, fun y => ?_⟩
  ·rw [Array.size_push]
   have : nsFind es x = none := by unfold nsFind; rw [findBy_of_findIdx?, q]
   rw [hp.cnt_new nd (by rw [← fd x]; exact this)]; lia
  ·rw [hp.look nd]
   show _ = if y = x then some v else look xs us y
   rw [← fd y]
   exact findBy_push (fun k v => v.isStr k) es x y hh (.str x t) v (fun z => by show (x == z) = decide (z = x); rw [Bool.eq_iff_iff, beq_iff_eq, decide_eq_true_iff]; exact eq_comm) q
theorem look_of_ns {es : Array DictEntry} {n : Nat} {x : Str} {v : Value} (h : nsFind es x = some v) : lookIn x ⟨.type "dict", none, .dict es n, #[]⟩ = some (some v) := by
 unfold lookIn
 unfold nsFind findBy at h
 rw [← Array.find?_toList] at h
 dsimp only
 cases q : es.toList.find? (·.key.isStr x) with
 | some e => rw [q] at h; simp at h; simp [h]
 | none => rw [q] at h; cases h
theorem look_none_of_ns {es : Array DictEntry} {n : Nat} {x : Str} (sk : StrKeys es) (h : nsFind es x = none) : lookIn x ⟨.type "dict", none, .dict es n, #[]⟩ = some none := by
 unfold lookIn
 unfold nsFind findBy at h
 rw [← Array.find?_toList] at h
 dsimp only
 cases q : es.toList.find? (·.key.isStr x) with
 | some e => rw [q] at h; cases h
 | none =>
  have : es.toList.any (·.refKey) = false := by
   rw [List.any_eq_false]
   intro e he
   obtain ⟨n, t, hk⟩ := sk e (Array.mem_toList_iff.mp he)
   simp [DictEntry.refKey, hk]
  simp [this]
end
end
section
open PySem PySem.W PyProof.Rows PySem.Calls PySem.Spec
noncomputable def Kf (P : Params) : Frag := [(2, o2_3 P), (3, o3_14 P), (94, o94 P), (93, o93 P), (51, o51 P), (58, o58 P), (65, o65 P), (70, o70 P), (77, o77 P), (84, o84 P), (91, o91 P), (208, o208 P), (207, o207 P), (205, o205 P), (449, o449 P), (448, o448 P), (439, o439 P), (446, o446 P), (526, o526 P), (525, o525 P), (467, o467 P), (474, o474 P), (481, o481 P), (488, o488 P), (495, o495 P), (502, o502 P), (509, o509 P), (516, o516 P), (523, o523 P), (589, o589 P), (588, o588 P), (565, o565 P), (572, o572 P), (579, o579 P), (586, o586 P)]
theorem kf_in (P : Params) : (Kf P).In (H1 P) := Frag.in_of (as := [2, 3, 94, 93, 51, 58, 65, 70, 77, 84, 91, 208, 207, 205, 449, 448, 439, 446, 526, 525, 467, 474, 481, 488, 495, 502, 509, 516, 523, 589, 588, 565, 572, 579, 586]) (by kernel_rfl) (by kernel_rfl)
theorem KB.kin {w : World} {B : Bm} {h : Heap} (K : KB w B) (k : ∀ a o, B a = some o → o.holds w h a) : (Kf w.params).In h := fun a o e => k a _ (K.own a o (kf_in _ a o e))
structure Pc (P : Params) (C : Addr) : Prop where
 get : plainGet (Kf P) C "x" = true
 dict : hasDictIn (Kf P) C = true
 sa : findIn (Kf P) (.ref C) "__setattr__" = some (some (.builtin "object.__setattr__"))
 over : plainOver (Kf P) C = true
noncomputable def Fd (P : Params) (C : Addr) (x : Str) : Prop := findIn (Kf P) (.ref C) x = some none
noncomputable def Md (P : Params) (C : Addr) (x : Str) (f : Addr) : Prop := findIn (Kf P) (.ref C) x = some (some (.ref f)) ∧ typeIn (Kf P) (.ref f) = some (.type "function")
theorem pc_PatternCode (P : Params) : Pc P 94 := ⟨by kernel_rfl, by kernel_rfl, by kernel_rfl, by kernel_rfl⟩
theorem fd_PatternCode_orders (P : Params) : Fd P 94 "orders" := by unfold Fd; kernel_rfl
theorem md_PatternCode_init (P : Params) : Md P 94 "__init__" 51 := ⟨by kernel_rfl, by kernel_rfl⟩
theorem md_PatternCode_emit (P : Params) : Md P 94 "emit" 58 := ⟨by kernel_rfl, by kernel_rfl⟩
theorem md_PatternCode_put (P : Params) : Md P 94 "put" 65 := ⟨by kernel_rfl, by kernel_rfl⟩
theorem md_PatternCode_begun (P : Params) : Md P 94 "begun" 70 := ⟨by kernel_rfl, by kernel_rfl⟩
theorem md_PatternCode_choice (P : Params) : Md P 94 "choice" 77 := ⟨by kernel_rfl, by kernel_rfl⟩
theorem md_PatternCode_repeat (P : Params) : Md P 94 "repeat" 84 := ⟨by kernel_rfl, by kernel_rfl⟩
theorem md_PatternCode_bound (P : Params) : Md P 94 "bound" 91 := ⟨by kernel_rfl, by kernel_rfl⟩
theorem mk_PatternCode (P : Params) : makesIn (Kf P) 94 = true := by kernel_rfl
theorem pc_NameRef (P : Params) : Pc P 208 := ⟨by kernel_rfl, by kernel_rfl, by kernel_rfl, by kernel_rfl⟩
theorem fd_NameRef_kind (P : Params) : Fd P 208 "kind" := by unfold Fd; kernel_rfl
theorem fd_NameRef_owner (P : Params) : Fd P 208 "owner" := by unfold Fd; kernel_rfl
theorem fd_NameRef_key (P : Params) : Fd P 208 "key" := by unfold Fd; kernel_rfl
theorem md_NameRef_init (P : Params) : Md P 208 "__init__" 205 := ⟨by kernel_rfl, by kernel_rfl⟩
theorem mk_NameRef (P : Params) : makesIn (Kf P) 208 = true := by kernel_rfl
theorem pc_Way (P : Params) : Pc P 449 := ⟨by kernel_rfl, by kernel_rfl, by kernel_rfl, by kernel_rfl⟩
theorem fd_Way_orders (P : Params) : Fd P 449 "orders" := by unfold Fd; kernel_rfl
theorem fd_Way_pc (P : Params) : Fd P 449 "pc" := by unfold Fd; kernel_rfl
theorem fd_Way_at (P : Params) : Fd P 449 "at" := by unfold Fd; kernel_rfl
theorem fd_Way_named (P : Params) : Fd P 449 "named" := by unfold Fd; kernel_rfl
theorem fd_Way_marks (P : Params) : Fd P 449 "marks" := by unfold Fd; kernel_rfl
theorem fd_Way_calls (P : Params) : Fd P 449 "calls" := by unfold Fd; kernel_rfl
theorem md_Way_init (P : Params) : Md P 449 "__init__" 439 := ⟨by kernel_rfl, by kernel_rfl⟩
theorem md_Way_copied (P : Params) : Md P 449 "copied" 446 := ⟨by kernel_rfl, by kernel_rfl⟩
theorem mk_Way (P : Params) : makesIn (Kf P) 449 = true := by kernel_rfl
theorem pc_Match (P : Params) : Pc P 526 := ⟨by kernel_rfl, by kernel_rfl, by kernel_rfl, by kernel_rfl⟩
theorem fd_Match_subject (P : Params) : Fd P 526 "subject" := by unfold Fd; kernel_rfl
theorem fd_Match_host (P : Params) : Fd P 526 "host" := by unfold Fd; kernel_rfl
theorem fd_Match_history (P : Params) : Fd P 526 "history" := by unfold Fd; kernel_rfl
theorem md_Match_init (P : Params) : Md P 526 "__init__" 467 := ⟨by kernel_rfl, by kernel_rfl⟩
theorem md_Match_run (P : Params) : Md P 526 "run" 474 := ⟨by kernel_rfl, by kernel_rfl⟩
theorem md_Match_way_back (P : Params) : Md P 526 "way_back" 481 := ⟨by kernel_rfl, by kernel_rfl⟩
theorem md_Match_done (P : Params) : Md P 526 "done" 488 := ⟨by kernel_rfl, by kernel_rfl⟩
theorem md_Match_met_once (P : Params) : Md P 526 "met_once" 495 := ⟨by kernel_rfl, by kernel_rfl⟩
theorem md_Match_ended (P : Params) : Md P 526 "ended" 502 := ⟨by kernel_rfl, by kernel_rfl⟩
theorem md_Match_other (P : Params) : Md P 526 "other" 509 := ⟨by kernel_rfl, by kernel_rfl⟩
theorem md_Match_met_often (P : Params) : Md P 526 "met_often" 516 := ⟨by kernel_rfl, by kernel_rfl⟩
theorem md_Match_asked (P : Params) : Md P 526 "asked" 523 := ⟨by kernel_rfl, by kernel_rfl⟩
theorem mk_Match (P : Params) : makesIn (Kf P) 526 = true := by kernel_rfl
theorem pc_PlainHost (P : Params) : Pc P 589 := ⟨by kernel_rfl, by kernel_rfl, by kernel_rfl, by kernel_rfl⟩
theorem fd_PlainHost_values (P : Params) : Fd P 589 "values" := by unfold Fd; kernel_rfl
theorem fd_PlainHost_limit (P : Params) : Fd P 589 "limit" := by unfold Fd; kernel_rfl
theorem fd_PlainHost_refused (P : Params) : Fd P 589 "refused" := by unfold Fd; kernel_rfl
theorem fd_PlainHost_width (P : Params) : Fd P 589 "width" := by unfold Fd; kernel_rfl
theorem fd_PlainHost_steps (P : Params) : Fd P 589 "steps" := by unfold Fd; kernel_rfl
theorem fd_PlainHost_log (P : Params) : Fd P 589 "log" := by unfold Fd; kernel_rfl
theorem md_PlainHost_init (P : Params) : Md P 589 "__init__" 565 := ⟨by kernel_rfl, by kernel_rfl⟩
theorem md_PlainHost_value_of (P : Params) : Md P 589 "value_of" 572 := ⟨by kernel_rfl, by kernel_rfl⟩
theorem md_PlainHost_assign (P : Params) : Md P 589 "assign" 579 := ⟨by kernel_rfl, by kernel_rfl⟩
theorem md_PlainHost_step (P : Params) : Md P 589 "step" 586 := ⟨by kernel_rfl, by kernel_rfl⟩
theorem mk_PlainHost (P : Params) : makesIn (Kf P) 589 = true := by kernel_rfl
end
section
open PySem PySem.W PyProof.Rows PySem.Calls PySem.Spec
section
variable {α β : Type} {w : World} {A : Around} {ns gs : List Str} {cl : List (Str × Addr)} {L : Addr} {B : Bm} {vs : Vs} {N N' : Nm} {env : Env}
theorem instAt_of {h : Heap} {x C dx : Addr} {es : Array DictEntry} {n : Nat} (hx : h.get? x = some ⟨.ref C, some dx, .plain, #[]⟩) (hd : h.get? dx = some ⟨.type "dict", none, .dict es n, #[]⟩) :
  InstAt h x ⟨.ref C, some dx, .plain, #[]⟩ C (some ⟨.type "dict", none, .dict es n, #[]⟩) := ⟨hx, rfl, rfl, hd⟩
theorem W_Attr {value : Expr} {attr : Str} {pos : Pos} {Q : Value → Bm → Vs → Nm → Prop} (h : W w A ns L (eval value env) (fun o => W w A ns L (getAttr o attr true) Q) B vs N)
  (he : eval (.Attribute value attr pos) env = (do
   let o ← eval value env
   standAt pos.atName
   let r ← holding [o] (getAttr o attr true)
   letTemporaryGo value o r
   pure r) := by with_unfolding_all rfl) : W w A ns L (eval (.Attribute value attr pos) env) Q B vs N :=
 .mk fun s F K c => Attribute_any_ (h.run s F _ fun v s1 B1 vs1 N1 F1 X1 q => q.run s1 F1 _ fun b s2 B2 vs2 N2 F2 X2 q => c _ s2 _ _ _ F2 (X1.trans X2) q) he
theorem W_getA {x C dx : Addr} {xs : List Str} {us : Vs} {name : Str} {v : Value} {b : Bool} {Q : Value → Bm → Vs → Nm → Prop} (K : KB w B) (pc : Pc w.params C) (fd : Fd w.params C name) (r : Rd B N x (.inst C dx)) (rd : Rd B N dx (.att xs us))
  (hv : look xs us name = some v) (hh : handedIn v = true) (q : Q v B vs N) : W w A ns L (getAttr (.ref x) name b) Q B vs N :=
 W_readT (r := fun _ => v) (fun s F c k => by
  obtain ⟨es, n, hd, sk, _, hf⟩ := rd.holds F
  exact get_value (K.kin F.keep) (instAt_of (r.holds F) hd) (plainGet_of pc.get).1 (findObj_own pc.dict fd rfl (look_of_ns ((hf name).trans hv))) hh (k 0 _)) fun _ => q
theorem taker_of {P : Params} {C : Addr} {x : Str} (fd : Fd P C x) : takerIn (Kf P) C x = some none := by unfold takerIn; rw [show findIn (Kf P) (.ref C) x = some none from fd]; rfl
theorem W_setA {x C dx : Addr} {xs : List Str} {us us' : Vs} {name : Str} {v : Value} {Q : Unit → Bm → Vs → Nm → Prop} (K : KB w B) (pc : Pc w.params C) (fd : Fd w.params C name) (r : Rd B N x (.inst C dx)) (u : Up dx (.att xs us) (.att xs us') N N')
  (hv : Pv xs us name v us') (nd : xs.Nodup) (hz : cnt us' ≤ 1000) (q : Q () B vs N') : W w A ns L (setAttr (.ref x) name v) Q B vs N :=
 .mk fun s F c k => by
  obtain ⟨hh, g, d, tk, os⟩ := s
  have X := K.kin F.keep
  have hx := r.holds F
  obtain ⟨es, n, hd, sk, sz, hf⟩ := (F.led _ u.mem).1
  obtain ⟨es', n', e, sk', sz', hf'⟩ := att_put (hh := PyData.keyHash w.params name) (t := tk + 1) (n := n) nd hv sk sz hf
  refine set_plain X (instAt_of hx hd) pc.sa (osa_open (s := ⟨hh, g, d, tk + 1, os⟩) X (instAt_of hx hd) pc.over (taker_of fd) fun b => ?_)
  obtain ⟨cd, hc, hd'⟩ := any_some pc.dict
  refine wpAny_bind (wpAny_pure (wpAny_bind (wpAny_bind (wpAny_loadPart hx (wpAny_bind (looks_clsIn X hc _ _ _ _ (fun _ _ e => e) ?_))))))
  rw [hd']
  refine wpAny_pure (a := some dx) (wpAny_bind (wpAny_pure (wpAny_bind ?_)))
  unfold nsSet
  refine wpAny_bind (wpAny_bind (wpAny_askSetting (wpAny_pure (wpAny_bind (wpAny_mkText (wpAny_bind (wpAny_loadPart hd ?_)))))))
  dsimp only
  have cc : (!es.any (·.key.isStr name) && es.any (·.refKey)) = false := by
   have : es.any (·.refKey) = false := by
    rw [Array.any_eq_false']; intro e he; obtain ⟨n, t, h⟩ := sk e he; simp [DictEntry.refKey, h]
   rw [this, Bool.and_false]
  rw [aRefKeyMayBeTheName_at, cc]
  refine wpAny_updatePart hd ?_
  have hg : (hh.update dx (Obj.putName name (PyData.keyHash w.params name) (.str name (tk + 1)) v)).get? dx = some ⟨.type "dict", none, .dict es' n', #[]⟩ := by
   rw [← e]; exact Heap.get?_update_self _ hd (by rw [e]; rfl)
  refine wpAny_bind (wpAny_lookBehind hg (pastItsLine_dict (by rw [sizeLine_eq]; lia)) ?_)
  refine wpAny_pure ?_
  exact k _ _ _ _ _ (F.upd u (Heap.SameBut.update ..) ⟨es', n', hg, sk', sz', hf'⟩) (Fx.upd u (Heap.SameBut.update ..) rfl rfl rfl) q
theorem W_AssignA {o value : Expr} {attr : Str} {pos pos' : Pos} {Q : Flow → Bm → Vs → Nm → Prop}
  (h : W w A ns L (eval value env) (fun v => W w A ns L (eval o env) (fun ov => W w A ns L (setAttr ov attr v) (fun _ => Q .next))) B vs N)
  (hs : swapsWith value (some (.Attribute o attr pos')) pos.line env = pure false := by with_unfolding_all rfl) : W w A ns L (exec (.Assign [.Attribute o attr pos'] value pos) env) Q B vs N :=
 .mk fun s F K c => plainObj_wpAny_Assign_Attribute (h.run s F _ fun v s1 B1 vs1 N1 F1 X1 q => q.run s1 F1 _ fun b s2 B2 vs2 N2 F2 X2 q => q.run s2 F2 _ fun _ s3 B3 vs3 N3 F3 X3 q => c _ s3 _ _ _ F3 (X1.trans (X2.trans X3)) q) hs
theorem W_AugA {o value : Expr} {attr : Str} {tpos pos : Pos} {op : Operator} {Q : Flow → Bm → Vs → Nm → Prop}
  (h : W w A ns L (eval o env) (fun ov => W w A ns L (getAttr ov attr true) (fun old => W w A ns L (eval value env) (fun v => W w A ns L (inplaceOp op old v) (fun new => W w A ns L (setAttr ov attr new) (fun _ => Q .next))))) B vs N) :
  W w A ns L (exec (.AugAssign (.Attribute o attr tpos) op value pos) env) Q B vs N :=
 .mk fun s F K c => wpAny_AugAssign_AttributeAny (h.run s F _ fun v s1 B1 vs1 N1 F1 X1 q => q.run s1 F1 _ fun b s2 B2 vs2 N2 F2 X2 q => q.run s2 F2 _ fun _ s3 B3 vs3 N3 F3 X3 q => q.run s3 F3 _ fun _ s4 B4 vs4 N4 F4 X4 q => q.run s4 F4 _ fun _ s5 B5 vs5 N5 F5 X5 q => c _ s5 _ _ _ F5 (X1.trans (X2.trans (X3.trans (X4.trans X5)))) q)
end
end
section
open PySem PySem.W PyProof.Rows PySem.Calls PySem.Spec
section
variable {α β : Type} {w : World} {A : Around} {ns gs : List Str} {cl : List (Str × Addr)} {L : Addr} {B : Bm} {vs : Vs} {N N' : Nm} {env : Env}
theorem W_Call {func : Expr} {args : List Expr} {pos : Pos} {Q : Value → Bm → Vs → Nm → Prop} (h : W w A ns L (eval func env) (fun f => W w A ns L (callWith pos f [] (backTo pos (starEach args env)) []) Q) B vs N)
  (he : eval (.Call func args [] pos) env = (do callWith pos (← eval func env) [] (backTo pos (starEach args env)) (backToKw pos (keywordEach [] env))) := by with_unfolding_all rfl) : W w A ns L (eval (.Call func args [] pos) env) Q B vs N :=
 .mk fun s F K c => PyProof.Rows.Call_ (h.run s F _ fun v s1 B1 vs1 N1 F1 X1 q => q.run s1 F1 _ fun b s2 B2 vs2 N2 F2 X2 q => c _ s2 _ _ _ F2 (X1.trans X2) q) he
theorem W_Meth {o : Expr} {name : Str} {apos pos : Pos} {args : List Expr} {pl : Sem Bool} {Q : Value → Bm → Vs → Nm → Prop}
  (h : W w A ns L (eval o env) (fun ov => W w A ns L (getMethod ov name pl) (fun fx => W w A ns L (callWith pos fx.1 fx.2 (backTo pos (starEach args env)) []) Q)) B vs N)
  (he : eval (.Call (.Attribute o name apos) args [] pos) env = (do
   let ov ← eval o env
   standAt apos.atName
   let (f, first) ← holding [ov] (getMethod ov name pl)
   callWith pos f first (backTo pos (starEach args env)) (backToKw pos (keywordEach [] env))) := by with_unfolding_all rfl) : W w A ns L (eval (.Call (.Attribute o name apos) args [] pos) env) Q B vs N :=
 .mk fun s F K c => methodCall_KW (h.run s F _ fun v s1 B1 vs1 N1 F1 X1 q => q.run s1 F1 _ fun b s2 B2 vs2 N2 F2 X2 q => q.run s2 F2 _ fun b s3 B3 vs3 N3 F3 X3 q => c _ s3 _ _ _ F3 (X1.trans (X2.trans X3)) q) he
noncomputable def Fn (P : Params) (f : Addr) : Prop := ∃ o fd, (H1 P).get? f = some o ∧ o.data = .func fd
theorem keeps_fn {P : Params} {f : Addr} (hf : Fn P f) (M : Model) : ∃ o, (H1 P).get? f = some o ∧ ∀ h : Heap, h.get? f = some o → ∃ k, (k = Keeper.frame ∨ k = Keeper.machine ∨ k = Keeper.boundFrame) ∧ Looks M h (keeperOf (.ref f)) k := by
 obtain ⟨⟨oc, od, dt, sl⟩, fd, ho, hd⟩ := hf
 dsimp only at hd; subst hd
 exact ⟨_, ho, fun h e => ⟨.frame, .inl rfl, (Looks.ld (part := none) e).andThen .now⟩⟩
theorem W_cwFn {f : Addr} {pos : Pos} {first : List Value} {e : Expr} {rest : List Expr} {Q : Value → Bm → Vs → Nm → Prop} (K : KB w B) (hf : Fn w.params f)
  (h : W w A ns L (spliced (backTo pos (starEach (e :: rest) env))) (fun xs => W w A ns L (call (.ref f) (first ++ xs)) Q) B vs N)
  (he : starEach (e :: rest) env = (false, eval e env) :: starEach rest env := by with_unfolding_all rfl) (hplain : (backTo pos (starEach rest env)).any (·.1) = false := by with_unfolding_all rfl) :
  W w A ns L (callWith pos (.ref f) first (backTo pos (starEach (e :: rest) env)) []) Q B vs N :=
 .mk fun s F k c => by
  obtain ⟨o, ho, hk⟩ := keeps_fn hf (Mo w)
  rw [he] at h ⊢
  refine callWith_of (P := fun h => h.get? f = some o) (by show ((false || (backTo pos (starEach rest env)).any (·.1)) || false) = false; rw [hplain]; rfl) hk (evalArgs_plain (h.run s F _ fun xs s1 B1 vs1 N1 F1 X1 q => ⟨F1.keep _ _ (X1.le _ _ (K.own _ _ ho)), q.run s1 F1 _ fun v s2 B2 vs2 N2 F2 X2 q => c _ _ _ _ _ F2 (X1.trans X2) q⟩))
theorem W_cwFn0 {f : Addr} {pos : Pos} {first : List Value} {Q : Value → Bm → Vs → Nm → Prop} (K : KB w B) (hf : Fn w.params f)
  (h : W w A ns L (call (.ref f) (first ++ [])) Q B vs N) : W w A ns L (callWith pos (.ref f) first (backTo pos (starEach [] env)) []) Q B vs N :=
 .mk fun s F k c => by
  obtain ⟨o, ho, hk⟩ := keeps_fn hf (Mo w)
  exact callWith_of (P := fun h => h.get? f = some o) rfl hk (evalArgs_nil3 ⟨F.keep _ _ (K.own _ _ ho), h.run s F _ c⟩)
theorem W_cwCls {C : Addr} {pos : Pos} {e : Expr} {rest : List Expr} {Q : Value → Bm → Vs → Nm → Prop} (K : KB w B) (hk : keepIn (Kf w.params) (.ref C) = true)
  (h : W w A ns L (spliced (backTo pos (starEach (e :: rest) env))) (fun xs => W w A ns L (call (.ref C) xs) Q) B vs N)
  (he : starEach (e :: rest) env = (false, eval e env) :: starEach rest env := by with_unfolding_all rfl) (hplain : (backTo pos (starEach rest env)).any (·.1) = false := by with_unfolding_all rfl) :
  W w A ns L (callWith pos (.ref C) [] (backTo pos (starEach (e :: rest) env)) []) Q B vs N :=
 .mk fun s F k c => by
  rw [he] at h ⊢
  refine callWith_of (P := fun h => (Kf w.params).In h) (by show ((false || (backTo pos (starEach rest env)).any (·.1)) || false) = false; rw [hplain]; rfl) (keeps_K hk) (evalArgs_plain (h.run s F _ fun xs s1 B1 vs1 N1 F1 X1 q => ⟨(K.mono X1.le).kin F1.keep, q.run s1 F1 _ fun v s2 B2 vs2 N2 F2 X2 q => c _ _ _ _ _ F2 (X1.trans X2) q⟩))
theorem W_cwCls0 {C : Addr} {pos : Pos} {Q : Value → Bm → Vs → Nm → Prop} (K : KB w B) (hk : keepIn (Kf w.params) (.ref C) = true)
  (h : W w A ns L (call (.ref C) []) Q B vs N) : W w A ns L (callWith pos (.ref C) [] (backTo pos (starEach [] env)) []) Q B vs N :=
 .mk fun s F k c => callWith_of (P := fun h => (Kf w.params).In h) rfl (keeps_K hk) (evalArgs_nil3 ⟨K.kin F.keep, h.run s F _ c⟩)
theorem F0.push {h : Heap} {a : Addr} {o : Obj} {sl : Slot} (F : F0 w B N h) (ha : a = h.objs.size) (hf : o.isFreed = false) (hh : ∀ h' : Heap, h'.get? a = some o → sl.holds w h' a) : F0 w B ((a, sl) :: N) (h.push o) := by
 have kp : ∀ b x, h.get? b = some x → (h.push o).get? b = some x := fun b x e => Heap.get?_push_of_some _ e
 have lt : ∀ b x, h.get? b = some x → b < h.objs.size := fun b x e => Heap.lt_size e
 have na : ∀ sl b, Slot.holds w h b sl → b ≠ a := fun sl b hb e => by
  obtain ⟨x, hx⟩ := hb.some
  have := lt _ _ hx
  subst e; subst ha
  exact absurd this (Nat.lt_irrefl _)
 have kh : ∀ sl b, Slot.holds w h b sl → Slot.holds w (h.push o) b sl := fun sl b hb => hb.keeps (by
  obtain ⟨x, hx⟩ := hb.some
  rw [hx]; exact kp _ _ hx)
 refine ⟨fun b x e => kh _ _ (F.keep b x e), fun p hp => ?_, ?_⟩
 ·rcases List.mem_cons.mp hp with rfl | hp
  ·refine ⟨hh _ (by subst ha; exact Heap.get?_push_size _ hf), ?_⟩
   cases e : B a with
   | none => rfl
   | some x => exact absurd rfl (na _ _ (F.keep _ _ e))
  ·exact ⟨kh _ _ (F.led p hp).1, (F.led p hp).2⟩
 ·rw [List.map_cons, List.nodup_cons]
  refine ⟨fun hm => ?_, F.nd⟩
  obtain ⟨p, hp, e⟩ := List.mem_map.mp hm
  exact na _ _ (F.led p hp).1 e
theorem Rm.under {d : Nat} (r : Rm A (d + 1)) (c : Code) (hw : c.weight ≤ 2) (hu : c.cUnits ≤ 20) : Rm (A.under c) d := by
 unfold Rm at *
 exact ⟨by show A.depth + c.weight + _ < _; lia, by show A.units + c.cUnits + _ < _; lia, r.2.2⟩
theorem Wc_make {C fI : Addr} {args : List Value} {xs : List Str} {d : Nat} {Q : Value → Bm → Nm → Prop} (K : KB w B) (rm : Rm A (d + 1)) (hm : makesIn (Kf w.params) C = true) (mi : Md w.params C "__init__" fI)
  (h : ∀ x dx A', Rm A' d → Wc w A' (.call (.ref fI) ⟨.ref x :: args, []⟩) (fun v B' N' => v = .none ∧ Q (.ref x) B' N') B ((x, .inst C dx) :: (dx, .att xs (xs.map fun _ => none)) :: N)) : Wc w A (.call (.ref C) ⟨args, []⟩) Q B N :=
 .mk fun s F => by
  obtain ⟨hh, g, dr, t, os⟩ := s
  have X := K.kin F.keep
  have lk : ∀ x, look xs (xs.map fun _ => none) x = none := look_none xs
  refine make_core (makes_of X hm) (looks_findIn X mi.1) (fun self => bind_fn X self mi.2) (.inl rfl) ?_
  have F1 := F.push (o := emptyDict) (sl := .att xs (xs.map fun _ => none)) rfl rfl (fun h' e => ⟨#[], 0, e, fun e he => by simp at he, Nat.zero_le _, fun x => by rw [lk]; rfl⟩)
  have F2 := F1.push (o := instObj C hh.objs.size) (sl := .inst C hh.objs.size) rfl rfl (fun h' e => e)
  rw [Heap.size_push] at F2
  refine codeAny_mono ((h (hh.objs.size + 1) hh.objs.size _ (rm.under _ (Nat.le_of_ble_eq_true (by kernel_rfl)) (Nat.le_of_ble_eq_true (by kernel_rfl)))).run ⟨(hh.push emptyDict).push (instObj C hh.objs.size), g, dr, t, os⟩ F2) fun r s' ⟨v, B', N', e, F', X', hv, q⟩ => ?_
  subst e
  refine ⟨hv, _, B', N', rfl, F', ?_, q⟩
  refine ⟨fun a o ha hn hl => ?_, X'.le, X'.gens, X'.drawn, X'.os⟩
  have hlt := Heap.lt_size ha
  exact X'.same a o (Heap.get?_push_of_some _ (Heap.get?_push_of_some _ ha)) (fun p hp => by
   rcases List.mem_cons.mp hp with rfl | hp
   ·exact Nat.ne_of_gt (Nat.lt_succ_of_lt hlt)
   ·rcases List.mem_cons.mp hp with rfl | hp
    ·exact Nat.ne_of_gt hlt
    ·exact hn p hp) hl
theorem W_gmInst {x C dx f : Addr} {xs : List Str} {us : Vs} {name : Str} {pl : Sem Bool} {Q : Value × List Value → Bm → Vs → Nm → Prop} (K : KB w B) (pc : Pc w.params C) (md : Md w.params C name f) (r : Rd B N x (.inst C dx)) (rd : Rd B N dx (.att xs us))
  (hv : look xs us name = none) (q : Q (.ref f, [.ref x]) B vs N) : W w A ns L (getMethod (.ref x) name pl) Q B vs N :=
 W_read (fun s F c k => by
  obtain ⟨es, n, hd, sk, _, hf⟩ := rd.holds F
  exact method_fn (K.kin F.keep) (instAt_of (r.holds F) hd) (plainGet_of pc.get).1 (plainGet_of pc.get).2 md.1 md.2 (by show (lookIn name _).map _ = _; rw [look_none_of_ns sk ((hf name).trans hv)]; rfl) k) q
theorem W_gmLst {l : Addr} {xs : List Value} {name : Str} {id : String} {pl : Sem Bool} {Q : Value × List Value → Bm → Vs → Nm → Prop} (r : Rd B N l (.lst xs)) (slot : PySem.Slot "list" name id) (hty : typeOf (.builtin id) = pure (.type "method_descriptor"))
  (q : Q (.builtin id, [.ref l]) B vs N) : W w A ns L (getMethod (.ref l) name pl) Q B vs N :=
 W_read (fun s F c k => by
  obtain ⟨n, hl⟩ := r.holds F
  exact getMethod_builtin ⟨_, hl, rfl⟩ PySem.F.plainAttrs_list slot hty (fun a e => by cases e; exact ⟨_, hl, rfl⟩) k) q
theorem W_gmStr {x : Str} {t : Tok} {name : Str} {id : String} {pl : Sem Bool} {Q : Value × List Value → Bm → Vs → Nm → Prop} (slot : PySem.Slot "str" name id) (hty : typeOf (.builtin id) = pure (.type "method_descriptor"))
  (q : Q (.builtin id, [.str x t]) B vs N) : W w A ns L (getMethod (.str x t) name pl) Q B vs N :=
 W_read (fun s F c k => getMethod_builtin (typeIs_str _ _ _) PySem.F.plainAttrs_str slot hty (fun a e => nomatch e) k) q
theorem W_cwB {id : String} {pos : Pos} {first : List Value} {e : Expr} {rest : List Expr} {Q : Value → Bm → Vs → Nm → Prop}
  (h : W w A ns L (spliced (backTo pos (starEach (e :: rest) env))) (fun xs => W w A ns L (call (.builtin id) (first ++ xs)) Q) B vs N)
  (he : starEach (e :: rest) env = (false, eval e env) :: starEach rest env := by with_unfolding_all rfl) (hplain : (backTo pos (starEach rest env)).any (·.1) = false := by with_unfolding_all rfl) :
  W w A ns L (callWith pos (.builtin id) first (backTo pos (starEach (e :: rest) env)) []) Q B vs N :=
 .mk fun s F k c => by
  rw [he] at h ⊢
  exact Calls.callWith_builtin (by show (false || (backTo pos (starEach rest env)).any (·.1)) = false; rw [hplain]; rfl) (evalArgs_plain (h.run s F _ fun xs s1 B1 vs1 N1 F1 X1 q => q.run s1 F1 _ fun v s2 B2 vs2 N2 F2 X2 q => c _ _ _ _ _ F2 (X1.trans X2) q))
theorem W_cwB0 {id : String} {pos : Pos} {first : List Value} {Q : Value → Bm → Vs → Nm → Prop}
  (h : W w A ns L (call (.builtin id) (first ++ [])) Q B vs N) : W w A ns L (callWith pos (.builtin id) first (backTo pos (starEach [] env)) []) Q B vs N :=
 .mk fun s F k c => Calls.callWith_builtin rfl (evalArgs_nil3 (h.run s F _ c))
theorem W_cwT {T : String} {pos : Pos} {e : Expr} {rest : List Expr} {Q : Value → Bm → Vs → Nm → Prop}
  (h : W w A ns L (spliced (backTo pos (starEach (e :: rest) env))) (fun xs => W w A ns L (call (.type T) xs) Q) B vs N)
  (he : starEach (e :: rest) env = (false, eval e env) :: starEach rest env := by with_unfolding_all rfl) (hplain : (backTo pos (starEach rest env)).any (·.1) = false := by with_unfolding_all rfl) :
  W w A ns L (callWith pos (.type T) [] (backTo pos (starEach (e :: rest) env)) []) Q B vs N :=
 .mk fun s F k c => by
  rw [he] at h ⊢
  exact PyProof.Rows.callWith_type (by show (false || (backTo pos (starEach rest env)).any (·.1)) = false; rw [hplain]; rfl) (evalArgs_plain (h.run s F _ fun xs s1 B1 vs1 N1 F1 X1 q => q.run s1 F1 _ fun v s2 B2 vs2 N2 F2 X2 q => c _ _ _ _ _ F2 (X1.trans X2) q))
noncomputable abbrev ExpQ (P : Bm → Vs → Nm → Prop) : Value → Bm → Vs → Nm → Prop := fun v B vs N => (∀ a, v ≠ .ref a) ∧ P B vs N
theorem W_Expr {e : Expr} {pos : Pos} {Q : Flow → Bm → Vs → Nm → Prop} (ev : Ev env ns gs cl L) (h : W w A ns L (eval e env) (ExpQ (Q .next)) B vs N)
  (hs : swapsWith e none pos.line env = pure false := by with_unfolding_all rfl) : W w A ns L (exec (.Expr e pos) env) Q B vs N :=
 .mk fun s F K c => wpAny_Expr (h.run s F _ fun v s1 B1 vs1 N1 F1 X1 q => by
  have := c _ _ _ _ _ F1 X1 q.2
  cases v <;> first | exact this | exact absurd rfl (q.1 _)) (by unfold interactive; rw [ev.kind]; rfl) hs
theorem lst_upd {h : Heap} {l : Addr} {xs ys : List Value} {n : Nat} {f : Array Value → Array Value} (hl : h.get? l = some (listOf xs.toArray n)) (e : f xs.toArray = ys.toArray) : (Slot.lst ys).holds w (h.update l (Obj.mapSeq f)) l :=
 ⟨_, by rw [Heap.get?_update_self _ hl rfl, ← e]; rfl⟩
theorem W_append {l : Addr} {xs : List Value} {x : Value} {Q : Value → Bm → Vs → Nm → Prop} (u : Up l (.lst xs) (.lst (xs ++ [x])) N N') (hz : xs.length ≤ sizeLine) (q : Q .none B vs N') : W w A ns L (call (.builtin "list.append") [.ref l, x]) Q B vs N :=
 .mk fun s F K c => by
  obtain ⟨n, hl⟩ := (F.led _ u.mem).1
  refine append_at hl (fun h' hs he => c _ _ _ _ _ (F.upd u hs ⟨n + 1, ?_⟩) (Fx.upd u hs rfl rfl rfl) q) (by simpa using hz)
  rw [he]; simp
theorem W_extend {l b : Addr} {xs ys : List Value} {Q : Value → Bm → Vs → Nm → Prop} (u : Up l (.lst xs) (.lst (xs ++ ys)) N N') (r : Rd B N b (.lst ys)) (hz : xs.length + ys.length ≤ sizeLine) (q : Q .none B vs N') : W w A ns L (call (.builtin "list.extend") [.ref l, .ref b]) Q B vs N :=
 .mk fun s F K c => by
  obtain ⟨n, hl⟩ := (F.led _ u.mem).1
  obtain ⟨n2, hb⟩ := r.holds F
  have hz' : xs.toArray.size + ys.toArray.size ≤ sizeLine := by simpa using hz
  refine call_meets PySem.F.slot_list_extend ⟨_, hl, rfl⟩ PySem.F.entry_list_extend (PySem.F.args_list_extend_2 _ _) (AutoSeq1.list_extend_list_list_0 l xs.toArray n b ys.toArray n2 (extend_door hz') (Nat.le_trans (Nat.le_add_right _ _) hz')) ⟨hl, hb, ?_⟩
  exact c _ _ _ _ _ (F.upd u (Heap.SameBut.update ..) (lst_upd hl (by simp))) (Fx.upd u (Heap.SameBut.update ..) rfl rfl rfl) q
theorem W_pop {l : Addr} {xs : List Value} {x : Value} {Q : Value → Bm → Vs → Nm → Prop} (u : Up l (.lst (xs ++ [x])) (.lst xs) N N') (hz : xs.length < sizeLine) (q : Q x B vs N') : W w A ns L (call (.builtin "list.pop") [.ref l]) Q B vs N :=
 .mk fun s F K c => by
  obtain ⟨n, hl⟩ := (F.led _ u.mem).1
  refine call_meets PySem.F.slot_list_pop ⟨_, hl, rfl⟩ PySem.F.entry_list_pop (PySem.F.args_list_pop_1 _) (MeetsSeq.list_pop_last l (xs ++ [x]).toArray n x (by simp) (by simp; lia)) ⟨hl, ?_⟩
  exact c _ _ _ _ _ (F.upd u (Heap.SameBut.update ..) (lst_upd hl (by simp [Array.eraseIdxIfInBounds, List.eraseIdx_append_of_length_le]))) (Fx.upd u (Heap.SameBut.update ..) rfl rfl rfl) q
theorem W_pop0 {l : Addr} {xs : List Value} {x : Value} {t : Tok} {Q : Value → Bm → Vs → Nm → Prop} (u : Up l (.lst (x :: xs)) (.lst xs) N N') (hz : xs.length < sizeLine) (q : Q x B vs N') : W w A ns L (call (.builtin "list.pop") [.ref l, .int 0 t]) Q B vs N :=
 .mk fun s F K c => by
  obtain ⟨n, hl⟩ := (F.led _ u.mem).1
  refine call_meets PySem.F.slot_list_pop ⟨_, hl, rfl⟩ PySem.F.entry_list_pop (PySem.F.args_list_pop_2 _ _) (MeetsSeq.list_pop_at l (x :: xs).toArray n 0 t 0 x (by decide) (by simp [seqIndex?]) (by simp) (by simp; lia)) ⟨hl, ?_⟩
  exact c _ _ _ _ _ (F.upd u (Heap.SameBut.update ..) (lst_upd hl (by simp [Array.eraseIdxIfInBounds]))) (Fx.upd u (Heap.SameBut.update ..) rfl rfl rfl) q
end
end
section
open PySem PySem.W PyProof.Rows PySem.Calls PySem.Spec
inductive Dl (a : Addr) (sl : Slot) : Nm → Nm → Prop
 | here {r} : Dl a sl ((a, sl) :: r) r
 | there {p r r'} : Dl a sl r r' → Dl a sl (p :: r) (p :: r')
 | seg {q r r'} : Dl a sl r r' → Dl a sl (q ++ r) (q ++ r')
theorem Dl.split {a : Addr} {sl : Slot} {N N' : Nm} (u : Dl a sl N N') : ∃ pre post, N = pre ++ (a, sl) :: post ∧ N' = pre ++ post := by
 induction u with
 | here => exact ⟨[], _, rfl, rfl⟩
 | @there p _ _ _ ih => obtain ⟨x, y, e1, e2⟩ := ih; exact ⟨p :: x, y, by rw [e1]; rfl, by rw [e2]; rfl⟩
 | @seg q _ _ _ ih => obtain ⟨x, y, e1, e2⟩ := ih; exact ⟨q ++ x, y, by rw [e1, List.append_assoc], by rw [e2, List.append_assoc]⟩
theorem noE {α : Type} {M : Model} {A : Around} {t : Sem α} {K : α → Shared → Prop} {E : Value → Shared → Prop} {s : Shared} (h : wpAny M A t K (fun _ _ => False) s) : wpAny M A t K E s := wpAny_mono h (fun _ _ z => z) fun _ _ z => z.elim
noncomputable abbrev Fo (P : Bm → Vs → Nm → Prop) (R : Value → Bm → Vs → Nm → Prop) : Option Value → Bm → Vs → Nm → Prop
 | none => P
 | some v => R v
noncomputable def Lp (Wn : Bm → Vs → Nm → Prop) (Q : Flow → Bm → Vs → Nm → Prop) : Flow → Bm → Vs → Nm → Prop
 | .next => Wn
 | .cont => Wn
 | .brk => Q .next
 | .ret v => Q (.ret v)
section
variable {α β : Type} {w : World} {A : Around} {ns gs : List Str} {cl : List (Str × Addr)} {L : Addr} {B : Bm} {vs : Vs} {N N' : Nm} {env : Env}
theorem Dl.mem {a : Addr} {sl : Slot} (u : Dl a sl N N') : (a, sl) ∈ N := by
 obtain ⟨x, y, e1, e2⟩ := u.split; rw [e1]; simp
theorem Fm.del {h h' : Heap} {a : Addr} {sl : Slot} (F : Fm w ns L B vs N h) (u : Dl a sl N N') (hs : Heap.ExtBut a h h') : Fm w ns L B vs N' h' := by
 obtain ⟨pre, post, rfl, rfl⟩ := u.split
 have hm := F.led (a, sl) (by simp)
 have nd := F.nd
 rw [List.map_append, List.map_cons, List.nodup_append, List.nodup_cons] at nd
 have ne : ∀ p, p ∈ pre ∨ p ∈ post → p.1 ≠ a := fun p hp e => by
  rcases hp with hp | hp
  ·exact nd.2.2 _ (List.mem_map_of_mem hp) a (.head _) e
  ·exact nd.2.1.1 (List.mem_map.mpr ⟨p, hp, e⟩)
 have kp : ∀ b sl', b ≠ a → Slot.holds w h b sl' → Slot.holds w h' b sl' := fun b sl' hb x => x.keeps (by
  obtain ⟨o, ho⟩ := x.some
  rw [ho]; exact hs b o hb ho)
 refine ⟨?_, fun b o e => kp b o (fun q => ?_) (F.keep b o e), fun p hp => ?_, ?_, F.out⟩
 ·obtain ⟨o, es, ep, ho, r⟩ := F.loc
  exact ⟨o, es, ep, hs L o (Ne.symm hm.2.2) ho, r⟩
 ·rw [q, hm.2.1] at e; cases e
 ·rcases List.mem_append.mp hp with q | q
  ·exact ⟨kp _ _ (ne p (.inl q)) (F.led p (List.mem_append_left _ q)).1, (F.led p (List.mem_append_left _ q)).2⟩
  ·exact ⟨kp _ _ (ne p (.inr q)) (F.led p (List.mem_append_right _ (.tail _ q))).1, (F.led p (List.mem_append_right _ (.tail _ q))).2⟩
 ·rw [List.map_append, List.nodup_append]
  exact ⟨nd.1, nd.2.1.2, fun x hx y hy => nd.2.2 x hx y (.tail _ hy)⟩
theorem Fx.del {s s' : Shared} {a : Addr} {sl : Slot} {Lo : Option Addr} (u : Dl a sl N N') (hs : Heap.ExtBut a s.heap s'.heap) (hg : s'.gens = s.gens) (hd : s'.drawn = s.drawn) (ho : s'.os = s.os) : Fx Lo B N s B N' s' := by
 obtain ⟨pre, post, rfl, rfl⟩ := u.split
 refine ⟨fun b o e hn hl => ⟨hs b o (fun q => hn (a, sl) (by simp) q.symm) e, fun p hp => ?_, rfl⟩, fun _ _ e => e, hg, hd, ho⟩
 rcases List.mem_append.mp hp with q | q
 ·exact hn p (List.mem_append_left _ q)
 ·exact hn p (List.mem_append_right _ (.tail _ q))
theorem W_new {t : Sem α} {o : Obj} {sl : Slot} {r : Addr → α} {Q : α → Bm → Vs → Nm → Prop} (ht : ∀ s (K : α → Shared → Prop), (∀ n, K (r s.heap.objs.size) { s with heap := s.heap.push o, toks := n }) → wpAny (Mo w) A t K (fun _ _ => False) s)
  (hf : o.isFreed = false) (hh : ∀ h' a, h'.get? a = some o → sl.holds w h' a) (q : ∀ a, Q (r a) B vs ((a, sl) :: N)) : W w A ns L t Q B vs N :=
 .mk fun s F K c => ht s K fun n => c _ _ _ _ _ (F.push rfl hf (hh · _)) Fx.push (q _)
noncomputable abbrev rngO (a b : Int) (t u v : Tok) : Obj := { cls := .type "range", data := .fields #[.int a t, .int b u, .int 1 v] }
theorem W_range1 {n : Int} {t : Tok} {Q : Value → Bm → Vs → Nm → Prop} (q : ∀ a u v, Q (.ref a) B vs ((a, .obj (rngO 0 n u t v)) :: N)) : W w A ns L (call (.type "range") [.int n t]) Q B vs N :=
 .mk fun s F K c => call_range_1 (c _ _ _ _ _ (F.push (sl := .obj (rngO 0 n s.toks t (s.toks + 1))) rfl rfl fun h' e => e) Fx.push (q _ _ _))
theorem W_range2 {a b : Int} {t u : Tok} {Q : Value → Bm → Vs → Nm → Prop} (q : ∀ r v, Q (.ref r) B vs ((r, .obj (rngO a b t u v)) :: N)) : W w A ns L (call (.type "range") [.int a t, .int b u]) Q B vs N :=
 .mk fun s F K c => call_range_2 (c _ _ _ _ _ (F.push (sl := .obj (rngO a b t u s.toks)) rfl rfl fun h' e => e) Fx.push (q _ _))
theorem W_iterRng {r : Addr} {a b : Int} {t u v : Tok} {Q : Value → Bm → Vs → Nm → Prop} (hr : Rd B N r (.obj (rngO a b t u v))) (ha : -(2 ^ 62) ≤ a) (ha' : a < 2 ^ 62) (hb : -(2 ^ 62) ≤ b) (hb' : b < 2 ^ 62)
  (q : ∀ i, Q (.ref i) B vs ((i, .itr (.rng a (b - a).toNat) 0) :: N)) : W w A ns L (pyIter (.ref r)) Q B vs N :=
 .mk fun s F K c => wpAny_pyIter_range (hr.holds F) (small_one ha ha' hb hb') (c _ _ _ _ _ (F.push (sl := .itr (.rng a (b - a).toNat) 0) rfl rfl fun h' e => by
  show h'.get? _ = some { cls := .type "range_iterator", dict := none, data := .fields #[rawInt (a + (0 : Nat)), rawInt (((b - a).toNat : Int) - (0 : Nat)), rawInt 1], slots := #[] }
  rw [e, rangeSize_one]
  have h1 : a + ((0 : Nat) : Int) = a := by lia
  have h2 : (((b - a).toNat : Int) - ((0 : Nat) : Int)) = if a < b then b - a else 0 := by split <;> lia
  rw [h1, h2]) (Fx.push (n := s.toks)) (q _))
theorem W_iterLst {l : Addr} {xs : List Value} {Q : Value → Bm → Vs → Nm → Prop} (r : Rd B N l (.lst xs)) (q : ∀ i, Q (.ref i) B vs ((i, .itr (.lst l xs) 0) :: N)) : W w A ns L (pyIter (.ref l)) Q B vs N :=
 .mk fun s F K c => wpAny_pyIter_list (isList_of (r.holds F)) (c _ _ _ _ _ (F.push (sl := .itr (.lst l xs) 0) rfl rfl fun h' e => ⟨_, e, rfl, rfl⟩) (Fx.push (n := s.toks)) (q _))
theorem W_iterStr {x : Str} {t : Tok} {Q : Value → Bm → Vs → Nm → Prop} (q : ∀ i, Q (.ref i) B vs ((i, .itr (.str x t) 0) :: N)) : W w A ns L (pyIter (.str x t)) Q B vs N :=
 .mk fun s F K c => wpAny_pyIter_strU (c _ _ _ _ _ (F.push (sl := .itr (.str x t) 0) rfl rfl fun h' e => ⟨_, e, rfl, rfl⟩) (Fx.push (n := s.toks)) (q _))
noncomputable def Itk.ok (B : Bm) (N : Nm) : Itk → Prop
 | .lst l xs => Rd B N l (.lst xs)
 | _ => True
theorem W_nextItem {it : Addr} {k : Itk} {i : Nat} {f : Tok → Value} {Q : Option Value → Bm → Vs → Nm → Prop} (u : Up it (.itr k i) (.itr k (i + 1)) N N') (ok : k.ok B N) (hi : k.item i = some f) (q : ∀ t, Q (some (f t)) B vs N') : W w A ns L (pyNext (.ref it)) Q B vs N :=
 .mk fun s F K c => by
  have hm := (F.led _ u.mem).1
  cases k with
  | lst l xs =>
   obtain ⟨v, hv, rfl⟩ := Option.map_eq_some_iff.mp hi
   exact wpAny_pyNext_list_item hm (isList_of (Rd.holds ok F)) (by simpa using hv) fun h' hit hs => c _ _ _ _ _ (F.upd u hs hit) (Fx.upd u hs rfl rfl rfl) (q 0)
  | rng a n =>
   simp only [Itk.item] at hi
   split at hi
   ·rename_i hlt
    cases hi
    exact wpAny_pyNext_range_item hm (by lia) fun h' hit hs => c _ _ _ _ _ (F.upd u hs (by
     show h'.get? it = some { cls := .type "range_iterator", dict := none, data := .fields #[rawInt (a + ((i + 1 : Nat) : Int)), rawInt ((n : Int) - ((i + 1 : Nat) : Int)), rawInt 1], slots := #[] }
     rw [show h'.get? it = _ from hit]
     have h1 : a + (i : Int) + 1 = a + ((i + 1 : Nat) : Int) := by lia
     have h2 : (n : Int) - (i : Int) - 1 = (n : Int) - ((i + 1 : Nat) : Int) := by lia
     rw [h1, h2])) (Fx.upd u hs rfl rfl rfl) (q _)
   ·cases hi
  | str x t =>
   obtain ⟨v, hv, rfl⟩ := Option.map_eq_some_iff.mp hi
   have hm : s.heap.IsStrIter it (strIterType x) x t i := hm
   unfold strIterType at hm
   by_cases ha : x.cps.all (· < 128) = true
   ·rw [if_pos ha] at hm
    exact wpAny_pyNext_ascii_item hm hv fun h' hit hs => c _ _ _ _ _ (F.upd u hs (by show h'.IsStrIter it (strIterType x) x t _; unfold strIterType; rw [if_pos ha]; exact hit)) (Fx.upd u hs rfl rfl rfl) (q _)
   ·rw [if_neg ha] at hm
    exact wpAny_pyNext_wide_item hm hv fun h' hit hs => c _ _ _ _ _ (F.upd u hs (by show h'.IsStrIter it (strIterType x) x t _; unfold strIterType; rw [if_neg ha]; exact hit)) (Fx.upd u hs rfl rfl rfl) (q _)
theorem W_nextEnd {it : Addr} {k : Itk} {i : Nat} {Q : Option Value → Bm → Vs → Nm → Prop} (hh : A.handled = none) (u : Dl it (.itr k i) N N') (ok : k.ok B N) (hi : k.item i = none) (q : Q none B vs N') : W w A ns L (pyNext (.ref it)) Q B vs N :=
 .mk fun s F K c => by
  have hm := (F.led _ u.mem).1
  have go : ∀ h', Heap.ExtBut it s.heap h' → K none { s with heap := h' } := fun h' hs => c _ _ _ _ _ (F.del u hs) (Fx.del u hs rfl rfl rfl) q
  cases k with
  | lst l xs => exact wpAny_pyNext_list_end hh hm (isList_of (Rd.holds ok F)) (by simpa [Itk.item] using hi) go
  | rng a n =>
   simp only [Itk.item] at hi
   split at hi
   ·cases hi
   ·exact wpAny_pyNext_range_end hh hm (by lia) go
  | str x t =>
   have hv : x.cps[i]? = none := by simpa [Itk.item] using hi
   have hm : s.heap.IsStrIter it (strIterType x) x t i := hm
   unfold strIterType at hm
   by_cases ha : x.cps.all (· < 128) = true
   ·rw [if_pos ha] at hm; exact wpAny_pyNext_ascii_end hh hm hv go
   ·rw [if_neg ha] at hm; exact wpAny_pyNext_wide_end hh hm hv go
theorem W_While {test : Expr} {body orelse : List Stmt} {pos : Pos} {Q : Flow → Bm → Vs → Nm → Prop} (h : WL w A ns L (.whileLoop test body orelse env) Q B vs N) : W w A ns L (exec (.While test body orelse pos) env) Q B vs N :=
 .mk fun s F K c => wpAny_While (codeAny_mono (h.run s F) fun r s' ⟨f, B', vs', N', e, F', X, q⟩ => by subst e; exact c _ _ _ _ _ F' X q)
theorem WL_while {test : Expr} {body orelse : List Stmt} {Q : Flow → Bm → Vs → Nm → Prop}
  (h : W w A ns L (isTrue test env (eval test env)) (fun b => Br b (W w A ns L (execs body env) (Lp (WL w A ns L (.whileLoop test body orelse env) Q) Q)) (W w A ns L (execs orelse env) Q)) B vs N) :
  WL w A ns L (.whileLoop test body orelse env) Q B vs N :=
 .mk fun s F => by
  refine codeAny_of_tree ?_
  show wpAny _ A ((whileTurn test body orelse env).onRaise (fun x => do noteFrame x env; theTreesLotGoes x)) _ _ s
  refine wpAny_noted ?_
  simp only [whileTurn]
  refine wpAny_bind (noE (h.run s F _ fun b s1 B1 vs1 N1 F1 X1 q => ?_))
  cases b with
  | false =>
   simp only [Bool.false_eq_true, if_false] at q ⊢
   exact wpAny_bind (noE (q.run s1 F1 _ fun f s2 B2 vs2 N2 F2 X2 q => wpAny_pure ⟨f, B2, vs2, N2, rfl, F2, X1.trans X2, q⟩))
  | true =>
   simp only [if_true] at q ⊢
   refine wpAny_bind (noE (q.run s1 F1 _ fun f s2 B2 vs2 N2 F2 X2 q => ?_))
   have again : WL w A ns L (.whileLoop test body orelse env) Q B2 vs2 N2 → codeAny (Mo w) A (.whileLoop test body orelse env) (RL w ns L Q B N s) s2 :=
    fun q => codeAny_mono (q.run s2 F2) fun r s' ⟨f, B', vs', N', e, F', X, q⟩ => ⟨f, B', vs', N', e, F', X1.trans (X2.trans X), q⟩
   cases f with
   | next => exact wpAny_pure (And.intro rfl (again q))
   | cont => exact wpAny_pure (And.intro rfl (again q))
   | brk => exact wpAny_pure ⟨_, B2, vs2, N2, rfl, F2, X1.trans X2, q⟩
   | ret v => exact wpAny_pure ⟨_, B2, vs2, N2, rfl, F2, X1.trans X2, q⟩
theorem W_For {target iter : Expr} {body orelse : List Stmt} {pos : Pos} {Q : Flow → Bm → Vs → Nm → Prop}
  (h : W w A ns L (eval iter env) (fun x => W w A ns L (pyIter x) (fun it => WL w A ns L (.forLoop target it body orelse env) Q)) B vs N) (hs : ∀ x, foldedSetIterable iter env x = pure x := by intro _; with_unfolding_all rfl) :
  W w A ns L (exec (.For target iter body orelse pos) env) Q B vs N :=
 .mk fun s F K c => wpAny_For (h.run s F _ fun x s1 B1 vs1 N1 F1 X1 q => q.run s1 F1 _ fun it s2 B2 vs2 N2 F2 X2 q => codeAny_mono (q.run s2 F2) fun r s' ⟨f, B', vs', N', e, F', X, q⟩ => by subst e; exact c _ _ _ _ _ F' (X1.trans (X2.trans X)) q) hs
theorem WL_for {x : Str} {px : Pos} {it : Value} {body orelse : List Stmt} {Q : Flow → Bm → Vs → Nm → Prop}
  (h : W w A ns L (pyNext it) (Fo (W w A ns L (execs orelse env) Q) fun v => W w A ns L (storeName env x v) (fun _ => W w A ns L (execs body env) (Lp (WL w A ns L (.forLoop (.Name x px) it body orelse env) Q) Q))) B vs N) :
  WL w A ns L (.forLoop (.Name x px) it body orelse env) Q B vs N :=
 .mk fun s F => by
  refine codeAny_of_tree ?_
  show wpAny _ A ((forTurn (.Name x px) it body orelse env).onRaise (fun x => do noteFrame x env; theTreesLotGoes x)) _ _ s
  refine wpAny_noted ?_
  simp only [forTurn]
  refine wpAny_bind (wpAny_standAt (wpAny_bind (wpAny_onRaise (noE (h.run s F _ fun r s1 B1 vs1 N1 F1 X1 q => ?_)))))
  cases r with
  | none => exact wpAny_pure (And.intro rfl (codeAny_block (noE (q.run s1 F1 _ fun f s2 B2 vs2 N2 F2 X2 q => ⟨f, B2, vs2, N2, rfl, F2, X1.trans X2, q⟩))))
  | some v =>
   refine wpAny_bind (wpAny_of_eq (show letOwnedTupleGo (.Name x px) it v = pure () from rfl) ?_)
   refine wpAny_bind (wpAny_assign_Name (noE (q.run s1 F1 _ fun _ s2 B2 vs2 N2 F2 X2 q => wpAny_bind (noE (q.run s2 F2 _ fun f s3 B3 vs3 N3 F3 X3 q => ?_)))))
   have again : WL w A ns L (.forLoop (.Name x px) it body orelse env) Q B3 vs3 N3 → codeAny (Mo w) A (.forLoop (.Name x px) it body orelse env) (RL w ns L Q B N s) s3 :=
    fun q => codeAny_mono (q.run s3 F3) fun r s' ⟨f, B', vs', N', e, F', X, q⟩ => ⟨f, B', vs', N', e, F', X1.trans (X2.trans (X3.trans X)), q⟩
   cases f with
   | next => exact wpAny_pure (And.intro rfl (again q))
   | cont => exact wpAny_pure (And.intro rfl (again q))
   | brk => exact wpAny_pure ⟨_, B3, vs3, N3, rfl, F3, X1.trans (X2.trans X3), q⟩
   | ret v => exact wpAny_pure ⟨_, B3, vs3, N3, rfl, F3, X1.trans (X2.trans X3), q⟩
end
end
section
open PySem PySem.W PyProof.Rows PySem.Calls PySem.Spec
section
variable {α β : Type} {w : World} {A : Around} {ns gs : List Str} {cl : List (Str × Addr)} {L : Addr} {B : Bm} {vs : Vs} {N N' : Nm} {env : Env}
theorem Wc_drop {c : Code} {Q : Value → Bm → Nm → Prop} (h : Wc w A c (fun v B' N' => ∃ N'', N''.Sublist N' ∧ Q v B' N'') B N) : Wc w A c Q B N :=
 .mk fun s F => codeAny_mono (h.run s F) fun r s' ⟨v, B', N', e, F', X, N'', hs, q⟩ =>
  ⟨v, B', N'', e, ⟨F'.keep, fun p hp => F'.led p (hs.subset hp), (hs.map (·.1)).nodup F'.nd⟩,
   ⟨fun a o ha hn hl => by obtain ⟨x, y, z⟩ := X.same a o ha hn hl; exact ⟨x, fun p hp => y p (hs.subset hp), z⟩, X.le, X.gens, X.drawn, X.os⟩, q⟩
theorem WL_less {c : Code} {Q : Flow → Bm → Vs → Nm → Prop} (hs : N'.Sublist N) (h : WL w A ns L c Q B vs N') : WL w A ns L c Q B vs N :=
 .mk fun s F => codeAny_mono (h.run s ⟨F.loc, F.keep, fun p hp => F.led p (hs.subset hp), (hs.map (·.1)).nodup F.nd, F.out⟩) fun r s' ⟨f, B', vs', N'', e, F', X, q⟩ =>
  ⟨f, B', vs', N'', e, F', ⟨fun a o ha hn hl => X.same a o ha (fun p hp => hn p (hs.subset hp)) hl, X.le, X.gens, X.drawn, X.os⟩, q⟩
theorem W_less {t : Sem α} {Q : α → Bm → Vs → Nm → Prop} (hs : N'.Sublist N) (h : W w A ns L t Q B vs N') : W w A ns L t Q B vs N :=
 .mk fun s F K c => h.run s ⟨F.loc, F.keep, fun p hp => F.led p (hs.subset hp), (hs.map (·.1)).nodup F.nd, F.out⟩ K fun v s' B' vs' N'' F' X q => c v s' B' vs' N'' F'
  ⟨fun a o ha hn hl => X.same a o ha (fun p hp => hn p (hs.subset hp)) hl, X.le, X.gens, X.drawn, X.os⟩ q
noncomputable def frz (B : Bm) (a : Addr) (sl : Slot) : Bm := fun b => if b = a then some sl else B b
theorem frz_le {a : Addr} {sl : Slot} (h : B a = none) : ∀ b o, B b = some o → frz B a sl b = some o := fun b o e => by
 unfold frz; split
 ·rename_i q; subst q; rw [h] at e; cases e
 ·exact e
theorem Fm.frz {h : Heap} {a : Addr} {sl : Slot} (F : Fm w ns L B vs ((a, sl) :: N) h) : Fm w ns L (SJ.frz B a sl) vs N h := by
 have hm := F.led (a, sl) (.head _)
 have nd := F.nd
 rw [List.map_cons, List.nodup_cons] at nd
 refine ⟨F.loc, fun b o e => ?_, fun p hp => ?_, nd.2, ?_⟩
 ·unfold SJ.frz at e; split at e
  ·rename_i q; subst q; cases e; exact hm.1
  ·exact F.keep b o e
 ·have := F.led p (.tail _ hp)
  refine ⟨this.1, ?_, this.2.2⟩
  unfold SJ.frz; rw [if_neg fun e => nd.1 (List.mem_map.mpr ⟨p, hp, e⟩)]; exact this.2.1
 ·unfold SJ.frz; rw [if_neg (Ne.symm hm.2.2)]; exact F.out
theorem Fx.frz {s : Shared} {a : Addr} {sl : Slot} {Lo : Option Addr} (hB : B a = none) : Fx Lo B ((a, sl) :: N) s (SJ.frz B a sl) N s :=
 ⟨fun b o e hn _ => ⟨e, fun p hp => hn p (.tail _ hp), by unfold SJ.frz; rw [if_neg fun q => hn _ (.head _) q.symm]⟩, frz_le hB, rfl, rfl, rfl⟩
theorem W_frz {t : Sem α} {a : Addr} {sl : Slot} {Q : α → Bm → Vs → Nm → Prop} (h : ∀ B', (∀ b o, B b = some o → B' b = some o) → B' a = some sl → W w A ns L t Q B' vs N) : W w A ns L t Q B vs ((a, sl) :: N) :=
 .mk fun s F K c => by
  have hB := (F.led _ (.head _)).2.1
  exact (h (frz B a sl) (frz_le hB) (by unfold frz; rw [if_pos rfl])).run s F.frz K fun v s' B' vs' N' F' X q => c v s' B' vs' N' F' ((Fx.frz hB).trans X) q
theorem WL_frz {c : Code} {a : Addr} {sl : Slot} {Q : Flow → Bm → Vs → Nm → Prop} (h : ∀ B', (∀ b o, B b = some o → B' b = some o) → B' a = some sl → WL w A ns L c Q B' vs N) : WL w A ns L c Q B vs ((a, sl) :: N) :=
 .mk fun s F => by
  have hB := (F.led _ (.head _)).2.1
  exact codeAny_mono ((h (frz B a sl) (frz_le hB) (by unfold frz; rw [if_pos rfl])).run s F.frz) fun r s' ⟨f, B', vs', N', e, F', X, q⟩ => ⟨f, B', vs', N', e, F', (Fx.frz hB).trans X, q⟩
theorem Wc_frz {c : Code} {a : Addr} {sl : Slot} {Q : Value → Bm → Nm → Prop} (h : Wc w A c (fun v B' N' => ∃ N'', N' = (a, sl) :: N'' ∧ ∀ B'', (∀ b o, B' b = some o → B'' b = some o) → B'' a = some sl → Q v B'' N'') B N) : Wc w A c Q B N :=
 .mk fun s F => codeAny_mono (h.run s F) fun r s' ⟨v, B', N', e, F', X, N'', hN, q⟩ => by
  subst hN
  have hm := F'.led (a, sl) (.head _)
  have nd := F'.nd
  rw [List.map_cons, List.nodup_cons] at nd
  refine ⟨v, frz B' a sl, N'', e, ⟨fun b o e => ?_, fun p hp => ?_, nd.2⟩, X.trans (Fx.frz hm.2), q _ (frz_le hm.2) (by unfold frz; rw [if_pos rfl])⟩
  ·unfold frz at e; split at e
   ·rename_i q; subst q; cases e; exact hm.1
   ·exact F'.keep b o e
  ·have := F'.led p (.tail _ hp)
   refine ⟨this.1, ?_⟩
   unfold frz; rw [if_neg fun e => nd.1 (List.mem_map.mpr ⟨p, hp, e⟩)]; exact this.2
theorem ite_t {b : Bool} {P R : Prop} (hb : b = true) (h : P) : if b then P else R := by rw [if_pos hb]; exact h
theorem ite_f {b : Bool} {P R : Prop} (hb : b = false) (h : R) : if b then P else R := by rw [if_neg (by rw [hb]; decide)]; exact h
theorem ite_b {b : Bool} {P R : Prop} (h1 : b = true → P) (h2 : b = false → R) : if b then P else R := by cases b <;> simp_all
noncomputable def OptI (o : Option Int) (v : Value) : Prop := match o with | none => v = .none | some i => ∃ t, v = .int i t
theorem W_lenStr {x : Str} {t : Tok} {Q : Value → Bm → Vs → Nm → Prop} (hx : x.length < 2 ^ 62) (q : ∀ u, Q (.int x.length u) B vs N) : W w A ns L (call (.builtin "len") [.str x t]) Q B vs N :=
 W_readT (r := fun u => .int x.length u) (fun s F c k => len_str (by lia) (k _ _)) q
theorem W_lenLst {l : Addr} {xs : List Value} {Q : Value → Bm → Vs → Nm → Prop} (r : Rd B N l (.lst xs)) (hx : xs.length < 2 ^ 62) (q : ∀ u, Q (.int xs.length u) B vs N) : W w A ns L (call (.builtin "len") [.ref l]) Q B vs N :=
 W_readT (r := fun u => .int xs.length u) (fun s F c k => PyProof.Rows.len_list (isList_of (r.holds F)) (by simp; lia) (by simpa using k _ _)) q
end
end
section
open PySem PySem.W PyProof.Rows PySem.Calls PySem.Spec
section
variable {α β : Type} {w : World} {A : Around} {ns gs : List Str} {cl : List (Str × Addr)} {L : Addr} {B : Bm} {vs : Vs} {N N' : Nm} {env : Env}
theorem Fm.ext {h h' : Heap} (F : Fm w ns L B vs N h) (k : ∀ b o, h.get? b = some o → h'.get? b = some o) : Fm w ns L B vs N h' := by
 have kp : ∀ b sl', Slot.holds w h b sl' → Slot.holds w h' b sl' := fun b sl' x => x.keeps (by
  obtain ⟨o, ho⟩ := x.some
  rw [ho]; exact k b o ho)
 obtain ⟨o, es, ep, ho, r⟩ := F.loc
 exact ⟨⟨o, es, ep, k L o ho, r⟩, fun b o e => kp _ _ (F.keep b o e), fun p hp => ⟨kp _ _ (F.led p hp).1, (F.led p hp).2⟩, F.nd, F.out⟩
theorem Fx.ext {Lo : Option Addr} {s s' : Shared} (k : ∀ b o, s.heap.get? b = some o → s'.heap.get? b = some o) (hg : s'.gens = s.gens) (hd : s'.drawn = s.drawn) (ho : s'.os = s.os) : Fx Lo B N s B N s' :=
 ⟨fun a o e h _ => ⟨k a o e, h, rfl⟩, fun _ _ h => h, hg, hd, ho⟩
theorem W_unpack {p : Addr} {xs : List Value} {n : Nat} {Q : List Value → Bm → Vs → Nm → Prop} (hh : A.handled = none) (r : Rd B N p (.tup xs)) (hn : n = xs.length) (q : Q xs B vs N) : W w A ns L (unpackItems (.ref p) n none) Q B vs N :=
 .mk fun s F K c => by
  subst hn
  have ht := isTup_of (r.holds F)
  have := unpackItems_tuple (prog := PySem.Challenge.pw_sj0202_01) (w := w) (Q := K) (E := fun _ _ => False) hh ht fun h' he => by
   have k : ∀ b o, s.heap.get? b = some o → h'.get? b = some o := fun b o e => he b o (Nat.ne_of_lt (Heap.lt_size e)) e
   exact c _ _ _ _ _ (F.ext k) (Fx.ext k rfl rfl rfl) q
  simpa using this
theorem W_AssignTup {elts : List Expr} {k : Nat} {tpos pos : Pos} {value : Expr} {Q : Flow → Bm → Vs → Nm → Prop}
  (h : W w A ns L (eval value env) (fun v => W w A ns L (unpackItems v elts.length none) (fun xs => W w A ns L (assignInOrder ((assignEach elts env).map (·.2)) xs) (fun _ => Q .next))) B vs N)
  (hs : swapsWithSole [.Tuple elts k tpos] value pos.line env = pure false := by with_unfolding_all rfl)
  (hw : swappedStores [.Tuple elts k tpos] value env = pure none := by with_unfolding_all rfl)
  (hu : ∀ v, assign (.Tuple elts k tpos) env v = (do standAt tpos; assignInOrder ((assignEach elts env).map (·.2)) (← holding [v] (unpackItems v elts.length none))) := by intro _; with_unfolding_all rfl) :
  W w A ns L (exec (.Assign [.Tuple elts k tpos] value pos) env) Q B vs N :=
 .mk fun s F K c => PyProof.Rows.Assign_Tuple (h.run s F _ fun v s1 B1 vs1 N1 F1 X1 q => by
  rw [hu]
  exact wpAny_bind (wpAny_standAt (wpAny_bind (wpAny_holding (q.run s1 F1 _ fun xs s2 B2 vs2 N2 F2 X2 q => q.run s2 F2 _ fun _ s3 B3 vs3 N3 F3 X3 q => c _ _ _ _ _ F3 (X1.trans (X2.trans X3)) q))))) hs hw
theorem W_aioNil {ts : List (Value → Sem Unit)} {Q : Unit → Bm → Vs → Nm → Prop} (q : Q () B vs N) : W w A ns L (assignInOrder ts []) Q B vs N := .mk fun s F K c => by
 cases ts <;> exact wpAny_pure (c _ _ _ _ _ F .refl q)
theorem W_aioCons {x : Str} {pos : Pos} {ts : List Expr} {v : Value} {xs : List Value} {Q : Unit → Bm → Vs → Nm → Prop}
  (h : W w A ns L (storeName env x v) (fun _ => W w A ns L (assignInOrder ((assignEach ts env).map (·.2)) xs) Q) B vs N)
  (he : assignEach (.Name x pos :: ts) env = (false, assign (.Name x pos) env) :: assignEach ts env := by with_unfolding_all rfl) : W w A ns L (assignInOrder ((assignEach (.Name x pos :: ts) env).map (·.2)) (v :: xs)) Q B vs N :=
 .mk fun s F K c => by
  rw [he]
  exact wpAny_bind (wpAny_holding (PyProof.Rows.assign_Name (h.run s F _ fun _ s1 B1 vs1 N1 F1 X1 q => q.run s1 F1 _ fun _ s2 B2 vs2 N2 F2 X2 q => c _ _ _ _ _ F2 (X1.trans X2) q)))
theorem W_AssignSw {elts : List Expr} {k : Nat} {tpos pos : Pos} {value : Expr} {names : List Str} {Q : Flow → Bm → Vs → Nm → Prop}
  (hw : swappedStores [.Tuple elts k tpos] value env = pure (some names))
  (h : W w A ns L (eval value env) (fun v => W w A ns L (unpackItems v names.length none) (fun xs => W w A ns L (assignInOrder (names.reverse.map fun n => bindName env n) xs.reverse) (fun _ => Q .next))) B vs N)
  (hs : swapsWithSole [.Tuple elts k tpos] value pos.line env = pure false := by with_unfolding_all rfl) :
  W w A ns L (exec (.Assign [.Tuple elts k tpos] value pos) env) Q B vs N :=
 .mk fun s F K c => PyProof.Rows.Assign_Tuple_swapped (h.run s F _ fun v s1 B1 vs1 N1 F1 X1 q => q.run s1 F1 _ fun xs s2 B2 vs2 N2 F2 X2 q => q.run s2 F2 _ fun _ s3 B3 vs3 N3 F3 X3 q => c _ _ _ _ _ F3 (X1.trans (X2.trans X3)) q) hs hw
theorem W_Assign2 {a b : Str} {pa pb tpos vpos pos : Pos} {k k' : Nat} {x y : Expr} {Q : Flow → Bm → Vs → Nm → Prop} (ev : Ev env ns gs cl L) (hh : A.handled = none)
  (ha : a ∈ ns) (hb : b ∈ ns) (hne : [a, b].eraseDups = [a, b]) (hl : pa.line = pb.line)
  (hf : [x, y].all (foldedForSure 8) = false) (hc : [x, y].all (constantsAlone 8) = false) (hst : [x, y].any (fun | .Starred .. => true | _ => false) = false)
  (h : W w A ns L (eval x env) (fun va => W w A ns L (eval y env) (fun vb => W w A ns L (storeName env b vb) (fun _ => W w A ns L (storeName env a va) (fun _ => Q .next)))) B vs N)
  (he1 : starEach [x, y] env = (false, eval x env) :: starEach [y] env := by with_unfolding_all rfl) (he2 : starEach [y] env = (false, eval y env) :: starEach [] env := by with_unfolding_all rfl) :
  W w A ns L (exec (.Assign [.Tuple [.Name a pa, .Name b pb] k tpos] (.Tuple [x, y] k' vpos) pos) env) Q B vs N := by
 have hw : swappedStores [.Tuple [.Name a pa, .Name b pb] k tpos] (.Tuple [x, y] k' vpos) env = pure (some [a, b]) := by
  have hbk : env.blockKind = .function := by unfold Env.blockKind; rw [ev.kind]; rfl
  have h1 := ev.loc a ha
  have h2 := ev.loc b hb
  have hn : ∀ f : Expr → Option Str, f (.Name a pa) = some a → f (.Name b pb) = some b → [Expr.Name a pa, .Name b pb].filterMap f = [a, b] := fun f e1 e2 => (List.filterMap_cons_some e1).trans (congrArg (a :: ·) (List.filterMap_cons_some e2))
  unfold swappedStores
  refine (if_neg (fun e => Bool.false_ne_true (?_ : false = true))).trans ?_
  ·exact (congrArg (· != ScopeKind.function) hbk).symm.trans e
  refine (if_neg fun e => Bool.false_ne_true (hst.symm.trans e)).trans ?_
  extract_lets line names
  have hN : names = [a, b] := hn _ (if_pos (by rw [h1]; exact beq_self_eq_true pa.line)) (if_pos (by rw [h2]; exact (congrArg (· == pa.line) hl.symm).trans (beq_self_eq_true pa.line)))
  rw [hN]
  refine (if_neg fun e => Bool.false_ne_true ((congrArg (fun l : List Str => l.length != 2) hne).symm.trans e)).trans ?_
  refine (if_neg fun e => Bool.false_ne_true (hf.symm.trans e)).trans ?_
  exact (if_neg fun e => Bool.false_ne_true (hc.symm.trans e)).trans (congrArg (fun n => (pure (some n) : Sem (Option (List Str)))) hN)
 refine W_AssignSw hw (W_Tuple (W_spl_cons (W_mono h fun va B vs N q => W_spl_cons (W_mono q fun vb B vs N q => W_spl_nil ⟨by rw [sizeLine_eq]; exact Nat.le_of_ble_eq_true rfl, fun p => ?_⟩) he2) he1))
 refine W_unpack hh (Rd.n List.mem_cons_self) rfl (W_less (List.sublist_cons_self _ _) ?_)
 refine .mk fun s F K c => ?_
 exact wpAny_bind (wpAny_holding (bindName_ (q.run s F _ fun _ s1 B1 vs1 N1 F1 X1 q => wpAny_bind (wpAny_holding (bindName_ (q.run s1 F1 _ fun _ s2 B2 vs2 N2 F2 X2 q => wpAny_pure (c _ _ _ _ _ F2 (X1.trans X2) q)))))))
end
end
section
open PySem PySem.W PyProof.Rows PySem.Calls PySem.Spec
section
variable {α β : Type} {w : World} {A : Around} {ns gs : List Str} {cl : List (Str × Addr)} {L : Addr} {B : Bm} {vs : Vs} {N N' : Nm} {env : Env}
noncomputable abbrev slO (l u k : Value) : Obj := { cls := .type "slice", data := .fields #[l, u, k] }
theorem W_partN {Q : Value → Bm → Vs → Nm → Prop} (q : Q .none B vs N) : W w A ns L (evalPart none env) Q B vs N := W_read (fun s F c k => wpAny_evalPart_none k) q
theorem W_partS {e : Expr} {Q : Value → Bm → Vs → Nm → Prop} (h : W w A ns L (eval e env) Q B vs N) : W w A ns L (evalPart (some e) env) Q B vs N := h
theorem W_Slice {lower upper step : Option Expr} {p : Pos} {Q : Value → Bm → Vs → Nm → Prop}
  (h : W w A ns L (evalPart lower env) (fun l B vs N => W w A ns L (evalPart upper env) (fun u B vs N => W w A ns L (evalPart step env) (fun k B vs N => ∀ a, Q (.ref a) B vs ((a, .obj (slO l u k)) :: N)) B vs N) B vs N) B vs N) : W w A ns L (eval (.Slice lower upper step p) env) Q B vs N :=
 .mk fun s F K c => wpAny_Slice (h.run s F _ fun l s1 B1 vs1 N1 F1 X1 q => q.run s1 F1 _ fun u s2 B2 vs2 N2 F2 X2 q => q.run s2 F2 _ fun k s3 B3 vs3 N3 F3 X3 q => c _ _ _ _ _ (F3.push (sl := .obj (slO l u k)) rfl rfl fun h' e => e) (X1.trans (X2.trans (X3.trans (Fx.push (n := s3.toks))))) (q _))
theorem W_sliceLst {value slice : Expr} {l a : Addr} {xs : List Value} {vl vu vk : Value} {lo hi st : Option Int} {Q : Value → Bm → Vs → Nm → Prop} (r : Rd B N l (.lst xs)) (rs : Rd B N a (.obj (slO vl vu vk))) (pl : IsPart vl lo) (pu : IsPart vu hi) (pk : IsPart vk st) (h0 : st ≠ some 0) (hz : xs.length ≤ sizeLine)
  {ops : List Value} (hs : subscripted slice false (.ref l) (.ref a) = operate ops (getItem (.ref l) (.ref a)))
  (q : ∀ b, Q (.ref b) B vs ((b, .lst (slicePick xs.toArray lo hi st).toList) :: N)) : W w A ns L (subscriptTail value slice (.ref l) (.ref a)) Q B vs N :=
 .mk fun s F K c => tail_any (isList_of (r.holds F)).typeIs slot_list_getitem.lookup (wpAny_getItem_list_slice (isList_of (r.holds F)) ⟨_, rs.holds F, rfl, rfl⟩ pl pu pk h0 (c _ _ _ _ _ (F.push (sl := .lst (slicePick xs.toArray lo hi st).toList) rfl rfl fun h' e => ⟨0, e⟩) (Fx.push (n := s.toks)) (q _)) (by simpa using hz)) hs
theorem W_sliceStr {value slice : Expr} {a : Addr} {x : Str} {t : Tok} {vl vu : Value} {lo hi : Option Int} {Q : Value → Bm → Vs → Nm → Prop} (rs : Rd B N a (.obj (slO vl vu .none))) (pl : IsPart vl lo) (pu : IsPart vu hi) (hz : x.length ≤ sizeLine)
  {ops : List Value} (hs : subscripted slice false (.str x t) (.ref a) = operate ops (getItem (.str x t) (.ref a)))
  (q : ∀ u, Q (.str (Txt.slice x lo hi) u) B vs N) : W w A ns L (subscriptTail value slice (.str x t) (.ref a)) Q B vs N :=
 W_readT (r := fun u => .str (Txt.slice x lo hi) u) (fun s F c k => by
  have hsl := rs.holds F
  refine tail_any (typeIs_str _ _ _) slot_str_getitem.lookup ?_ hs
  have go : ∀ (l u : Option (Int × Tok)), vl = partValue l → vu = partValue u → l.map (·.1) = lo → u.map (·.1) = hi → wpAny (Mo w) A (getItem (.str x t) (.ref a)) c (fun _ _ => False) s := by
   rintro l u rfl rfl rfl rfl
   exact wpAny_getItem_str_slice (l := l) (u := u) (st := none) ⟨_, hsl, rfl, rfl⟩ rfl (post_val_or_str ⟨Nat.le_trans (Txt.slice_le x _ _) hz, fun t' n => k t' n⟩)
  cases pl with
  | none => cases pu with
   | none => exact go none none rfl rfl rfl rfl
   | int j u => exact go none (some (j, u)) rfl rfl rfl rfl
  | int i u' => cases pu with
   | none => exact go (some (i, u')) none rfl rfl rfl rfl
   | int j u => exact go (some (i, u')) (some (j, u)) rfl rfl rfl rfl) q
theorem W_AssignS {o i value : Expr} {pos' pos : Pos} {Q : Flow → Bm → Vs → Nm → Prop}
  (h : W w A ns L (eval value env) (fun v => W w A ns L (eval o env) (fun ov => W w A ns L (eval i env) (fun iv => W w A ns L (setItem ov iv v) (fun _ => Q .next)))) B vs N)
  (hs : swapsWith value (some (.Subscript o i pos')) pos.line env = pure false := by with_unfolding_all rfl) : W w A ns L (exec (.Assign [.Subscript o i pos'] value pos) env) Q B vs N :=
 .mk fun s F K c => wpAny_Assign_Subscript (h.run s F _ fun v s1 B1 vs1 N1 F1 X1 q => q.run s1 F1 _ fun ov s2 B2 vs2 N2 F2 X2 q => q.run s2 F2 _ fun iv s3 B3 vs3 N3 F3 X3 q => q.run s3 F3 _ fun _ s4 B4 vs4 N4 F4 X4 q => c _ s4 _ _ _ F4 (X1.trans (X2.trans (X3.trans X4))) q) hs
theorem W_setLst {l : Addr} {xs : List Value} {k : Int} {t : Tok} {v : Value} {Q : Unit → Bm → Vs → Nm → Prop} (u : Up l (.lst xs) (.lst (xs.set k.toNat v)) N N') (h0 : 0 ≤ k) (hfit : k < 2 ^ 63) (hn : k < xs.length) (q : Q () B vs N') : W w A ns L (setItem (.ref l) (.int k t) v) Q B vs N :=
 .mk fun s F K c => by
  obtain ⟨n, hl⟩ := (F.led _ u.mem).1
  have hl' : s.heap.IsList l xs.toArray := ⟨_, hl, rfl, n, rfl⟩
  unfold setItem
  try with_reducible refine wpAny_holding ?_
  first | refine wpAny_bind (wpAny_pure ?_) | skip
  refine wpAny_bind (wpAny_sequenceKey hl'.typeIs (by decide) ?_)
  refine wpAny_bind (wpAny_callSpecial?_slot (name := Str.ofString "__setitem__") hl'.typeIs slot_list_setitem
   (wpAny_call_entry slot_list_setitem hl'.typeIs entry_list_setitem ?_ (args_list_setitem _ _ _)))
  show wpAny _ _ (Builtin.List.listSubscript? (.int k t) >>= _) _ _ s
  refine wpAny_bind (wpAny_listSubscript_int (fitsIndex_of h0 hfit) ?_)
  clear hfit
  obtain ⟨j, rfl⟩ := Int.eq_ofNat_of_zero_le h0
  have hj : j < xs.toArray.size := by simp; lia
  have hx' : xs.toArray[j]? = some xs.toArray[j] := Array.getElem?_eq_getElem hj
  show wpAny _ _ ((seqItemAt l j >>= fun r => pure (r.map (j, ·))) >>= _) _ _ s
  refine wpAny_bind (wpAny_bind (wpAny_seqItemAt hl rfl (wpAny_pure ?_)))
  rw [hx']
  show wpAny _ _ (setSeqItemAt l j v >>= _) _ _ s
  refine wpAny_bind (wpAny_setSeqItemAt hl rfl ?_)
  have fin := c () { s with heap := s.heap.update l (Obj.mapSeq (·.setIfInBounds j v)) } _ _ _ (F.upd u (Heap.SameBut.update ..) (lst_upd hl (by simp))) (Fx.upd u (Heap.SameBut.update ..) rfl rfl rfl) q
  first
   | exact wpAny_bind (wpAny_pure (wpAny_pure ⟨.none, rfl, wpAny_pure fin⟩))
   | exact wpAny_pure ⟨.none, rfl, wpAny_pure fin⟩
theorem W_addLst {l b : Addr} {xs ys : List Value} {Q : Value → Bm → Vs → Nm → Prop} (r : Rd B N l (.lst xs)) (r' : Rd B N b (.lst ys)) (hz : xs.length + ys.length ≤ sizeLine) (q : ∀ a, Q (.ref a) B vs ((a, .lst (xs ++ ys)) :: N)) : W w A ns L (binaryOp .Add (.ref l) (.ref b)) Q B vs N :=
 .mk fun s F K c => by
  obtain ⟨n, hl⟩ := r.holds F
  obtain ⟨n2, hb⟩ := r'.holds F
  exact PySem.P.add_list hl hb (c _ _ _ _ _ (F.push (sl := .lst (xs ++ ys)) rfl rfl fun h' e => ⟨0, by rw [e]; simp⟩) (Fx.push (n := s.toks)) (q _)) (by simpa using hz)
theorem W_addStr {x y : Str} {t u : Tok} {Q : Value → Bm → Vs → Nm → Prop} (hz : x.length + y.length ≤ sizeLine) (q : ∀ t', Q (.str (x ++ y) t') B vs N) : W w A ns L (binaryOp .Add (.str x t) (.str y u)) Q B vs N :=
 W_readT (r := fun t' => .str (x ++ y) t') (fun s F c k => PyProof.Rows.add_str (fun t' n => k t' n) hz) q
theorem W_inStr {x y : Str} {t u : Tok} {Q : Value → Bm → Vs → Nm → Prop} (q : Q (.bool (Txt.contains x y)) B vs N) : W w A ns L (compareOp .In (.str y u) (.str x t)) Q B vs N := W_read (fun s F c k => PySem.P.in_str k) q
theorem W_eqTS {p : Addr} {x : Str} {xs : List Value} {t : Tok} {d : Nat} {Q : Value → Bm → Vs → Nm → Prop} (rm : Rm A d) (r : Rd B N p (.tup xs)) (q : Q (.bool false) B vs N) : W w A ns L (compareOp .Eq (.ref p) (.str x t)) Q B vs N :=
 W_read (fun s F c k => (PySem.SeqAt.RcAt.tuple_str x t (isTup_of (r.holds F)) (by have := rm.2.1; lia)) _ w _ _ k) q
theorem W_isiII {n : Int} {u : Tok} {Q : Value → Bm → Vs → Nm → Prop} (q : Q (.bool false) B vs N) : W w A ns L (call (.builtin "isinstance") [.int n u, .type "tuple"]) Q B vs N := W_readT (r := fun _ => .bool false) (fun s F c k => PySem.IsiPair.int_tuple (k 0 _)) fun _ => q
theorem W_isiST {x : Str} {u : Tok} {Q : Value → Bm → Vs → Nm → Prop} (q : Q (.bool false) B vs N) : W w A ns L (call (.builtin "isinstance") [.str x u, .type "tuple"]) Q B vs N := W_readT (r := fun _ => .bool false) (fun s F c k => PySem.IsiPair.str_tuple (k 0 _)) fun _ => q
theorem W_isiSS {x : Str} {u : Tok} {Q : Value → Bm → Vs → Nm → Prop} (q : Q (.bool true) B vs N) : W w A ns L (call (.builtin "isinstance") [.str x u, .type "str"]) Q B vs N := W_read (fun s F c k => PySem.IsiPair.str_str k) q
theorem W_isiNT {Q : Value → Bm → Vs → Nm → Prop} (q : Q (.bool false) B vs N) : W w A ns L (call (.builtin "isinstance") [.none, .type "tuple"]) Q B vs N := W_readT (r := fun _ => .bool false) (fun s F c k => PySem.IsiPair.NoneType_tuple (k 0 _)) fun _ => q
end
end
section
open PySem PySem.W PyProof.Rows PySem.Calls PySem.Spec
section
variable {α β : Type} {w : World} {A : Around} {ns gs : List Str} {cl : List (Str × Addr)} {L : Addr} {B : Bm} {vs : Vs} {N N' : Nm} {env : Env}
theorem iter_raw {it : Addr} {k : Itk} {i : Nat} {s : Shared} {E : Value → Shared → Prop} {Q : Value → Shared → Prop} (h : Slot.holds w s.heap it (.itr k i)) (kk : Q (.ref it) s) : wpAny (Mo w) A (pyIter (.ref it)) Q E s := by
 cases k with
 | lst l xs => exact wpAny_pyIter_listiter h kk
 | rng a n => exact wpAny_pyIter_rangeiter h kk
 | str x t =>
  have h : s.heap.IsStrIter it (strIterType x) x t i := h
  unfold strIterType at h
  by_cases ha : x.cps.all (· < 128) = true
  ·rw [if_pos ha] at h; exact wpAny_pyIter_striter_ascii h kk
  ·rw [if_neg ha] at h; exact wpAny_pyIter_striter_wide h kk
theorem W_seq {st : Stmt} {rest : List Stmt} {Q : Flow → Bm → Vs → Nm → Prop} (Mid : Bm → Vs → Nm → Prop)
  (h1 : W w A ns L (exec st env) (fun f B vs N => f = .next ∧ Mid B vs N) B vs N) (h2 : ∀ B vs N, Mid B vs N → W w A ns L (execs rest env) Q B vs N) : W w A ns L (execs (st :: rest) env) Q B vs N :=
 W_cons (W_mono h1 fun f B vs N ⟨e, q⟩ => by subst e; exact h2 _ _ _ q)
theorem W_itemT {value slice : Expr} {p : Addr} {xs : List Value} {k : Int} {u : Tok} {v : Value} {Q : Value → Bm → Vs → Nm → Prop} (r : Rd B N p (.tup xs)) (hlo : 0 ≤ k) (hhi : k < 2 ^ 63) (hx : xs[k.toNat]? = some v) (q : Q v B vs N)
  (hs : subscripted slice false (.ref p) (.int k u) = operate [.ref p, .int k u] (getItem (.ref p) (.int k u)) := by with_unfolding_all rfl) : W w A ns L (subscriptTail value slice (.ref p) (.int k u)) Q B vs N :=
 W_item_tup r (by lia) hhi (by
  have := (List.getElem?_eq_some_iff.mp hx).1
  unfold seqIndex?
  rw [if_neg (show ¬ k < 0 by lia), if_pos (by simp; lia)]) hx q hs
theorem Rm.none {d : Nat} (r : Rm A d) : A.handled = .none := r.2.2
theorem WL_rec {σ : Type} (bo : σ → Bm) (vo : σ → Vs) (no : σ → Nm) (m : σ → Nat) (I : σ → Prop) {c : Code} {Q : Flow → Bm → Vs → Nm → Prop}
  (step : ∀ s, I s → (∀ s', m s' < m s → I s' → WL w A ns L c Q (bo s') (vo s') (no s')) → WL w A ns L c Q (bo s) (vo s) (no s)) (s : σ) (hI : I s) : WL w A ns L c Q (bo s) (vo s) (no s) := by
 have : ∀ n s, m s < n → I s → WL w A ns L c Q (bo s) (vo s) (no s) := fun n => by
  induction n with
  | zero => intro s h; exact absurd h (Nat.not_lt_zero _)
  | succ n ih => exact fun s h hI => step s hI fun s' h' hI' => ih s' (by lia) hI'
 exact this _ s (Nat.lt_succ_self _) hI
theorem W_tChain {l : Expr} {op₁ op₂ : CmpOp} {r₁ r₂ : Expr} {pos : Pos} {whole : Sem Value} {Q : Bool → Bm → Vs → Nm → Prop}
  (h : W w A ns L (eval l env) (fun a B vs N => W w A ns L (eval r₁ env) (fun b B vs N => W w A ns L (compareOp op₁ a b) (fun c B vs N => W w A ns L (truthy c) (fun t B vs N =>
   if t then W w A ns L (eval r₂ env) (fun d => W w A ns L (compareOp op₂ b d) (fun c => W w A ns L (truthy c) Q)) B vs N else Q false B vs N) B vs N) B vs N) B vs N) B vs N)
  (hm : lastMarks [op₁, op₂] [r₁, r₂] = false := by with_unfolding_all rfl) : W w A ns L (isTrue (.Compare l [op₁, op₂] [r₁, r₂] pos) env whole) Q B vs N :=
 .mk fun s F K c => isTrue_chain (h.run s F _ fun a s1 B1 vs1 N1 F1 X1 q => test_link (q.run s1 F1 _ fun b s2 B2 vs2 N2 F2 X2 q => q.run s2 F2 _ fun cc s3 B3 vs3 N3 F3 X3 q => q.run s3 F3 _ fun t s4 B4 vs4 N4 F4 X4 q => by
  cases t with
  | false => exact c _ _ _ _ _ F4 (X1.trans (X2.trans (X3.trans X4))) q
  | true => exact test_last (q.run s4 F4 _ fun d s5 B5 vs5 N5 F5 X5 q => q.run s5 F5 _ fun e s6 B6 vs6 N6 F6 X6 q => q.run s6 F6 _ fun f s7 B7 vs7 N7 F7 X7 q => c _ _ _ _ _ F7 (X1.trans (X2.trans (X3.trans (X4.trans (X5.trans (X6.trans X7)))))) q))) hm
theorem W_eqB {a b : Bool} {Q : Value → Bm → Vs → Nm → Prop} (q : Q (.bool (a == b)) B vs N) : W w A ns L (compareOp .Eq (.bool a) (.bool b)) Q B vs N := W_read (fun s F c k => SeqAt.RcAt.bool_bool a b _ w _ _ k) q
theorem Fm.grow {h h' : Heap} {a : Addr} {sl : Slot} (F : Fm w ns L B vs N h) (k : ∀ b o, h.get? b = some o → h'.get? b = some o) (ha : a = h.objs.size) (hh : sl.holds w h' a) : Fm w ns L B vs ((a, sl) :: N) h' := by
 have F' := F.ext k
 have na : ∀ sl b, Slot.holds w h b sl → b ≠ a := fun sl b hb e => by
  obtain ⟨x, hx⟩ := hb.some
  have := Heap.lt_size hx
  subst e; subst ha
  exact absurd this (Nat.lt_irrefl _)
 refine ⟨F'.loc, F'.keep, fun p hp => ?_, ?_, F.out⟩
 ·rcases List.mem_cons.mp hp with rfl | hp
  ·refine ⟨hh, ?_, ?_⟩
   ·cases e : B a with
    | none => rfl
    | some o => exact absurd rfl (na _ _ (F.keep _ _ e))
   ·intro e
    obtain ⟨o, _, _, ho, _⟩ := F.loc
    have := Heap.lt_size ho
    have e : a = L := e
    subst e; subst ha
    exact absurd this (Nat.lt_irrefl _)
  ·exact F'.led p hp
 ·rw [List.map_cons, List.nodup_cons]
  refine ⟨fun hm => ?_, F.nd⟩
  obtain ⟨p, hp, e⟩ := List.mem_map.mp hm
  exact na _ _ (F.led p hp).1 e
theorem Fx.grow {Lo : Option Addr} {s s' : Shared} {sl : Slot} (k : ∀ b o, s.heap.get? b = some o → s'.heap.get? b = some o) (hg : s'.gens = s.gens) (hd : s'.drawn = s.drawn) (ho : s'.os = s.os) : Fx Lo B N s B ((s.heap.objs.size, sl) :: N) s' :=
 ⟨fun a o e h _ => ⟨k a o e, fun p hp => by
  rcases List.mem_cons.mp hp with rfl | hp
  ·exact Nat.ne_of_gt (Heap.lt_size e)
  ·exact h p hp, rfl⟩, fun _ _ h => h, hg, hd, ho⟩
theorem W_listLst {l : Addr} {xs : List Value} {Q : Value → Bm → Vs → Nm → Prop} (r : Rd B N l (.lst xs)) (hz : xs.length ≤ sizeLine) (q : ∀ a, Q (.ref a) B vs ((a, .lst xs) :: N)) : W w A ns L (call (.type "list") [.ref l]) Q B vs N :=
 .mk fun s F K c => by
  obtain ⟨n, hl⟩ := r.holds F
  exact call_list_seq l (.inl rfl) hl rfl rfl (fun h' c' k he => c _ _ _ _ _ (F.grow (sl := .lst xs) k rfl ⟨c', he⟩) (Fx.grow k rfl rfl rfl) (q _)) (by simpa using hz)
noncomputable def Ints : List Int → List Value → Prop
 | [], vs => vs = []
 | i :: is, vs => ∃ t vs', vs = .int i t :: vs' ∧ Ints is vs'
theorem ints_of : ∀ (xs : List Value) (a : Int), (∀ (j : Nat) (v : Value), xs[j]? = some v → ∃ t, v = Value.int (a + (j : Int)) t) → Ints ((List.range xs.length).map fun (i : Nat) => a + (i : Int)) xs
 | [], a, _ => rfl
 | x :: xs, a, h => by
  obtain ⟨t, ht⟩ := h 0 x rfl
  have ih := ints_of xs (a + 1) fun j v e => by
   obtain ⟨t, ht⟩ := h (j + 1) v e
   exact ⟨t, by rw [ht]; congr 1; lia⟩
  rw [List.length_cons, List.range_succ_eq_map, List.map_cons, List.map_map]
  refine ⟨t, xs, by rw [ht], ?_⟩
  have : (fun i : Nat => a + 1 + (i : Int)) = ((fun i : Nat => a + (i : Int)) ∘ Nat.succ) := funext fun i => by simp only [Function.comp]; lia
  rw [← this]; exact ih
theorem W_listRng {r : Addr} {a b : Int} {t u v : Tok} {Q : Value → Bm → Vs → Nm → Prop} (hh : A.handled = none) (hr : Rd B N r (.obj (rngO a b t u v))) (ha : 0 ≤ a) (ha' : a ≤ 100) (hb0 : 0 ≤ b) (hb : b ≤ 100)
  (q : ∀ l xs, Ints ((List.range (b - a).toNat).map fun (i : Nat) => a + (i : Int)) xs → Q (.ref l) B vs ((l, .lst xs) :: N)) : W w A ns L (call (.type "list") [.ref r]) Q B vs N :=
 .mk fun s F K c => by
  have hn : Builtin.Range.rangeSize a b 1 = ((b - a).toNat : Int) := by rw [rangeSize_one]; split <;> lia
  refine call_list_range hh (hr.holds F) (small_one (by lia) (by lia) (by lia) (by lia)) hn (by lia) fun h' tk acc' c' k he it => ?_
  refine c _ _ _ _ _ (F.grow (sl := .lst acc'.toList) k rfl ⟨c', by rw [he]⟩) (Fx.grow k rfl rfl rfl) (q _ _ ?_)
  have hl : acc'.toList.length = (b - a).toNat := by simpa using it.1
  rw [← hl]
  exact ints_of _ _ fun j v e => by
   obtain ⟨t, ht⟩ := it.2 j v (by simpa using e)
   exact ⟨t, by rw [ht]; congr 1; lia⟩
theorem WL_comp {elt iter : Expr} {x : Str} {px : Pos} {ifs : List Expr} {scope : Scope} {pos : Pos} {it acc : Value} {Q : Flow → Bm → Vs → Nm → Prop}
  (h : W w A ns L (pyNext it) (Fo (Q .next) fun v => W w A ns L (storeName env x v) (fun _ => W w A ns L (forIn ifs true fun c r => if r = true then do let ok ← isTrue c env (eval c env); pure (ForInStep.yield ok) else pure (ForInStep.yield r)) (fun ok =>
     Br ok (W w A ns L (eval elt env) (fun y => W w A ns L (call (.builtin "list.append") [acc, y]) (fun _ => WL w A ns L (.compLoop (.ListComp elt [⟨.Name x px, iter, ifs, 0⟩] scope pos) 0 it acc env) Q)))
     (WL w A ns L (.compLoop (.ListComp elt [⟨.Name x px, iter, ifs, 0⟩] scope pos) 0 it acc env) Q)))) B vs N) :
  WL w A ns L (.compLoop (.ListComp elt [⟨.Name x px, iter, ifs, 0⟩] scope pos) 0 it acc env) Q B vs N :=
 .mk fun s F => by
  refine codeAny_of_tree ?_
  show wpAny _ A ((compTurn (.ListComp elt [⟨.Name x px, iter, ifs, 0⟩] scope pos) 0 it acc env).onRaise (fun x => do noteFrame x env; theTreesLotGoes x)) _ _ s
  refine wpAny_noted ?_
  rw [compTurn_list]
  refine wpAny_bind (wpAny_standAt (wpAny_bind (noE (h.run s F _ fun r s1 B1 vs1 N1 F1 X1 q => ?_))))
  cases r with
  | none => exact wpAny_pure ⟨_, B1, vs1, N1, rfl, F1, X1, q⟩
  | some v =>
   refine wpAny_bind (wpAny_of_eq (show letOwnedTupleGo (.Name x px) it v = pure () from rfl) ?_)
   refine wpAny_bind (wpAny_assign_Name (noE (q.run s1 F1 _ fun _ s2 B2 vs2 N2 F2 X2 q => wpAny_bind (noE (q.run s2 F2 _ fun ok s3 B3 vs3 N3 F3 X3 q => ?_)))))
   have again : ∀ s4 B4 vs4 N4, Fm w ns L B4 vs4 N4 s4.heap → Fx (some L) B N s B4 N4 s4 → WL w A ns L (.compLoop (.ListComp elt [⟨.Name x px, iter, ifs, 0⟩] scope pos) 0 it acc env) Q B4 vs4 N4 → codeAny (Mo w) A (.compLoop (.ListComp elt [⟨.Name x px, iter, ifs, 0⟩] scope pos) 0 it acc env) (RL w ns L Q B N s) s4 :=
    fun s4 B4 vs4 N4 F4 X4 q => codeAny_mono (q.run s4 F4) fun r s' ⟨f, B', vs', N', e, F', X, q⟩ => ⟨f, B', vs', N', e, F', X4.trans X, q⟩
   cases ok with
   | false =>
    exact wpAny_pure (And.intro rfl (again _ _ _ _ F3 (X1.trans (X2.trans X3)) q))
   | true =>
    have q : W w A ns L (eval elt env) (fun y => W w A ns L (call (.builtin "list.append") [acc, y]) (fun _ => WL w A ns L (.compLoop (.ListComp elt [⟨.Name x px, iter, ifs, 0⟩] scope pos) 0 it acc env) Q)) B3 vs3 N3 := q
    exact wpAny_bind (wpAny_bind (noE (q.run s3 F3 _ fun y s4 B4 vs4 N4 F4 X4 q => wpAny_bind (noE (q.run s4 F4 _ fun _ s5 B5 vs5 N5 F5 X5 q => wpAny_pure (wpAny_pure (And.intro rfl (again _ _ _ _ F5 (X1.trans (X2.trans (X3.trans (X4.trans X5)))) q))))))))
theorem Fm.other {h h' : Heap} {C : Addr} (F : Fm w ns L B vs N h) (hC : C ≠ L) (hB : B C = none) (hN : ∀ p ∈ N, p.1 ≠ C) (hs : Heap.SameBut C h h') : Fm w ns L B vs N h' := by
 have kp : ∀ b sl', b ≠ C → Slot.holds w h b sl' → Slot.holds w h' b sl' := fun b sl' hb x => x.keeps (hs.2 b hb)
 obtain ⟨o, es, ep, ho, r⟩ := F.loc
 exact ⟨⟨o, es, ep, by rw [hs.2 L (Ne.symm hC)]; exact ho, r⟩, fun b o e => kp b o (fun e' => by rw [e', hB] at e; cases e) (F.keep b o e), fun p hp => ⟨kp _ _ (hN p hp) (F.led p hp).1, (F.led p hp).2⟩, F.nd, F.out⟩
theorem Fx.other {Lo : Option Addr} {s s' s'' : Shared} {C : Addr} {B' : Bm} (X : Fx Lo B N s B' N' s') (h0 : s.heap.get? C = none) (hs : Heap.SameBut C s'.heap s''.heap) (hg : s''.gens = s'.gens) (hd : s''.drawn = s'.drawn) (ho : s''.os = s'.os) : Fx Lo B N s B' N' s'' :=
 ⟨fun a o ha hn hl => by
  obtain ⟨x, y, z⟩ := X.same a o ha hn hl
  exact ⟨(hs.2 a fun e => by rw [e, h0] at ha; cases ha).trans x, y, z⟩, X.le, hg.trans X.gens, hd.trans X.drawn, ho.trans X.os⟩
theorem comp_core {elt iter : Expr} {x : Str} {px : Pos} {ifs : List Expr} {scope : Scope} {cl' : List (Str × Addr)} {pos : Pos} {ns' : List Str} {it : Addr} {k : Itk} {RR : Value → Addr → Result → Shared → Prop} {s : Shared}
  (hcell : ∀ y ∈ scope.names, y.2 ≠ .cell) (hkind : scope.kind = .function) (F : Fm w ns L B vs N s.heap) (hm : (it, .itr k 0) ∈ N) {Q : Addr → Bm → Nm → Prop}
  (h : ∀ D C, WL w A ns' C (.compLoop (.ListComp elt [⟨.Name x px, iter, ifs, 0⟩] scope pos) 0 (.ref it) (.ref D) (compEnvC scope cl' C env)) (fun f B' _ N' => f = .next ∧ Q D B' N') B (ns'.map fun _ => none) ((D, .lst []) :: N))
  (hRR : ∀ D C s' B' N' m, C ≠ L → s'.heap.Ns C m → B' C = none → (∀ p ∈ N', p.1 ≠ C) → s.heap.get? C = none → Fm w ns L B' vs N' s'.heap → Fx (some L) B N s B' N' s' → Q D B' N' → RR (.ref D) C (.ok .next) s') :
  wpAny (Mo w) A (newList []) (fun acc s₃ => wpAny (Mo w) A (newFunctionEnv scope env.globals cl' [] env.qual none .none (some env)) (fun cenv s₄ =>
   codeAny (Mo w) A (.compStart (.ListComp elt [⟨.Name x px, iter, ifs, 0⟩] scope pos) 0 (.ref it) acc { cenv with scope := relabel scope env }) (RR acc cenv.locals) s₄) (fun _ _ => False) s₃) (fun _ _ => False) s := by
 refine wpAny_newObj_type (wpAny_newFunctionEnv hcell (by intro y hy; simp at hy) (fun h₁ hns₁ hsb₁ => ?_) hkind)
 dsimp only at hns₁ hsb₁ ⊢
 have F1 := F.push (o := { cls := .type "list", data := .seq ([] : List Value).toArray }) (sl := .lst []) rfl rfl fun h' e => ⟨0, e⟩
 generalize hH2 : s.heap.push { cls := .type "list", dict := none, data := .seq ([] : List Value).toArray } = H2 at hns₁ hsb₁ F1 ⊢
 have hC : H2.objs.size = s.heap.objs.size + 1 := by rw [← hH2, Heap.size_push]
 have keep : ∀ b o, H2.get? b = some o → h₁.get? b = some o := fun b o e => hsb₁.extBut b o (Nat.ne_of_lt (Heap.lt_size e)) (Heap.get?_push_of_some _ e)
 have F2 := F1.ext keep
 have neC : ∀ a sl, Slot.holds w H2 a sl → a ≠ H2.objs.size := fun a sl x => by
  obtain ⟨o, ho⟩ := x.some
  exact Nat.ne_of_lt (Heap.lt_size ho)
 have LC : L ≠ H2.objs.size := by obtain ⟨o, _, _, ho, _⟩ := F1.loc; exact Nat.ne_of_lt (Heap.lt_size ho)
 have F3 : Fm w ns' H2.objs.size B (ns'.map fun _ => none) ((s.heap.objs.size, .lst []) :: N) h₁ := ⟨by
   have : (look ns' (ns'.map fun _ => none)) = fun _ => none := funext fun y => look_none ns' y
   rw [this]; exact hns₁, F2.keep, fun p hp => ⟨(F2.led p hp).1, (F2.led p hp).2.1, neC _ _ (F1.led p hp).1⟩, F2.nd, by
   cases e : B H2.objs.size with
   | none => rfl
   | some o => exact absurd rfl (neC _ _ (F1.keep _ _ e))⟩
 have old : ∀ b o, s.heap.get? b = some o → h₁.get? b = some o := fun b o e => keep b o (by rw [← hH2]; exact Heap.get?_push_of_some _ e)
 have loop := (h s.heap.objs.size H2.objs.size).run { s with heap := h₁, toks := s.toks + ([] : List (Str × Value)).length } F3
 have go := codeAny_mono loop fun r s' hr => by
  obtain ⟨f, B', vs', N', e, F', X, rfl, q⟩ := hr
  subst e
  have hL : s'.heap.get? L = h₁.get? L ∧ (∀ p ∈ N', p.1 ≠ L) ∧ B' L = B L := by
   obtain ⟨o, _, _, ho, _⟩ := F2.loc
   obtain ⟨a, b, c⟩ := X.same L o ho (fun p hp => by exact (F2.led p hp).2.2) (fun e => LC (by cases e; rfl))
   exact ⟨a.trans ho.symm, b, c⟩
  have low : ∀ a o, s.heap.get? a = some o → a ≠ H2.objs.size ∧ a ≠ s.heap.objs.size := fun a o e => ⟨by rw [hC]; exact Nat.ne_of_lt (Nat.lt_succ_of_lt (Heap.lt_size e)), Nat.ne_of_lt (Heap.lt_size e)⟩
  show RR (.ref s.heap.objs.size) H2.objs.size (.ok .next) s'
  refine hRR _ _ s' B' N' _ (Ne.symm LC) F'.loc F'.out (fun p hp => (F'.led p hp).2.2) ?_ ?_ ?_ q
  ·cases e : s.heap.get? H2.objs.size with
   | none => rfl
   | some o => exact absurd rfl (low _ _ e).1
  ·refine ⟨?_, F'.keep, fun p hp => ⟨(F'.led p hp).1, (F'.led p hp).2.1, hL.2.1 p hp⟩, F'.nd, by rw [hL.2.2]; exact F.out⟩
   obtain ⟨o, es, ep, ho, r⟩ := F2.loc
   exact ⟨o, es, ep, by rw [hL.1]; exact ho, r⟩
  ·refine ⟨fun a o ha hn hl => ?_, X.le, X.gens, X.drawn, X.os⟩
   exact X.same a o (old a o ha) (fun p hp => by
    rcases List.mem_cons.mp hp with rfl | hp
    ·exact Ne.symm (low a o ha).2
    ·exact hn p hp) (fun e => (low a o ha).1 (by cases e; rfl))
 refine codeAny_compStart_list go ?_
 exact iter_raw (F3.led _ (List.mem_cons_of_mem _ hm)).1 go
inductive ItP (v : Value) (N : Nm) (R : Addr → Prop) : Prop where
 | i (it : Addr) (k : Itk) (e : v = .ref it) (m : (it, .itr k 0) ∈ N) (f : R it)
theorem W_ListComp {elt iter : Expr} {x : Str} {px : Pos} {ifs : List Expr} {scope : Scope} {cl' : List (Str × Addr)} {pos : Pos} {ns' : List Str} {Q : Value → Bm → Vs → Nm → Prop}
  (hclos : closureFor scope env = pure cl') (hcell : ∀ y ∈ scope.names, y.2 ≠ .cell) (hkind : scope.kind = .function) (hnames : ∀ y ∈ scope.names, y.2 = .local → scope.names.lookup y.1 = some .local)
  (h : W w A ns L (eval iter env) (fun xv B vs N => W w A ns L (pyIter xv) (fun itv B vs N => ItP itv N fun it =>
   ∀ D C, WL w A ns' C (.compLoop (.ListComp elt [⟨.Name x px, iter, ifs, 0⟩] scope pos) 0 (.ref it) (.ref D) (compEnvC scope cl' C env)) (fun f B' _ N' => f = .next ∧ Q (.ref D) B' vs N') B (ns'.map fun _ => none) ((D, .lst []) :: N)) B vs N) B vs N)
  (hs : ∀ x, foldedSetIterable iter env x = pure x := by intro _; with_unfolding_all rfl) : W w A ns L (eval (.ListComp elt [⟨.Name x px, iter, ifs, 0⟩] scope pos) env) Q B vs N :=
 .mk fun s F K c => by
  rw [eval_ListComp]
  refine wpAny_comprehension_free (use := none) rfl hs hclos hkind hnames (h.run s F _ fun xv s1 B1 vs1 N1 F1 X1 q => q.run s1 F1 _ fun itv s2 B2 vs2 N2 F2 X2 q => ?_)
  obtain ⟨it, k, rfl, hm, hl⟩ := q
  refine comp_core hcell hkind F2 hm (Q := fun D B' N' => Q (.ref D) B' vs2 N') hl fun D C s' B' N' m hC hn hB hN h0 hF hX q => ?_
  exact ⟨m, hn, fun h' hs' => c _ _ _ _ _ (hF.other hC hB hN hs') (X1.trans (X2.trans (hX.other h0 hs' rfl rfl rfl))) q⟩
theorem W_AssignComp {elt iter : Expr} {x y : Str} {px py : Pos} {ifs : List Expr} {scope : Scope} {cl' : List (Str × Addr)} {pos spos : Pos} {ns' : List Str} {Q : Flow → Bm → Vs → Nm → Prop} (ev : Ev env ns gs cl L) (hy : y ∈ ns)
  (hsw : swapsWith (.ListComp elt [⟨.Name x px, iter, ifs, 0⟩] scope pos) (some (.Name y py)) spos.line env = pure true)
  (hclos : closureFor scope env = pure cl') (hcell : ∀ y ∈ scope.names, y.2 ≠ .cell) (hkind : scope.kind = .function) (hnames : ∀ y ∈ scope.names, y.2 = .local → scope.names.lookup y.1 = some .local)
  (h : W w A ns L (eval iter env) (fun xv B vs N => W w A ns L (pyIter xv) (fun itv B vs N => ItP itv N fun it =>
   ∀ D C, WL w A ns' C (.compLoop (.ListComp elt [⟨.Name x px, iter, ifs, 0⟩] scope pos) 0 (.ref it) (.ref D) (compEnvC scope cl' C env)) (fun f B' _ N' => f = .next ∧ ∃ vs', Pv ns vs y (.ref D) vs' ∧ Q .next B' vs' N') B (ns'.map fun _ => none) ((D, .lst []) :: N)) B vs N) B vs N)
  (hs : ∀ x, foldedSetIterable iter env x = pure x := by intro _; with_unfolding_all rfl) : W w A ns L (exec (.Assign [.Name y py] (.ListComp elt [⟨.Name x px, iter, ifs, 0⟩] scope pos) spos) env) Q B vs N :=
 .mk fun s F K c => by
  rw [exec_Assign_Name_used _ _ _ _ hsw]
  refine wpAny_bind (wpAny_standAt (wpAny_bind ?_))
  show wpAny _ A (do let _ ← comprehension (.ListComp elt [⟨.Name x px, iter, ifs, 0⟩] scope pos) scope env _ (newList []) false (eval iter env) (some (assign (.Name y py) env))) _ _ s
  refine wpAny_bind (wpAny_mono (wpAny_comprehension_free (use := some (assign (.Name y py) env)) (Q := fun _ s' => K .next s') rfl hs hclos hkind hnames
   (h.run s F _ fun xv s1 B1 vs1 N1 F1 X1 q => q.run s1 F1 _ fun itv s2 B2 vs2 N2 F2 X2 q => ?_)) (fun _ s' hq => wpAny_pure (wpAny_pure hq)) fun _ _ e => e)
  obtain ⟨it, k, rfl, hm, hl⟩ := q
  refine comp_core hcell hkind F2 hm (Q := fun D B' N' => ∃ vs', Pv ns vs2 y (.ref D) vs' ∧ Q .next B' vs' N') hl fun D C s' B' N' m hC hn hB hN h0 hF hX q => ?_
  obtain ⟨vs', pv, q⟩ := q
  refine wpAny_assign_Name (noE ((W_store (Q := fun _ B vs N => B = B' ∧ vs = vs' ∧ N = N') ev pv ⟨rfl, rfl, rfl⟩).run s' hF _ fun _ s'' B'' vs'' N'' F'' X'' e => ?_))
  obtain ⟨rfl, rfl, rfl⟩ := e
  obtain ⟨o, es, ep, ho, r⟩ := hn
  have e := (X''.same C o ho hN (fun e => hC (by cases e; rfl))).1
  exact ⟨m, ⟨o, es, ep, e, r⟩, fun h'' hs'' => c _ _ _ _ _ (F''.other hC hB hN hs'') (X1.trans (X2.trans ((hX.trans X'').other h0 hs'' rfl rfl rfl))) q⟩
noncomputable def okComp (sc : Scope) (ns gs : List Str) : Bool :=
 sc.kind == .function && decide ns.Nodup && ns.all (fun x => sc.names.lookup x == some .local) && gs.all (fun x => sc.names.lookup x == some .globalImplicit) && sc.names.all (fun x => x.2 != .free && x.2 != .cell && (x.2 != .local || sc.names.lookup x.1 == some .local))
theorem okComp.parts {sc : Scope} {ns' gs' : List Str} (h : okComp sc ns' gs' = true) : sc.kind = .function ∧ (∀ y ∈ sc.names, y.2 ≠ .free) ∧ (∀ y ∈ sc.names, y.2 ≠ .cell) ∧ (∀ y ∈ sc.names, y.2 = .local → sc.names.lookup y.1 = some .local) := by
 simp only [okComp, Bool.and_eq_true, decide_eq_true_eq, List.all_eq_true, beq_iff_eq, bne_iff_ne, Bool.or_eq_true] at h
 obtain ⟨⟨⟨⟨h1, h2⟩, h3⟩, h4⟩, h5⟩ := h
 exact ⟨h1, fun y hy => (h5 y hy).1.1, fun y hy => (h5 y hy).1.2, fun y hy e => (h5 y hy).2.elim (fun n => absurd e n) id⟩
theorem ev_comp {sc : Scope} {ns' gs' : List Str} (ev : Ev env ns gs cl L) (h : okComp sc ns' gs' = true) (C : Addr) : Ev (compEnvC sc [] C env) ns' gs' [] C := by
 have hp := okComp.parts h
 have hn : (relabel sc env).names = sc.names := by
  unfold relabel
  exact map_eq_self fun x hx => by
   obtain ⟨n, k⟩ := x
   have : (k == NameKind.free) = false := by simpa using hp.2.1 _ hx
   simp [this]
 simp only [okComp, Bool.and_eq_true, decide_eq_true_eq, List.all_eq_true, beq_iff_eq, bne_iff_ne, Bool.or_eq_true] at h
 obtain ⟨⟨⟨⟨h1, h2⟩, h3⟩, h4⟩, h5⟩ := h
 exact ⟨h1, rfl, ev.globals, ev.builtins, rfl, h2, fun x hx => by show (relabel sc env).names.lookup x = _; rw [hn]; exact h3 x hx, fun x hx => by show (relabel sc env).names.lookup x = _; rw [hn]; exact h4 x hx, fun x hx => (nomatch hx), .nil⟩
end
end
section
open PySem PySem.W PyProof.Rows PySem.Calls PySem.Spec
theorem fn_row_of (P : Params) : Fn P 23 := ⟨_, _, hf_row_of P, hd_row_of P⟩
theorem fn_is_plain_text (P : Params) : Fn P 30 := ⟨_, _, hf_is_plain_text P, hd_is_plain_text P⟩
theorem fn_with_texts_joined (P : Params) : Fn P 37 := ⟨_, _, hf_with_texts_joined P, hd_with_texts_joined P⟩
theorem fn_PatternCode_init (P : Params) : Fn P 51 := ⟨_, _, hf_PatternCode_init P, hd_PatternCode_init P⟩
theorem fn_PatternCode_emit (P : Params) : Fn P 58 := ⟨_, _, hf_PatternCode_emit P, hd_PatternCode_emit P⟩
theorem fn_PatternCode_put (P : Params) : Fn P 65 := ⟨_, _, hf_PatternCode_put P, hd_PatternCode_put P⟩
theorem fn_PatternCode_begun (P : Params) : Fn P 70 := ⟨_, _, hf_PatternCode_begun P, hd_PatternCode_begun P⟩
theorem fn_PatternCode_choice (P : Params) : Fn P 77 := ⟨_, _, hf_PatternCode_choice P, hd_PatternCode_choice P⟩
theorem fn_PatternCode_repeat (P : Params) : Fn P 84 := ⟨_, _, hf_PatternCode_repeat P, hd_PatternCode_repeat P⟩
theorem fn_PatternCode_bound (P : Params) : Fn P 91 := ⟨_, _, hf_PatternCode_bound P, hd_PatternCode_bound P⟩
theorem fn_straightened (P : Params) : Fn P 105 := ⟨_, _, hf_straightened P, hd_straightened P⟩
theorem fn_compile_pattern (P : Params) : Fn P 112 := ⟨_, _, hf_compile_pattern P, hd_compile_pattern P⟩
theorem fn_NameRef_init (P : Params) : Fn P 205 := ⟨_, _, hf_NameRef_init P, hd_NameRef_init P⟩
theorem fn_is_delayed (P : Params) : Fn P 292 := ⟨_, _, hf_is_delayed P, hd_is_delayed P⟩
theorem fn_settled (P : Params) : Fn P 299 := ⟨_, _, hf_settled P, hd_settled P⟩
theorem fn_chars_end (P : Params) : Fn P 306 := ⟨_, _, hf_chars_end P, hd_chars_end P⟩
theorem fn_len_end (P : Params) : Fn P 313 := ⟨_, _, hf_len_end P, hd_len_end P⟩
theorem fn_pos_end (P : Params) : Fn P 320 := ⟨_, _, hf_pos_end P, hd_pos_end P⟩
theorem fn_tab_end (P : Params) : Fn P 334 := ⟨_, _, hf_tab_end P, hd_tab_end P⟩
theorem fn_rem_end (P : Params) : Fn P 348 := ⟨_, _, hf_rem_end P, hd_rem_end P⟩
theorem fn_any_at (P : Params) : Fn P 355 := ⟨_, _, hf_any_at P, hd_any_at P⟩
theorem fn_run_end (P : Params) : Fn P 369 := ⟨_, _, hf_run_end P, hd_run_end P⟩
theorem fn_span_end (P : Params) : Fn P 376 := ⟨_, _, hf_span_end P, hd_span_end P⟩
theorem fn_arb_ends (P : Params) : Fn P 390 := ⟨_, _, hf_arb_ends P, hd_arb_ends P⟩
theorem fn_bal_end (P : Params) : Fn P 397 := ⟨_, _, hf_bal_end P, hd_bal_end P⟩
theorem fn_bal_ends (P : Params) : Fn P 404 := ⟨_, _, hf_bal_ends P, hd_bal_ends P⟩
theorem fn_one_end (P : Params) : Fn P 411 := ⟨_, _, hf_one_end P, hd_one_end P⟩
theorem fn_plain_end (P : Params) : Fn P 418 := ⟨_, _, hf_plain_end P, hd_plain_end P⟩
theorem fn_ends_of (P : Params) : Fn P 425 := ⟨_, _, hf_ends_of P, hd_ends_of P⟩
theorem fn_Way_init (P : Params) : Fn P 439 := ⟨_, _, hf_Way_init P, hd_Way_init P⟩
theorem fn_Way_copied (P : Params) : Fn P 446 := ⟨_, _, hf_Way_copied P, hd_Way_copied P⟩
theorem fn_Match_init (P : Params) : Fn P 467 := ⟨_, _, hf_Match_init P, hd_Match_init P⟩
theorem fn_Match_run (P : Params) : Fn P 474 := ⟨_, _, hf_Match_run P, hd_Match_run P⟩
theorem fn_Match_way_back (P : Params) : Fn P 481 := ⟨_, _, hf_Match_way_back P, hd_Match_way_back P⟩
theorem fn_Match_done (P : Params) : Fn P 488 := ⟨_, _, hf_Match_done P, hd_Match_done P⟩
theorem fn_Match_met_once (P : Params) : Fn P 495 := ⟨_, _, hf_Match_met_once P, hd_Match_met_once P⟩
theorem fn_Match_ended (P : Params) : Fn P 502 := ⟨_, _, hf_Match_ended P, hd_Match_ended P⟩
theorem fn_Match_other (P : Params) : Fn P 509 := ⟨_, _, hf_Match_other P, hd_Match_other P⟩
theorem fn_Match_met_often (P : Params) : Fn P 516 := ⟨_, _, hf_Match_met_often P, hd_Match_met_often P⟩
theorem fn_match_orders (P : Params) : Fn P 544 := ⟨_, _, hf_match_orders P, hd_match_orders P⟩
theorem fn_match_compiled (P : Params) : Fn P 551 := ⟨_, _, hf_match_compiled P, hd_match_compiled P⟩
theorem fn_PlainHost_init (P : Params) : Fn P 565 := ⟨_, _, hf_PlainHost_init P, hd_PlainHost_init P⟩
theorem fn_PlainHost_assign (P : Params) : Fn P 579 := ⟨_, _, hf_PlainHost_assign P, hd_PlainHost_assign P⟩
theorem fn_PlainHost_step (P : Params) : Fn P 586 := ⟨_, _, hf_PlainHost_step P, hd_PlainHost_step P⟩
theorem fn_match_plain (P : Params) : Fn P 600 := ⟨_, _, hf_match_plain P, hd_match_plain P⟩
theorem fn_match_at (P : Params) : Fn P 607 := ⟨_, _, hf_match_at P, hd_match_at P⟩
theorem fn_tried (P : Params) : Fn P 614 := ⟨_, _, hf_tried P, hd_tried P⟩
theorem fn_advanced (P : Params) : Fn P 621 := ⟨_, _, hf_advanced P, hd_advanced P⟩
theorem fn_led_in (P : Params) : Fn P 628 := ⟨_, _, hf_led_in P, hd_led_in P⟩
theorem fn_led_out (P : Params) : Fn P 635 := ⟨_, _, hf_led_out P, hd_led_out P⟩
theorem fn_steered (P : Params) : Fn P 642 := ⟨_, _, hf_steered P, hd_steered P⟩
theorem fn_taken (P : Params) : Fn P 649 := ⟨_, _, hf_taken P, hd_taken P⟩
theorem fn_law_take (P : Params) : Fn P 656 := ⟨_, _, hf_law_take P, hd_law_take P⟩
theorem fn_law_leaf (P : Params) : Fn P 663 := ⟨_, _, hf_law_leaf P, hd_law_leaf P⟩
theorem fn_law_drawn (P : Params) : Fn P 670 := ⟨_, _, hf_law_drawn P, hd_law_drawn P⟩
theorem fn_law_node (P : Params) : Fn P 677 := ⟨_, _, hf_law_node P, hd_law_node P⟩
theorem fn_law_is_even (P : Params) : Fn P 684 := ⟨_, _, hf_law_is_even P, hd_law_is_even P⟩
theorem fn_law_rounds (P : Params) : Fn P 696 := ⟨_, _, hf_law_rounds P, hd_law_rounds P⟩
theorem fn_law_told (P : Params) : Fn P 701 := ⟨_, _, hf_law_told P, hd_law_told P⟩
theorem kp_PatternCode (P : Params) : keepIn (Kf P) (.ref 94) = true := by kernel_rfl
theorem kp_NameRef (P : Params) : keepIn (Kf P) (.ref 208) = true := by kernel_rfl
theorem kp_Way (P : Params) : keepIn (Kf P) (.ref 449) = true := by kernel_rfl
theorem kp_Match (P : Params) : keepIn (Kf P) (.ref 526) = true := by kernel_rfl
theorem kp_PlainHost (P : Params) : keepIn (Kf P) (.ref 589) = true := by kernel_rfl
end
section
open PySem PySem.W PyProof.Rows PySem.Calls PySem.Spec
noncomputable abbrev hNs : List Str := [Str.ofString "values", Str.ofString "limit", Str.ofString "refused", Str.ofString "width", Str.ofString "steps", Str.ofString "log"]
noncomputable abbrev wNs : List Str := [Str.ofString "orders", Str.ofString "pc", Str.ofString "at", Str.ofString "named", Str.ofString "marks", Str.ofString "calls"]
noncomputable abbrev mNs : List Str := [Str.ofString "subject", Str.ofString "host", Str.ofString "history"]
noncomputable abbrev cNs : List Str := [Str.ofString "orders"]
noncomputable abbrev rNs : List Str := [Str.ofString "kind", Str.ofString "owner", Str.ofString "key"]
theorem hNd : hNs.Nodup := by decide +kernel
theorem wNd : wNs.Nodup := by decide +kernel
theorem mNd : mNs.Nodup := by decide +kernel
theorem cNd : cNs.Nodup := by decide +kernel
theorem rNd : rNs.Nodup := by decide +kernel
section
variable {α β : Type} {w : World} {A : Around} {ns gs : List Str} {cl : List (Str × Addr)} {L : Addr} {B : Bm} {vs : Vs} {N N' : Nm} {env : Env}
theorem W_getH {x C dx : Addr} {xs : List Str} {us : Vs} {name : Str} {v : Value} {b : Bool} {Q : Value → Bm → Vs → Nm → Prop} (K : KB w B) (r : Rd B N x (.inst C dx)) (rd : Rd B N dx (.att xs us)) (pc : Pc w.params C) (fd : Fd w.params C name)
  (nd : xs.Nodup) (hv : Hv xs us name v) (hh : handedIn v = true) (q : Q v B vs N) : W w A ns L (getAttr (.ref x) name b) Q B vs N := W_getA K pc fd r rd (hv.look nd) hh q
theorem W_setH {x C dx : Addr} {xs : List Str} {us us' : Vs} {name : Str} {v : Value} {Q : Unit → Bm → Vs → Nm → Prop} (K : KB w B) (r : Rd B N x (.inst C dx)) (u : Up dx (.att xs us) (.att xs us') N N') (pc : Pc w.params C) (fd : Fd w.params C name)
  (nd : xs.Nodup) (hv : Pv xs us name v us') (hz : cnt us' ≤ 1000) (q : Q () B vs N') : W w A ns L (setAttr (.ref x) name v) Q B vs N := W_setA K pc fd r u hv nd hz q
end
end
section
open PySem PySem.W PyProof.Rows PySem.Calls PySem.Spec
section
variable {α β : Type} {w : World} {A : Around} {ns gs : List Str} {cl : List (Str × Addr)} {L : Addr} {B : Bm} {vs : Vs} {N N' : Nm} {env : Env}
theorem stored_len {K : Type} [DecidableEq K] (kvs : List (K × Value)) (k : K) (v : Value) : (stored kvs k v).length ≤ kvs.length + 1 := by
 unfold stored
 split <;> simp
noncomputable abbrev TupQ (Q : Value → Bm → Vs → Nm → Prop) : List Value → Bm → Vs → Nm → Prop := fun xs B vs N => xs.length ≤ sizeLine ∧ ∀ a B', leB B B' → B' a = some (.tup xs) → Q (.ref a) B' vs N
inductive TuR (Q : Value → Bm → Vs → Nm → Prop) (v : Value) (B' : Bm) (vs' : Vs) (N' : Nm) : Prop where
 | i (a : Addr) (xs : List Value) (N'' : Nm) (e1 : v = .ref a) (e2 : N' = (a, .tup xs) :: N'') (q : ∀ B2, leB B' B2 → B2 a = some (.tup xs) → Q (.ref a) B2 vs' N'')
theorem W_TupleF {elts : List Expr} {k : Nat} {pos : Pos} {Q : Value → Bm → Vs → Nm → Prop}
  (h : W w A ns L (spliced (backTo pos (starEach elts env))) (TupQ Q) B vs N) : W w A ns L (eval (.Tuple elts k pos) env) Q B vs N :=
 .mk fun s F K c => (W_Tuple (Q := TuR Q)
  (W_mono h fun xs B vs N q => ⟨q.1, fun a => ⟨a, xs, N, rfl, rfl, q.2 a⟩⟩)).run s F K fun v s' B' vs' N' F' X ⟨a, xs, N'', e1, e2, q⟩ => by
   subst e1; subst e2
   have hB := (F'.led _ (.head _)).2.1
   exact c _ _ _ _ _ F'.frz (X.trans (Fx.frz hB)) (q _ (frz_le hB) (by unfold frz; rw [if_pos rfl]))
theorem W_drop {t : Sem α} {Q : α → Bm → Vs → Nm → Prop} (h : W w A ns L t (fun v B vs N' => ∃ N'', N''.Sublist N' ∧ Q v B vs N'') B vs N) : W w A ns L t Q B vs N :=
 .mk fun s F K c => h.run s F K fun v s' B' vs' N' F' X ⟨N'', hs, q⟩ => c v s' B' vs' N'' ⟨F'.loc, F'.keep, fun p hp => F'.led p (hs.subset hp), (hs.map (·.1)).nodup F'.nd, F'.out⟩
  ⟨fun a o ha hn hl => by obtain ⟨x, y, z⟩ := X.same a o ha hn hl; exact ⟨x, fun p hp => y p (hs.subset hp), z⟩, X.le, X.gens, X.drawn, X.os⟩ q
inductive InT (a : Value) (xs : List Value) (P : Bool → Prop) : Prop where
 | i (x : Str) (t : Tok) (ys : List Str) (e : a = .str x t) (h : StrsAre xs ys) (hz : xs.length ≤ sizeLine) (q : P (ys.any (· == x)))
theorem InT.mk {x : Str} {t : Tok} {xs : List Value} {ys : List Str} {P : Bool → Prop} (h : StrsAre xs ys) (hz : xs.length ≤ sizeLine) (q : P (ys.any (· == x))) : InT (.str x t) xs P := ⟨x, t, ys, rfl, h, hz, q⟩
noncomputable abbrev InTQ (Q : Bool → Bm → Vs → Nm → Prop) (a : Value) : List Value → Bm → Vs → Nm → Prop := fun xs B vs N => InT a xs fun b => Q b B vs N
theorem W_tInT {l : Expr} {elts : List Expr} {k : Nat} {tp pos : Pos} {whole : Sem Value} {Q : Bool → Bm → Vs → Nm → Prop}
  (h : W w A ns L (eval l env) (fun a => W w A ns L (spliced (backTo tp (starEach elts env))) (InTQ Q a)) B vs N) : W w A ns L (isTrue (.Compare l [.In] [.Tuple elts k tp] pos) env whole) Q B vs N :=
 W_tCompare (W_mono h fun a B vs N q => W_Tuple (W_mono q fun xs B vs N ⟨x, t, ys, ea, hs, hl, qq⟩ => ⟨hl, fun p => by subst ea; exact W_inTup (Rd.n List.mem_cons_self) hs (W_drop (W_truthy ⟨_, List.sublist_cons_self _ _, qq⟩))⟩))
inductive SlS (o l u : Value) (P : Value → Prop) : Prop where
 | i (x : Str) (t : Tok) (lo hi : Option Int) (e : o = .str x t) (pl : IsPart l lo) (pu : IsPart u hi) (hz : x.length ≤ sizeLine) (q : ∀ t', P (.str (Txt.slice x lo hi) t'))
theorem SlS.mk {x : Str} {t : Tok} {l u : Value} {lo hi : Option Int} {P : Value → Prop} (pl : IsPart l lo) (pu : IsPart u hi) (hz : x.length ≤ sizeLine) (q : ∀ t', P (.str (Txt.slice x lo hi) t')) : SlS (.str x t) l u P := ⟨x, t, lo, hi, rfl, pl, pu, hz, q⟩
noncomputable abbrev SlQ (Q : Value → Bm → Vs → Nm → Prop) (o l : Value) : Value → Bm → Vs → Nm → Prop := fun u B vs N => SlS o l u fun v => Q v B vs N
theorem W_strSlice {value : Expr} {lower upper : Option Expr} {p pos : Pos} {Q : Value → Bm → Vs → Nm → Prop}
  (h : W w A ns L (eval value env) (fun o => W w A ns L (evalPart lower env) (fun l => W w A ns L (evalPart upper env) (SlQ Q o l))) B vs N) : W w A ns L (eval (.Subscript value (.Slice lower upper none p) pos) env) Q B vs N :=
 W_Sub (W_mono h fun o B vs N q => W_Slice (W_mono q fun l B vs N q => W_mono q fun u B vs N ⟨x, t, lo, hi, eo, pl, pu, hz, qf⟩ => W_partN fun a => by
  subst eo
  exact W_drop (W_sliceStr (Rd.n List.mem_cons_self) pl pu hz (by with_unfolding_all rfl) fun t' => ⟨_, List.sublist_cons_self _ _, qf t'⟩)))
theorem W_setSd {d : Addr} {k : Nat} {x : Str} {t : Tok} {v : Value} {Q : Unit → Bm → Vs → Nm → Prop} (u : Up d (.sd k) (.sd (k + 1)) N N') (hz : k ≤ sizeLine) (q : Q () B vs N') : W w A ns L (setItem (.ref d) (.str x t) v) Q B vs N :=
 .mk fun s F K c => by
  obtain ⟨kvs, hl, hd⟩ := (F.led _ u.mem).1
  exact wpAny_setItem_pairs (knd := PySem.strKind PySem.Challenge.pw_sj0202_01 w) (strKind_is _ w x t) hd (fun h' hm hs => c _ _ _ _ _ (F.upd u hs ⟨_, Nat.le_trans (stored_len kvs x v) (Nat.succ_le_succ hl), hm⟩) (Fx.upd u hs rfl rfl rfl) q) (Nat.le_trans hl hz)
theorem W_dict0 {pos : Pos} {Q : Value → Bm → Vs → Nm → Prop} (q : ∀ a, Q (.ref a) B vs ((a, .sd 0) :: N)) : W w A ns L (eval (.Dict [] [] pos) env) Q B vs N :=
 .mk fun s F K c => wpAny_Dict_empty (c _ _ _ _ _ (F.push (sl := .sd 0) rfl rfl fun h' e => by
  obtain ⟨o, ho, hd⟩ := Heap.dictOf_iff.mp (Heap.DictOf.new (knd := PySem.strKind PySem.Challenge.pw_sj0202_01 w) s.heap)
  rw [Heap.get?_push_size _ rfl] at ho
  cases ho
  exact ⟨[], Nat.le_refl _, Heap.dictOf_iff.mpr ⟨_, e, hd⟩⟩) (Fx.push (n := s.toks)) (q _))
theorem W_inNil {p : Addr} {x : Str} {t : Tok} {Q : Value → Bm → Vs → Nm → Prop} (r : Rd B N p (.lst [])) (q : Q (.bool false) B vs N) : W w A ns L (compareOp .In (.str x t) (.ref p)) Q B vs N := W_inLst (ys := []) r .nil q
end
end
section
open PySem PySem.W PyProof.Rows PySem.Calls PySem.Spec
section
variable {α β : Type} {w : World} {A : Around} {ns gs : List Str} {cl : List (Str × Addr)} {L : Addr} {B : Bm} {vs : Vs} {N N' : Nm} {env : Env}
noncomputable def seqOf (o : Obj) : Array Value := match o.data with | .seq xs _ => xs | _ => #[]
structure Own (P : Params) (p : Addr) (ys : List Str) : Prop where
 is : ∃ xs n, (H1 P).get? p = some ⟨.type "tuple", none, .seq xs n, #[]⟩ ∧ StrsAre xs.toList ys
theorem Own.at {P : Params} {p : Addr} {ys : List Str} (o : Own P p ys) (hP : P = w.params) (K : KB w B) {h : Heap} (k : ∀ a o, B a = some o → o.holds w h a) : ∃ xs, IsTup h p xs ∧ StrsAre xs.toList ys := by
 subst hP
 obtain ⟨xs, n, h1, h2⟩ := o.is
 exact ⟨xs, ⟨_, k _ _ (K.own _ _ h1), rfl, n, rfl⟩, h2⟩
theorem own_SINGLE (P : Params) : Own P 15 ["chars", "len", "pos", "rpos", "tab", "rtab", "any", "notany", "span", "break", "rem"] := ⟨seqOf (o15 P), 0, by kernel_rfl, by repeat (first | exact .nil | apply StrsAre.cons)⟩
theorem own_ALONE (P : Params) : Own P 16 ["fence", "fail", "abort", "succeed"] := ⟨seqOf (o16 P), 0, by kernel_rfl, by repeat (first | exact .nil | apply StrsAre.cons)⟩
theorem own_COUNTED (P : Params) : Own P 262 ["len", "pos", "rpos", "tab", "rtab"] := ⟨seqOf (o262 P), 0, by kernel_rfl, by repeat (first | exact .nil | apply StrsAre.cons)⟩
theorem own_SIGNED (P : Params) : Own P 263 ["any", "notany", "span", "break"] := ⟨seqOf (o263 P), 0, by kernel_rfl, by repeat (first | exact .nil | apply StrsAre.cons)⟩
theorem W_inOwn {p : Addr} {ys : List Str} {x : Str} {t : Tok} {Q : Value → Bm → Vs → Nm → Prop} (K : KB w B) (o : Own w.params p ys) (q : Q (.bool (ys.any (· == x))) B vs N) : W w A ns L (compareOp .In (.str x t) (.ref p)) Q B vs N :=
 W_read (fun s F c k => by obtain ⟨xs, h1, h2⟩ := o.at rfl K F.keep; exact in_tuple_strs h1 h2 k) q
theorem W_notinOwn {p : Addr} {ys : List Str} {x : Str} {t : Tok} {Q : Value → Bm → Vs → Nm → Prop} (K : KB w B) (o : Own w.params p ys) (q : Q (.bool (!(ys.any (· == x)))) B vs N) : W w A ns L (compareOp .NotIn (.str x t) (.ref p)) Q B vs N :=
 W_read (fun s F c k => by obtain ⟨xs, h1, h2⟩ := o.at rfl K F.keep; exact notin_tuple_strs h1 h2 k) q
theorem W_cwBn {id : String} {pos : Pos} {e : Expr} {rest : List Expr} {Q : Value → Bm → Vs → Nm → Prop}
  (h : W w A ns L (spliced (backTo pos (starEach (e :: rest) env))) (fun xs => W w A ns L (call (.builtin id) xs) Q) B vs N)
  (he : starEach (e :: rest) env = (false, eval e env) :: starEach rest env := by with_unfolding_all rfl) (hplain : (backTo pos (starEach rest env)).any (·.1) = false := by with_unfolding_all rfl) :
  W w A ns L (callWith pos (.builtin id) [] (backTo pos (starEach (e :: rest) env)) []) Q B vs N := W_cwB h he hplain
end
end
section
open PySem PySem.W PyProof.Rows PySem.Calls PySem.Spec
section
variable {α β : Type} {w : World} {A : Around} {ns gs : List Str} {cl : List (Str × Addr)} {L : Addr} {B : Bm} {vs : Vs} {N N' : Nm} {env : Env}
theorem W_perm {t : Sem α} {Q : α → Bm → Vs → Nm → Prop} (hp : N.Perm N') (h : W w A ns L t Q B vs N') : W w A ns L t Q B vs N := W_weaken (fun p hp' => hp.mem_iff.mpr hp') (fun nd => ((hp.map _).nodup_iff).mp nd) h
theorem WL_perm {c : Code} {Q : Flow → Bm → Vs → Nm → Prop} (hp : N.Perm N') (h : WL w A ns L c Q B vs N') : WL w A ns L c Q B vs N :=
 .mk fun s F => codeAny_mono (h.run s ⟨F.loc, F.keep, fun p hp' => F.led p (hp.mem_iff.mpr hp'), ((hp.map _).nodup_iff).mp F.nd, F.out⟩) fun r s' ⟨f, B', vs', N'', e, F', X, q⟩ =>
  ⟨f, B', vs', N'', e, F', ⟨fun a o ha hn hl => X.same a o ha (fun p hp' => hn p (hp.mem_iff.mpr hp')) hl, X.le, X.gens, X.drawn, X.os⟩, q⟩
theorem W_Break {pos : Pos} {Q : Flow → Bm → Vs → Nm → Prop} (h : Q .brk B vs N) : W w A ns L (exec (.Break pos) env) Q B vs N := .mk fun s F K c => wpAny_Break (c _ _ _ _ _ F .refl h)
theorem W_Continue {pos : Pos} {Q : Flow → Bm → Vs → Nm → Prop} (h : Q .cont B vs N) : W w A ns L (exec (.Continue pos) env) Q B vs N := .mk fun s F K c => wpAny_Continue (c _ _ _ _ _ F .refl h)
theorem Wc_perm {c : Code} {Q : Value → Bm → Nm → Prop} (hp : N.Perm N') (h : Wc w A c (fun v B' N2 => ∃ N3, N2.Perm N3 ∧ Q v B' N3) B N') : Wc w A c Q B N :=
 .mk fun s F => codeAny_mono (h.run s ⟨F.keep, fun p hp' => F.led p (hp.mem_iff.mpr hp'), ((hp.map _).nodup_iff).mp F.nd⟩) fun r s' ⟨v, B', N2, e, F', X, N3, hs, q⟩ =>
  ⟨v, B', N3, e, ⟨F'.keep, fun p hp => F'.led p (hs.mem_iff.mpr hp), ((hs.map _).nodup_iff).mp F'.nd⟩,
   ⟨fun a o ha hn hl => by obtain ⟨x, y, z⟩ := X.same a o ha (fun p hp' => hn p (hp.mem_iff.mpr hp')) hl; exact ⟨x, fun p hp => y p (hs.mem_iff.mpr hp), z⟩, X.le, X.gens, X.drawn, X.os⟩, q⟩
noncomputable def Nx (R : Bm → Vs → Nm → Prop) (Q : Flow → Bm → Vs → Nm → Prop) : Flow → Bm → Vs → Nm → Prop
 | .next => R
 | .cont => Q .cont
 | .brk => Q .brk
 | .ret v => Q (.ret v)
theorem W_consN {st : Stmt} {rest : List Stmt} {Q : Flow → Bm → Vs → Nm → Prop} (h : W w A ns L (exec st env) (Nx (W w A ns L (execs rest env) Q) Q) B vs N) : W w A ns L (execs (st :: rest) env) Q B vs N :=
 W_cons (W_mono h fun f B vs N q => by cases f <;> exact q)
theorem W_consW {test : Expr} {body orelse rest : List Stmt} {pos : Pos} {Q : Flow → Bm → Vs → Nm → Prop} (h : WL w A ns L (.whileLoop test body orelse env) (Nx (W w A ns L (execs rest env) Q) Q) B vs N) : W w A ns L (execs (.While test body orelse pos :: rest) env) Q B vs N := W_consN (W_While h)
theorem W_consF {target iter : Expr} {body orelse rest : List Stmt} {pos : Pos} {Q : Flow → Bm → Vs → Nm → Prop} (h : W w A ns L (exec (.For target iter body orelse pos) env) (Nx (W w A ns L (execs rest env) Q) Q) B vs N) : W w A ns L (execs (.For target iter body orelse pos :: rest) env) Q B vs N := W_consN h
end
noncomputable def wTest : Stmt → Expr | .While t _ _ _ => t | _ => .Constant .none 0 ⟨0, 0, 0, 0⟩
noncomputable def wBody : Stmt → List Stmt | .While _ b _ _ => b | _ => []
noncomputable def wElse : Stmt → List Stmt | .While _ _ e _ => e | _ => []
noncomputable def wLoop (s : Stmt) (env : Env) : Code := .whileLoop (wTest s) (wBody s) (wElse s) env
end
section
open PySem PySem.W PyProof.Rows PySem.Calls PySem.Spec
section
variable {α β : Type} {w : World} {A : Around} {ns gs : List Str} {cl : List (Str × Addr)} {L : Addr} {B : Bm} {vs : Vs} {N N' : Nm} {env : Env}
theorem W_lenTup {l : Addr} {xs : List Value} {Q : Value → Bm → Vs → Nm → Prop} (r : Rd B N l (.tup xs)) (hx : xs.length < 2 ^ 62) (q : ∀ u, Q (.int xs.length u) B vs N) : W w A ns L (call (.builtin "len") [.ref l]) Q B vs N :=
 W_readT (r := fun u => .int xs.length u) (fun s F c k => PyProof.Rows.len_tuple (isTup_of (r.holds F)) (by simp; lia) (by simpa using k _ _)) q
inductive SlL (B : Bm) (N : Nm) (o l u k : Value) (P : Value → Nm → Prop) : Prop where
 | mk (a : Addr) (xs : List Value) (lo hi st : Option Int) (e : o = .ref a) (r : Rd B N a (.lst xs)) (pl : IsPart l lo) (pu : IsPart u hi) (pk : IsPart k st) (h0 : st ≠ some 0) (hz : xs.length ≤ sizeLine) (q : ∀ b, P (.ref b) ((b, .lst (slicePick xs.toArray lo hi st).toList) :: N))
theorem W_lstSlice {value : Expr} {lower upper step : Option Expr} {p pos : Pos} {Q : Value → Bm → Vs → Nm → Prop}
  (h : W w A ns L (eval value env) (fun o B vs N => W w A ns L (evalPart lower env) (fun l B vs N => W w A ns L (evalPart upper env) (fun u B vs N => W w A ns L (evalPart step env) (fun k B vs N => SlL B N o l u k fun v N => Q v B vs N) B vs N) B vs N) B vs N) B vs N)
  (hs : ∀ a sa, ∃ ops, subscripted (.Slice lower upper step p) false (.ref a) (.ref sa) = operate ops (getItem (.ref a) (.ref sa)) := by intro _ _; exact ⟨_, by with_unfolding_all rfl⟩) : W w A ns L (eval (.Subscript value (.Slice lower upper step p) pos) env) Q B vs N :=
 W_Sub (W_mono h fun o B vs N q => W_Slice (W_mono q fun l B vs N q => W_mono q fun u B vs N q => W_mono q fun k B vs N ⟨a, xs, lo, hi, st, eo, r, pl, pu, pk, h0, hz, qf⟩ => fun sa => by
  subst eo
  exact W_drop (W_sliceLst (match r with | .b e => .b e | .n m => .n (List.mem_cons_of_mem _ m)) (Rd.n List.mem_cons_self) pl pu pk h0 hz (hs a sa).choose_spec fun b => ⟨_, List.Sublist.cons_cons _ (List.sublist_cons_self _ _), qf b⟩)))
theorem SlL.rev {a : Addr} {xs : List Value} {t : Tok} {P : Value → Nm → Prop} (r : Rd B N a (.lst xs)) (hz : xs.length ≤ sizeLine) (h : ∀ b, P (.ref b) ((b, .lst xs.reverse) :: N)) : SlL B N (.ref a) .none .none (.int (-1) t) P :=
 ⟨a, xs, none, none, some (-1), rfl, r, .none, .none, .int _ _, by decide, hz, fun b => by rw [krv_pick]; exact h b⟩
theorem set_mid {xs ys : List Value} {a b : Value} {n : Nat} (h : n = xs.length) : (xs ++ a :: ys).set n b = xs ++ b :: ys := by subst h; simp
theorem W_LC {elt iter : Expr} {x : Str} {px : Pos} {ifs : List Expr} {scope : Scope} {pos : Pos} (ns' gs' : List Str) {Q : Value → Bm → Vs → Nm → Prop} (ev : Ev env ns gs cl L) (ok : okComp scope ns' gs' = true)
  (h : W w A ns L (eval iter env) (fun xv B vs N => W w A ns L (pyIter xv) (fun itv B vs N => ItP itv N fun it =>
   ∀ D C cenv, Ev cenv ns' gs' [] C → WL w A ns' C (.compLoop (.ListComp elt [⟨.Name x px, iter, ifs, 0⟩] scope pos) 0 (.ref it) (.ref D) cenv) (fun f B' _ N' => f = .next ∧ Q (.ref D) B' vs N') B (ns'.map fun _ => none) ((D, .lst []) :: N)) B vs N) B vs N)
  (hs : ∀ x, foldedSetIterable iter env x = pure x := by intro _; with_unfolding_all rfl) : W w A ns L (eval (.ListComp elt [⟨.Name x px, iter, ifs, 0⟩] scope pos) env) Q B vs N :=
 have p := okComp.parts ok
 W_ListComp (ns' := ns') (closureFor_none p.2.1) p.2.2.1 p.1 p.2.2.2 (W_mono h fun xv B vs N q => W_mono q fun itv B vs N ⟨it, k, e, m, f⟩ => ⟨it, k, e, m, fun D C => f D C _ (ev_comp ev ok C)⟩) hs
theorem W_forNil {f : Expr → Bool → Sem (ForInStep Bool)} {Q : Bool → Bm → Vs → Nm → Prop} (h : Q true B vs N) : W w A ns L (forIn ([] : List Expr) true f) Q B vs N := W_pure h
end
end
section
open PySem PySem.W PyProof.Rows PySem.Calls PySem.Spec
section
variable {α β : Type} {w : World} {A : Around} {ns gs : List Str} {cl : List (Str × Addr)} {L : Addr} {B : Bm} {vs : Vs} {N N' : Nm} {env : Env}
theorem Rm.units {d : Nat} (r : Rm A d) : A.units < cLine := by have := r.2.1; lia
theorem W_neNil {d : Nat} {l e : Addr} {xs : List Value} {Q : Value → Bm → Vs → Nm → Prop} (rm : Rm A d) (r : Rd B N l (.lst xs)) (r' : Rd B N e (.lst [])) (q : Q (.bool (!xs.isEmpty)) B vs N) : W w A ns L (compareOp .NotEq (.ref l) (.ref e)) Q B vs N :=
 W_read (fun s F c k => by
  cases xs with
  | nil => exact (PySem.SeqAt.RcNeAt.lists (e := fun _ => true) (isList_of (r.holds F)) (isList_of (r'.holds F)) rfl rm.units (fun j h1 => by simp at h1)) _ w _ _ k
  | cons x xs => exact (PySem.SeqAt.RcNeAt.lists_lengths (isList_of (r.holds F)) (isList_of (r'.holds F)) (by simp) rm.units) _ w _ _ k) q
theorem W_strInt {n : Int} {t : Tok} {Q : Value → Bm → Vs → Nm → Prop} (h0 : 0 ≤ n) (h : n ≤ 100000) (q : ∀ x t', Q (.str x t') B vs N) : W w A ns L (call (.type "str") [.int n t]) Q B vs N :=
 W_readT (r := fun t' => .str (toString n) t') (fun s F c k => PySem.P.str_of_int (by
  have : n.natAbs.log2 ≤ n.natAbs := Nat.log2_le_self _
  have h3 : n.natAbs.log2 < 20 := by
   by_cases hz : n.natAbs = 0
   ·rw [hz]; decide
   ·exact (Nat.log2_lt hz).mpr (by lia)
  lia) (k _ _)) fun t' => q _ t'
theorem W_starts {x y : Str} {t u : Tok} {Q : Value → Bm → Vs → Nm → Prop} (q : Q (.bool (Txt.startswith x y)) B vs N) : W w A ns L (call (.builtin "str.startswith") [.str x t, .str y u]) Q B vs N := W_read (fun s F c k => PySem.SC.startswith k) q
theorem W_lstripC {x y : Str} {t u : Tok} {Q : Value → Bm → Vs → Nm → Prop} (hx : x.length ≤ sizeLine) (q : ∀ t', Q (.str (Txt.lstripChars x y) t') B vs N) : W w A ns L (call (.builtin "str.lstrip") [.str x t, .str y u]) Q B vs N :=
 W_readT (r := fun t' => .str (Txt.lstripChars x y) t') (fun s F c k => PySem.SC.lstripChars (fun t' n => k t' n) hx) q
theorem W_join {x : Str} {t : Tok} {l : Addr} {xs : List Value} {ys : List Str} {Q : Value → Bm → Vs → Nm → Prop} (r : Rd B N l (.lst xs)) (hi : StrsAre xs ys) (hx : x.length ≤ 16) (hw : (ys.map (·.length)).sum + ys.length ≤ 1048576) (q : ∀ t', Q (.str (Txt.join x ys) t') B vs N) : W w A ns L (call (.builtin "str.join") [.str x t, .ref l]) Q B vs N :=
 W_readT (r := fun t' => .str (Txt.join x ys) t') (fun s F c k => PyProof.Rows.join_listW (isList_of (r.holds F)) (by simpa using hi) hx hw (fun t' n => k t' n)) q
inductive Same2 (B : Bm) : List Value → List Value → Prop
 | nil : Same2 B [] []
 | cons {a b : Addr} {n : Str} {t u : Tok} {e : Int} {t' u' : Tok} {xs ys : List Value} : B a = some (.tup [.str n t, .int e t']) → B b = some (.tup [.str n u, .int e u']) → Same2 B xs ys → Same2 B (Value.ref a :: xs) (Value.ref b :: ys)
theorem Same2.get {B : Bm} {xs ys : List Value} (h : Same2 B xs ys) : xs.length = ys.length ∧ ∀ (j : Nat) (x y : Value), xs[j]? = some x → ys[j]? = some y → ∃ a b n t u e t' u', x = Value.ref a ∧ y = Value.ref b ∧ B a = some (.tup [.str n t, .int e t']) ∧ B b = some (.tup [.str n u, .int e u']) := by
 induction h with
 | nil => exact ⟨rfl, fun j x y e => by simp at e⟩
 | @cons a b n t u e t' u' xs ys h1 h2 h3 ih =>
  refine ⟨by simp [ih.1], fun j x y ex ey => ?_⟩
  cases j with
  | zero => simp at ex ey; exact ⟨a, b, n, t, u, e, t', u', ex.symm, ey.symm, h1, h2⟩
  | succ j => exact ih.2 j x y (by simpa using ex) (by simpa using ey)
theorem isTuple_of {h : Heap} {a : Addr} {xs : List Value} (x : (Slot.tup xs).holds w h a) : h.IsTuple a xs.toArray := let ⟨n, e⟩ := x; ⟨_, e, rfl, n, rfl⟩
theorem pair_eq {s : Shared} {A : Around} {a b : Addr} {n : Str} {t u : Tok} {e : Int} {t' u' : Tok} (hu : A.units < cLine) (h1 : s.heap.IsTuple a #[.str n t, .int e t']) (h2 : s.heap.IsTuple b #[.str n u, .int e u']) : PySem.SeqAt.EqAt A s (.ref a) (.ref b) true := by
 by_cases hab : a = b
 ·subst hab; exact PySem.SeqAt.EqAt.same _
 ·refine PySem.SeqAt.EqAt.of_refs hab ?_
  exact PySem.SeqAt.RcAt.tuples (e := fun _ => true) h1 h2 hu fun j hj1 hj2 => by
   match j with
   | 0 => have := PySem.SeqAt.EqAt.str_str (A := A.in1) (s := s) n t n u; rw [beq_self_eq_true] at this; exact this
   | 1 => have := PySem.SeqAt.EqAt.int_int (A := A.in1) (s := s) e t' e u'; rw [beq_self_eq_true] at this; exact this
   | j + 2 => exact absurd hj1 (by simp)
theorem W_neLog {d : Nat} {l e : Addr} {xs ys : List Value} {Q : Value → Bm → Vs → Nm → Prop} (rm : Rm A (d + 1)) (r : Rd B N l (.lst xs)) (r' : Rd B N e (.lst ys)) (hs : Same2 B xs ys) (q : Q (.bool false) B vs N) : W w A ns L (compareOp .NotEq (.ref l) (.ref e)) Q B vs N :=
 W_read (fun s F c k => by
  have g := hs.get
  have := PySem.SeqAt.RcNeAt.lists (A := A) (s := s) (e := fun _ => true) (isList_of (r.holds F)) (isList_of (r'.holds F)) (by simpa using g.1) rm.units (fun j h1 h2 => by
   obtain ⟨a, b, n, t, u, e, t', u', e1, e2, h3, h4⟩ := g.2 j xs.toArray[j] ys.toArray[j] (by simp) (by simp)
   rw [e1, e2]
   exact pair_eq (rm.in1).units (isTuple_of (F.keep _ _ h3)) (isTuple_of (F.keep _ _ h4)))
  rw [show ((List.range xs.toArray.size).all fun _ => true) = true from List.all_eq_true.mpr fun _ _ => rfl] at this
  exact this _ w _ _ k) q
theorem W_eqLog {d : Nat} {l e : Addr} {xs ys : List Value} {Q : Value → Bm → Vs → Nm → Prop} (rm : Rm A (d + 1)) (r : Rd B N l (.lst xs)) (r' : Rd B N e (.lst ys)) (hs : Same2 B xs ys) (q : Q (.bool true) B vs N) : W w A ns L (compareOp .Eq (.ref l) (.ref e)) Q B vs N :=
 W_read (fun s F c k => by
  have g := hs.get
  have := PySem.SeqAt.RcAt.lists (A := A) (s := s) (e := fun _ => true) (isList_of (r.holds F)) (isList_of (r'.holds F)) (by simpa using g.1) rm.units (fun j h1 h2 => by
   obtain ⟨a, b, n, t, u, e, t', u', e1, e2, h3, h4⟩ := g.2 j xs.toArray[j] ys.toArray[j] (by simp) (by simp)
   rw [e1, e2]
   exact pair_eq (rm.in1).units (isTuple_of (F.keep _ _ h3)) (isTuple_of (F.keep _ _ h4)))
  rw [show ((List.range xs.toArray.size).all fun _ => true) = true from List.all_eq_true.mpr fun _ _ => rfl] at this
  exact this _ w _ _ k) q
noncomputable abbrev sK (w : World) : PySem.KeyKind PySem.Challenge.pw_sj0202_01 w Str := PySem.strKind PySem.Challenge.pw_sj0202_01 w
theorem one_in (P : Params) : (H1 P).get? 1 = some (boot_o_1 P) := by kernel_rfl
theorem F_notSys {dd : Addr} {o : Obj} (K : KB w B) {h : Heap} (F : Fm w ns L B vs N h) (m : (dd, Slot.obj o) ∈ N) : (dd == sysModules) = false := by
 have h1 := (F.led _ m).2.1
 have h2 := K.own _ _ (one_in w.params)
 simp only [beq_eq_false_iff_ne, ne_eq]
 intro e
 rw [show sysModules = 1 from rfl] at e
 subst e
 rw [h2] at h1; cases h1
theorem W_gmDict {dd : Addr} {o : Obj} {kvs : List (Str × Value)} {pl : Sem Bool} {Q : Value × List Value → Bm → Vs → Nm → Prop} (r : Rd B N dd (.obj o)) (ho : o.IsDictOf (sK w) kvs) (q : Q (.builtin "dict.get", [.ref dd]) B vs N) : W w A ns L (getMethod (.ref dd) "get" pl) Q B vs N :=
 W_read (fun s F c k => by
  have hd : s.heap.DictOf (sK w) dd kvs := Heap.dictOf_iff.mpr ⟨o, r.holds F, ho⟩
  exact getMethod_builtin hd.typeIs PySem.F.plainAttrs_dict PySem.F.slot_dict_get PySem.F.type_dict_get hd.mapOf.noDict k) q
theorem W_dictGet {dd : Addr} {o : Obj} {kvs : List (Str × Value)} {x : Str} {t : Tok} {dflt : Value} {Q : Value → Bm → Vs → Nm → Prop} (K : KB w B) (m : (dd, Slot.obj o) ∈ N) (ho : o.IsDictOf (sK w) kvs) (q : Q ((valueAt kvs x).getD dflt) B vs N) : W w A ns L (call (.builtin "dict.get") [.ref dd, .str x t, dflt]) Q B vs N :=
 W_readT (r := fun _ => (valueAt kvs x).getD dflt) (fun s F c k => by
  have hd : s.heap.DictOf (sK w) dd kvs := Heap.dictOf_iff.mpr ⟨o, (F.led _ m).1, ho⟩
  exact call_meetsIn PySem.F.slot_dict_get hd.typeIs PySem.F.entry_dict_get (PySem.F.args_dict_get_3 _ _ _) (meets_dict_get_default (sK w) dd (strKind_is _ w x t) (F_notSys K F m) dflt) ⟨_, hd.mapOf, k 0 _⟩) fun _ => q
end
structure EvP (w : World) (A : Around) (t : Sem (List (Value × Value))) (k1 k2 : Str) (a b : Int) : Prop where
 run : ∀ s (K : List (Value × Value) → Shared → Prop), (∀ t1 t2 t t' n, K [(.str k1 t1, .int a t), (.str k2 t2, .int b t')] { s with toks := n }) → wpAny (Mo w) A t K (fun _ _ => False) s
section
variable {w : World} {A : Around} {env : Env} {k1 k2 : Str} {i j l : Int} {n1 n2 n3 n4 n5 : Nat} {p1 p2 p3 p4 p5 p6 pos : Pos}
theorem pt2 {x1 x2 v1 v2 : Expr} : pairTrees [some x1, some x2] [v1, v2] env pos = [(eval x1 env, do let x ← eval v1 env; standAt pos; pure x), (eval x2 env, do let x ← eval v2 env; standAt pos; pure x)] := rfl
theorem ev_two {a1 b1 a2 b2 : Sem Value} {c d : Int} (h1 : ∀ s (K : Value → Shared → Prop), (∀ t n, K (.str k1 t) { s with toks := n }) → wpAny (Mo w) A a1 K (fun _ _ => False) s) (h2 : ∀ s (K : Value → Shared → Prop), (∀ t n, K (.int c t) { s with toks := n }) → wpAny (Mo w) A b1 K (fun _ _ => False) s)
  (h3 : ∀ s (K : Value → Shared → Prop), (∀ t n, K (.str k2 t) { s with toks := n }) → wpAny (Mo w) A a2 K (fun _ _ => False) s) (h4 : ∀ s (K : Value → Shared → Prop), (∀ t n, K (.int d t) { s with toks := n }) → wpAny (Mo w) A b2 K (fun _ _ => False) s) :
  EvP w A (evalPairs [(a1, do let x ← b1; standAt pos; pure x), (a2, do let x ← b2; standAt pos; pure x)]) k1 k2 c d :=
 .mk fun s K q => PySem.evalPairs_cons (h1 s _ fun t1 n1 => wpAny_bind (h2 _ _ fun t n2 => wpAny_bind (wpAny_standAt (wpAny_pure (PySem.evalPairs_cons (h3 _ _ fun t2 n3 => wpAny_bind (h4 _ _ fun t' n4 => wpAny_bind (wpAny_standAt (wpAny_pure (PySem.evalPairs_nil (q t1 t2 t t' n4)))))))))))
theorem dict_gen {Q : Value → Shared → Prop} {s : Shared} {keys : List (Option PySem.Expr)} {values : List PySem.Expr} (h1 : keys.all (·.isSome) = true) (h2 : keys.length = values.length) (h3 : keys ≠ []) (h4 : keys.length ≤ 15) {c d : Int} (hk : k1 ≠ k2)
  (he : EvP w A (evalPairs (pairTrees keys values env pos)) k1 k2 c d)
  (q : ∀ t t' n h', h'.DictOf (PySem.strKind PySem.Challenge.pw_sj0202_01 w) s.heap.objs.size [(k1, .int c t), (k2, .int d t')] → (∀ b o', s.heap.get? b = some o' → h'.get? b = some o') → Q (.ref s.heap.objs.size) { s with heap := h', toks := n }) :
  wpAny (Mo w) A (eval (.Dict keys values pos) env) Q (fun _ _ => False) s :=
 wpAny_Dict_walk (knd := PySem.strKind PySem.Challenge.pw_sj0202_01 w) h1 h2 h3 h4 (he.run _ _ fun t1 t2 t t' n => ⟨[(k1, _), (k2, _)], ⟨strKind_is _ w k1 _, rfl, strKind_is _ w k2 _, rfl, trivial⟩, Heap.DictOf.new (knd := PySem.strKind PySem.Challenge.pw_sj0202_01 w) s.heap, fun h' hd hs => by
  rw [merged_nil_of_nodup _ (by simp [hk])] at hd
  exact q _ _ _ h' hd fun b o' e => (hs.2 b (Nat.ne_of_lt (Heap.lt_size e))).trans (Heap.get?_push_of_some _ e)⟩)
end
section
variable {α β : Type} {w : World} {A : Around} {ns gs : List Str} {cl : List (Str × Addr)} {L : Addr} {B : Bm} {vs : Vs} {N N' : Nm} {env : Env}
theorem W_dictG {keys : List (Option PySem.Expr)} {values : List PySem.Expr} {pos : Pos} {k1 k2 : Str} {c d : Int} {Q : Value → Bm → Vs → Nm → Prop} (h1 : keys.all (·.isSome) = true) (h2 : keys.length = values.length) (h3 : keys ≠ []) (h4 : keys.length ≤ 15) (hk : k1 ≠ k2)
  (he : EvP w A (evalPairs (pairTrees keys values env pos)) k1 k2 c d) (q : ∀ d' o t t', o.IsDictOf (sK w) [(k1, .int c t), (k2, .int d t')] → Q (.ref d') B vs ((d', .obj o) :: N)) : W w A ns L (eval (.Dict keys values pos) env) Q B vs N :=
 .mk fun s F K k => dict_gen h1 h2 h3 h4 hk he fun t t' n h' hd kk => by
  obtain ⟨o, ho, hio⟩ := Heap.dictOf_iff.mp hd
  exact k _ _ _ _ _ (F.grow (sl := .obj o) kk rfl ho) (Fx.grow kk rfl rfl rfl) (q _ o _ _ hio)
theorem W_dict2 {k1 k2 : Str} {i j l : Int} {n1 n2 n3 n4 n5 : Nat} {p1 p2 p3 p4 p5 p6 pos : Pos} {Q : Value → Bm → Vs → Nm → Prop} (hk : k1 ≠ k2) (q : ∀ d o t t', o.IsDictOf (sK w) [(k1, .int i t), (k2, .int (j - l) t')] → Q (.ref d) B vs ((d, .obj o) :: N)) :
  W w A ns L (eval (.Dict [some (.Constant (.str k1) n1 p1), some (.Constant (.str k2) n2 p2)] [.Constant (.int i) n3 p3, .BinOp (.Constant (.int j) n4 p4) .Sub (.Constant (.int l) n5 p5) p6] pos) env) Q B vs N :=
 W_dictG rfl rfl (List.cons_ne_nil _ _) (Nat.le_of_ble_eq_true rfl) hk (by
  rw [pt2]
  exact ev_two (fun s K q => wpAny_Constant_str (q _ _)) (fun s K q => wpAny_Constant_int (q _ _)) (fun s K q => wpAny_Constant_str (q _ _)) (fun s K q => wpAny_BinOp (wpAny_Constant_int (wpAny_Constant_int (sub_int' (q _ _)))))) q
end
end
section
open PySem PySem.W PyProof.Rows PySem.Calls PySem.Spec
section
variable {w : World} {A : Around} {ns gs : List Str} {cl : List (Str × Addr)} {L : Addr} {B : Bm} {vs : Vs} {N N' : Nm} {env : Env}
theorem W_consR {e : Option Expr} {rest : List Stmt} {pos : Pos} {Q : Flow → Bm → Vs → Nm → Prop} (h : W w A ns L (exec (.Return e pos) env) (Nx (W w A ns L (execs rest env) Q) Q) B vs N) : W w A ns L (execs (.Return e pos :: rest) env) Q B vs N := W_consN h
end
end
section
open PySem PySem.W PyProof.Rows PySem.Calls PySem.Spec
noncomputable def okDefC (s : Stmt) (ps ns cs gs : List Str) : Bool :=
 isDef s && (dScope s).kind == .function && !(dScope s).isCoroutine && !(dScope s).isGenerator && decide (ns.Nodup) && decide (cs.Nodup) &&
 ns.all (fun x => (dScope s).names.lookup x == some .local) && gs.all (fun x => (dScope s).names.lookup x == some .globalImplicit) && cs.all (fun x => (dScope s).names.lookup x == some .cell) &&
 decide ((((dScope s).names.filter fun x => x.2 == .cell).map (·.1)) = cs) && ps.all (fun x => ns.contains x || cs.contains x)
noncomputable def cellN (cm : Str → Option Value) (cs : List (Str × Addr)) : Nm := cs.map fun p => (p.2, .cell (cm p.1))
section
variable {α β : Type} {w : World} {A : Around} {ns gs : List Str} {cl : List (Str × Addr)} {L : Addr} {B : Bm} {vs : Vs} {N N' : Nm} {env : Env}
theorem cell_holds {h : Heap} {c : Addr} {v : Option Value} (x : h.IsCell c v) : (Slot.cell v).holds w h c := let ⟨o, h1, h2⟩ := x; ⟨o, h1, h2⟩
theorem holds_cell {h : Heap} {c : Addr} {v : Option Value} (x : (Slot.cell v).holds w h c) : h.IsCell c v := let ⟨o, h1, h2⟩ := x; ⟨o, h1, h2⟩
theorem cellsFrom_fst : ∀ (names : List (Str × NameKind)) (n : Nat) (acc : List (Str × Addr)), (cellsFrom n names acc).map (·.1) = ((names.filter fun x => x.2 == .cell).map (·.1)).reverse ++ acc.map (·.1)
 | [], n, acc => by simp [cellsFrom]
 | (x, .cell) :: r, n, acc => by
  rw [show cellsFrom n ((x, .cell) :: r) acc = cellsFrom (n + 1) r ((x, n) :: acc) from rfl, cellsFrom_fst r, show ((x, NameKind.cell) :: r).filter (fun x => x.2 == .cell) = (x, .cell) :: r.filter (fun x => x.2 == .cell) from rfl]
  simp
 | (x, .local) :: r, n, acc => cellsFrom_fst r n acc
 | (x, .free) :: r, n, acc => cellsFrom_fst r n acc
 | (x, .globalImplicit) :: r, n, acc => cellsFrom_fst r n acc
 | (x, .globalExplicit) :: r, n, acc => cellsFrom_fst r n acc
theorem lookup_mem {cs : List (Str × Addr)} (nd : (cs.map (·.1)).Nodup) {p : Str × Addr} (h : p ∈ cs) : cs.lookup p.1 = some p.2 := by
 induction cs with
 | nil => cases h
 | cons q cs ih =>
  rw [List.map_cons, List.nodup_cons] at nd
  rcases List.mem_cons.mp h with rfl | h
  ·rw [List.lookup_cons, beq_self_eq_true]
  ·rw [List.lookup_cons]
   have : (p.1 == q.1) = false := by
    simp only [beq_eq_false_iff_ne, ne_eq]
    intro e; exact nd.1 (List.mem_map.mpr ⟨p, h, e⟩)
   rw [this]; exact ih nd.2 h
theorem Wc_defC {f : Addr} {fo : Obj} {st : Stmt} {qual : Str} {pm : Value} {c : Addr} {co : Obj} {fvs : Array Value} {tk : Tok} {ps ns cs gs' : List Str} {vs0 : Vs} {cm : Str → Option Value} {args : List Value} {d : Nat} {Q : Value → Bm → Nm → Prop}
  (K : KB w B) (rm : Rm A (d + 1)) (ho : (H1 w.params).get? f = some fo) (hd : fo.data = .func (fd st qual .none pm (.ref c))) (hc : (H1 w.params).get? c = some co) (hcd : co.data = .fields fvs) (hcq : fvs[1]? = some (.str qual tk))
  (ok : okDefC st ps ns cs gs' = true) (hl : ps.length = args.length) (hb : bindArgs (fd st qual .none pm (.ref c)) ⟨args, []⟩ = pure (ps.zip args))
  (hvs : bindL (fun x => (dScope st).names.lookup x) (ps.zip args) (fun _ => none) = look ns vs0) (hcm : bindC (fun x => (dScope st).names.lookup x) (ps.zip args) (fun _ => none) = cm)
  (h : ∀ L env A' cl, Ev env ns gs' cl L → cl.map (·.1) = cs.reverse → Rm A' d → A'.guards = A.guards → W w A' ns L (execs (dBody st) env) (fun fl B' vs' N' => Q (retOf fl) B' N') B vs0 (cellN cm cl ++ N)) :
  Wc w A (.call (.ref f) ⟨args, []⟩) Q B N := by
 refine .mk fun s F => ?_
 have okd : isDef st = true := by
  revert ok; unfold okDefC; cases isDef st
  ·simp only [Bool.false_and]; exact fun z => nomatch z
  ·exact fun _ => rfl
 obtain ⟨name, a, body, ds, r, tps, sc, ts, bind, pos, rfl⟩ := isDef.is okd
 simp only [okDefC, Bool.and_eq_true, decide_eq_true_eq, List.all_eq_true, Bool.not_eq_true', beq_iff_eq, Bool.or_eq_true, List.contains_iff_mem] at ok
 obtain ⟨⟨⟨⟨⟨⟨⟨⟨⟨⟨_, o1⟩, o2⟩, o3⟩, o4⟩, o5⟩, o6⟩, o7⟩, o8⟩, o9⟩, o10⟩ := ok
 have k1 : ∀ a o, (H1 w.params).get? a = some o → s.heap.get? a = some o := fun a o e => F.keep _ _ (K.own a o e)
 have hzip : (ps.zip args).map (·.1) = ps := by rw [List.map_fst_zip]; lia
 let FD : FuncData := fd (.FunctionDef name a body ds r tps sc ts bind pos) qual .none pm (.ref c)
 let EV : Env := callEnvC FD s.heap.objs.size f
 have hcl : EV.cells.map (·.1) = cs.reverse := by
  show (cellsFrom (s.heap.objs.size + 1) sc.names []).map (·.1) = _
  rw [cellsFrom_fst, show (sc.names.filter (fun x => x.2 == .cell)).map (·.1) = cs from o9]; simp
 have cnd : (EV.cells.map (·.1)).Nodup := by rw [hcl]; exact (List.reverse_perm cs).nodup_iff.mpr o5
 have ev : Ev EV ns gs' EV.cells s.heap.objs.size := ⟨o1, rfl, rfl, rfl, rfl, o4, fun x hx => o6 x hx, fun x hx => o7 x hx, fun x hx => o8 x.1 (by
  have : x.1 ∈ EV.cells.map (·.1) := List.mem_map_of_mem hx
  rw [hcl, List.mem_reverse] at this; exact this), cnd⟩
 refine codeAny_call_cells (fd := FD) (body := body) (binds := ps.zip args) (by have := rm.1; lia) (k1 _ _ ho) hd (K.nolim F.keep) ⟨c, co, fvs, tk, rfl, k1 _ _ hc, hcd, hcq⟩ rfl hb rfl (fun x hx => ?_) (fun s₁ X => ?_) o2 o3 o1
 ·have hxp : x.1 ∈ ps := by rw [← hzip]; exact List.mem_map_of_mem hx
  rcases o10 x.1 hxp with q | q
  ·exact .inl (o6 _ q)
  ·refine .inr ⟨o8 _ q, ?_⟩
   have : x.1 ∈ EV.cells.map (·.1) := by rw [hcl, List.mem_reverse]; exact q
   obtain ⟨p, hp, e⟩ := List.mem_map.mp this
   rw [← e]
   show (EV.cells.lookup p.1).isSome = true
   rw [lookup_mem cnd hp]; rfl
 ·obtain ⟨h', tk', hs, kk⟩ := X.done
  have kk' : ∀ b o, s.heap.get? b = some o → s₁.heap.get? b = some o := X.toInCall.keep
  have hne : ∀ a sl, Slot.holds w s.heap a sl → a < s.heap.objs.size := fun a sl x => by
   obtain ⟨o, ho⟩ := x.some; exact Heap.lt_size ho
  have hkp : ∀ a sl, Slot.holds w s.heap a sl → Slot.holds w s₁.heap a sl := fun a sl x => x.keeps (by
   obtain ⟨o, ho⟩ := x.some
   rw [ho]; exact kk' _ _ ho)
  have hB : ∀ a, s.heap.objs.size ≤ a → B a = none := fun a ha => by
   cases e : B a with
   | none => rfl
   | some o => exact absurd (hne _ _ (F.keep _ _ e)) (Nat.not_lt.mpr ha)
  have F1 : Fm w ns s.heap.objs.size B vs0 (cellN cm EV.cells ++ N) s₁.heap := by
   refine ⟨?_, fun a o e => hkp _ _ (F.keep _ _ e), fun p hp => ?_, ?_, hB _ (Nat.le_refl _)⟩
   ·have := X.toInCall.ns
    rw [show (bindL EV.kindOf (ps.zip args) fun _ => none) = look ns vs0 from hvs] at this
    exact this
   ·rcases List.mem_append.mp hp with hp | hp
    ·obtain ⟨q, hq, rfl⟩ := List.mem_map.mp hp
     have hlt := X.above q.1 q.2 hq
     refine ⟨cell_holds ?_, hB _ (Nat.le_of_lt hlt), Nat.ne_of_gt hlt⟩
     have := X.cell q.1 q.2 (lookup_mem cnd hq)
     rw [show (bindC EV.kindOf (ps.zip args) fun _ => none) = cm from hcm] at this
     exact this
    ·exact ⟨hkp _ _ (F.led _ hp).1, (F.led _ hp).2, Nat.ne_of_lt (hne _ _ (F.led _ hp).1)⟩
   ·rw [List.map_append, List.nodup_append]
    refine ⟨?_, F.nd, fun a ha b hb e => ?_⟩
    ·have := X.apart
     show ((EV.cells.map fun p => ((p.2, Slot.cell (cm p.1)) : Addr × Slot)).map (·.1)).Nodup
     rw [List.map_map]
     exact List.pairwise_map.mpr this
    ·obtain ⟨p, hp, rfl⟩ := List.mem_map.mp ha
     obtain ⟨q, hq, rfl⟩ := List.mem_map.mp hp
     obtain ⟨r', hr, rfl⟩ := List.mem_map.mp hb
     have h1 := X.above q.1 q.2 hq
     have h2 := hne _ _ (F.led _ hr).1
     exact absurd (Nat.lt_trans h2 h1) (by rw [show q.2 = r'.1 from e]; exact Nat.lt_irrefl _)
  refine wpAny_mono ((h s.heap.objs.size EV (A.deeper EV) EV.cells ev hcl (rm.deeper _) rfl).run s₁ F1 _ ?_) (fun _ _ z => z) (fun _ _ z => z.elim)
  intro fl s' B' vs' N' F' Y q
  refine ⟨_, B', N', congrArg (fun v => Except.ok (Flow.ret v)) (retOf_eq fl), ⟨F'.keep, fun p hp => ⟨(F'.led p hp).1, (F'.led p hp).2.1⟩, F'.nd⟩, ⟨fun a o ha hn _ => ?_, Y.le, ?_, ?_, ?_⟩, q⟩
  ·refine Y.same a o (kk' _ _ ha) (fun p hp => ?_) (fun e => by cases e; exact absurd (Heap.lt_size ha) (Nat.lt_irrefl _))
   rcases List.mem_append.mp hp with hp | hp
   ·obtain ⟨q, hq, rfl⟩ := List.mem_map.mp hp
    have h1 := X.above q.1 q.2 hq
    exact Nat.ne_of_gt (Nat.lt_trans (Heap.lt_size ha) h1)
   ·exact hn p hp
  ·exact Y.gens.trans (by rw [hs])
  ·exact Y.drawn.trans (by rw [hs])
  ·exact Y.os.trans (by rw [hs])
theorem W_cellN {x : Str} {c : Addr} {v : Value} {pos : Pos} {Q : Value → Bm → Vs → Nm → Prop} (ev : Ev env ns gs cl L) (hm : (x, c) ∈ cl) (hv : Rd B N c (.cell (some v))) (q : Q v B vs N) (hd : (x == ("__debug__" : Str)) = false := by decide) : W w A ns L (eval (.Name x pos) env) Q B vs N :=
 W_read (fun s F K k => wpAny_Name (wpAny_loadName_cell ev.kind (ev.cel _ hm) (by rw [ev.cells]; exact lookup_mem ev.cnd hm) (holds_cell (hv.holds F)) k) hd) q
theorem W_cellStore {x : Str} {c : Addr} {v0 : Option Value} {v : Value} {Q : Unit → Bm → Vs → Nm → Prop} (ev : Ev env ns gs cl L) (hm : (x, c) ∈ cl) (u : Up c (.cell v0) (.cell (some v)) N N') (q : Q () B vs N') : W w A ns L (storeName env x v) Q B vs N :=
 .mk fun s F K k => wpAny_storeName_cell ev.kind (ev.cel _ hm) (by rw [ev.cells]; exact lookup_mem ev.cnd hm) (holds_cell (F.led _ u.mem).1) fun h' hc hs => k _ _ _ _ _ (F.upd u hs (cell_holds hc)) (Fx.upd u hs rfl rfl rfl) q
end
end
section
open PySem PySem.W PyProof.Rows PySem.Calls PySem.Spec
noncomputable def clF (cl : List (Str × Addr)) : List (Str × NameKind) → List (Str × Addr) → List (Str × Addr)
 | [], acc => acc
 | (n, k) :: r, acc => if k == .free then clF cl r ((n, (cl.lookup n).getD 0) :: acc) else clF cl r acc
theorem clF.k1 {cl : List (Str × Addr)} {acc} : clF cl [] acc = acc := rfl
theorem clF.k2 {cl : List (Str × Addr)} {n k r acc} : clF cl ((n, k) :: r) acc = if k == .free then clF cl r ((n, (cl.lookup n).getD 0) :: acc) else clF cl r acc := rfl
theorem forIn_clF {cl : List (Str × Addr)} {f : Str × NameKind → List (Str × Addr) → Sem (ForInStep (List (Str × Addr)))} : ∀ (names : List (Str × NameKind)) (acc : List (Str × Addr)),
  (∀ x ∈ names, ∀ cs, f x cs = if x.2 == .free then pure (.yield ((x.1, (cl.lookup x.1).getD 0) :: cs)) else pure (.yield cs)) → forIn names acc f = pure (clF cl names acc)
 | [], acc, h => rfl
 | (n, k) :: r, acc, h => by
  rw [List.forIn_cons, h (n, k) (.head _)]
  rw [clF.k2]
  by_cases hk : (k == NameKind.free) = true
  ·simp only [hk, if_true, pure_bind]
   exact forIn_clF r _ fun x hx => h x (.tail _ hx)
  ·simp only [hk]
   exact forIn_clF r _ fun x hx => h x (.tail _ hx)
theorem closure_cells {scope : Scope} {env : Env} {cl : List (Str × Addr)} (hc : env.cells = cl) (h : ∀ x ∈ scope.names, x.2 = .free → (cl.lookup x.1).isSome = true) : closureFor scope env = pure (clF cl scope.names []) := by
 simp only [closureFor]
 rw [forIn_clF (cl := cl) scope.names [] (fun x hx cs => by
  obtain ⟨n, k⟩ := x
  by_cases hk : (k == NameKind.free) = true
  ·have := h _ hx (by simpa using hk)
   obtain ⟨c, e⟩ := Option.isSome_iff_exists.mp this
   simp only [hk, if_true, cellOf, hc]
   rw [show cl.lookup n = some c from e]
   rfl
  ·simp only [hk]; rfl)]
 rfl
theorem lookup_relabel (c : Str → NameKind → Bool) : ∀ (names : List (Str × NameKind)) (x : Str), (names.map fun (n, k) => if c n k then (n, NameKind.cell) else (n, k)).lookup x = (names.lookup x).map fun k => if c x k then .cell else k
 | [], x => rfl
 | (n, k) :: r, x => by
  have ih := lookup_relabel c r x
  by_cases e : x = n
  ·subst e
   by_cases h : c x k = true <;> simp [h]
  ·have e' : (x == n) = false := by simpa using e
   by_cases h : c n k = true
   ·simp only [List.map_cons, h, if_true, List.lookup_cons, e']; exact ih
   ·have h' : c n k = false := by simpa using h
    simp only [List.map_cons, h', Bool.false_eq_true, if_false, List.lookup_cons, e']; exact ih
noncomputable def okCompF (sc : Scope) (ns gs fs : List Str) : Bool :=
 sc.kind == .function && decide ns.Nodup && decide fs.Nodup && ns.all (fun x => sc.names.lookup x == some .local) && gs.all (fun x => sc.names.lookup x == some .globalImplicit) && fs.all (fun x => sc.names.lookup x == some .free) &&
 sc.names.all (fun x => x.2 != .cell && (x.2 != .local || sc.names.lookup x.1 == some .local) && (x.2 != .free || fs.contains x.1)) && (((sc.names.filter fun x => x.2 == .free).map (·.1)) == fs)
theorem clF_fst (cl : List (Str × Addr)) : ∀ (names : List (Str × NameKind)) (acc : List (Str × Addr)), (clF cl names acc).map (·.1) = ((names.filter fun x => x.2 == .free).map (·.1)).reverse ++ acc.map (·.1)
 | [], acc => by simp [clF.k1]
 | (x, .free) :: r, acc => by
  rw [show clF cl ((x, .free) :: r) acc = clF cl r ((x, (cl.lookup x).getD 0) :: acc) from rfl, clF_fst cl r, show ((x, NameKind.free) :: r).filter (fun x => x.2 == .free) = (x, .free) :: r.filter (fun x => x.2 == .free) from rfl]
  simp
 | (x, .local) :: r, acc => clF_fst cl r acc
 | (x, .cell) :: r, acc => clF_fst cl r acc
 | (x, .globalImplicit) :: r, acc => clF_fst cl r acc
 | (x, .globalExplicit) :: r, acc => clF_fst cl r acc
theorem clF_mem (cl : List (Str × Addr)) : ∀ (names : List (Str × NameKind)) (acc : List (Str × Addr)) (p : Str × Addr), p ∈ clF cl names acc → p ∈ acc ∨ p.2 = (cl.lookup p.1).getD 0
 | [], acc, p, h => .inl h
 | (x, k) :: r, acc, p, h => by
  rw [clF.k2] at h
  split at h
  ·rcases clF_mem cl r _ p h with h | h
   ·rcases List.mem_cons.mp h with rfl | h
    ·exact .inr rfl
    ·exact .inl h
   ·exact .inr h
  ·exact clF_mem cl r _ p h
section
variable {α β : Type} {w : World} {A : Around} {ns gs : List Str} {cl : List (Str × Addr)} {L : Addr} {B : Bm} {vs : Vs} {N N' : Nm} {env : Env}
theorem ev_compF {sc : Scope} {ns' gs' fs : List Str} (ev : Ev env ns gs cl L) (h : okCompF sc ns' gs' fs = true) (hf : ∀ x ∈ fs, x ∈ cl.map (·.1)) (C : Addr) : Ev (compEnvC sc (clF cl sc.names []) C env) ns' gs' (clF cl sc.names []) C := by
 simp only [okCompF, Bool.and_eq_true, decide_eq_true_eq, List.all_eq_true, beq_iff_eq, bne_iff_ne, Bool.or_eq_true, List.contains_iff_mem] at h
 obtain ⟨⟨⟨⟨⟨⟨⟨h1, h2⟩, h2'⟩, h3⟩, h4⟩, h5⟩, h6⟩, h7⟩ := h
 have lk : ∀ x, (relabel sc env).names.lookup x = (sc.names.lookup x).map fun k => if (k == .free && env.scope.kind == .function && env.kindOf x == some .cell) then .cell else k := fun x =>
  lookup_relabel (fun n k => (k == .free && env.scope.kind == .function && env.kindOf n == some .cell)) sc.names x
 have fst : (clF cl sc.names []).map (·.1) = fs.reverse := by rw [clF_fst, h7]; simp
 refine ⟨h1, rfl, ev.globals, ev.builtins, rfl, h2, fun x hx => ?_, fun x hx => ?_, fun x hx => ?_, ?_⟩
 ·show (relabel sc env).names.lookup x = _
  rw [lk, h3 x hx]; rfl
 ·show (relabel sc env).names.lookup x = _
  rw [lk, h4 x hx]; rfl
 ·have hxf : x.1 ∈ fs := by
   have : x.1 ∈ (clF cl sc.names []).map (·.1) := List.mem_map_of_mem hx
   rw [fst, List.mem_reverse] at this; exact this
  show (relabel sc env).names.lookup x.1 = _
  rw [lk, h5 _ hxf]
  obtain ⟨p, hp, e⟩ := List.mem_map.mp (hf _ hxf)
  have := ev.cel p hp
  rw [e] at this
  simp [this, ev.kind]
 ·rw [fst]; exact (List.reverse_perm fs).nodup_iff.mpr h2'
theorem W_LCF {elt iter : Expr} {x : Str} {px : Pos} {ifs : List Expr} {scope : Scope} {pos : Pos} (ns' gs' fs : List Str) {Q : Value → Bm → Vs → Nm → Prop} (ev : Ev env ns gs cl L) (ok : okCompF scope ns' gs' fs = true) (hf : ∀ x ∈ fs, x ∈ cl.map (·.1))
  (h : W w A ns L (eval iter env) (fun xv B vs N => W w A ns L (pyIter xv) (fun itv B vs N => ItP itv N fun it =>
   ∀ D C cenv cl', Ev cenv ns' gs' cl' C → cl'.map (·.1) = fs.reverse → (∀ p ∈ cl', p ∈ cl) → WL w A ns' C (.compLoop (.ListComp elt [⟨.Name x px, iter, ifs, 0⟩] scope pos) 0 (.ref it) (.ref D) cenv) (fun f B' _ N' => f = .next ∧ Q (.ref D) B' vs N') B (ns'.map fun _ => none) ((D, .lst []) :: N)) B vs N) B vs N)
  (hs : ∀ x, foldedSetIterable iter env x = pure x := by intro _; with_unfolding_all rfl) : W w A ns L (eval (.ListComp elt [⟨.Name x px, iter, ifs, 0⟩] scope pos) env) Q B vs N := by
 have ok' := ok
 simp only [okCompF, Bool.and_eq_true, decide_eq_true_eq, List.all_eq_true, beq_iff_eq, bne_iff_ne, Bool.or_eq_true, List.contains_iff_mem] at ok'
 obtain ⟨⟨⟨⟨⟨⟨⟨h1, h2⟩, h2'⟩, h3⟩, h4⟩, h5⟩, h6⟩, h7⟩ := ok'
 have lks : ∀ y ∈ cl.map (·.1), (cl.lookup y).isSome = true := fun y hy => by
  obtain ⟨p, hp, e⟩ := List.mem_map.mp hy
  rw [← e, lookup_mem ev.cnd hp]; rfl
 refine W_ListComp (ns' := ns') (closure_cells ev.cells fun y hy e => ?_) (fun y hy => (h6 y hy).1.1) h1 (fun y hy e => (h6 y hy).1.2.elim (fun n => absurd e n) id) (W_mono h fun xv B vs N q => W_mono q fun itv B vs N ⟨it, k, e, m, f⟩ => ⟨it, k, e, m, fun D C => f D C _ _ (ev_compF ev ok hf C) (by rw [clF_fst, h7]; simp) fun p hp => ?_⟩) hs
 ·rcases (h6 y hy).2 with n | n
  ·exact absurd e n
  ·exact lks _ (hf _ n)
 ·have hm : p.1 ∈ fs := by
   have : p.1 ∈ (clF cl scope.names []).map (·.1) := List.mem_map_of_mem hp
   rw [clF_fst, h7] at this; simpa using this
  rcases clF_mem cl scope.names [] p hp with q | q
  ·cases q
  ·obtain ⟨r, hr, e⟩ := List.mem_map.mp (hf _ hm)
   rw [← e, lookup_mem ev.cnd hr] at q
   have : p = r := Prod.ext e.symm q
   rw [this]; exact hr
end
end
section
open PySem PySem.W PyProof.Rows PySem.Calls PySem.Spec
theorem swaps_name {ns gs : List Str} {cl : List (Str × Addr)} {L : Addr} {env : Env} {e : Expr} {gens : List Comprehension} {scope : Scope} {p pos : Pos} {t : Str} {line : Nat} (ev : Ev env ns gs cl L) (ht : t ∈ ns) (hp : (pos.line == p.line) = true) (hn : (scope.names.any fun (n, k) => n == t && (k == .local || k == .cell)) = false) :
  swapsWith (.ListComp e gens scope p) (some (.Name t pos)) line env = pure true := by
 have hbk : env.blockKind = .function := by unfold Env.blockKind; rw [ev.kind]; rfl
 have hl := ev.loc t ht
 have h : (env.blockKind == .function && env.kindOf t == some .local && pos.line == p.line && !(scope.names.any fun (n, k) => n == t && (k == .local || k == .cell))) = true := by
  rw [hbk, hl, hp, hn]; rfl
 exact congrArg pure h
section
variable {w : World} {A : Around} {ns gs : List Str} {cl : List (Str × Addr)} {L : Addr} {B : Bm} {vs : Vs} {N N' : Nm} {env : Env}
theorem W_AC {elt iter : Expr} {x y : Str} {px py : Pos} {ifs : List Expr} {scope : Scope} {pos spos : Pos} (ns' gs' : List Str) {Q : Flow → Bm → Vs → Nm → Prop} (ev : Ev env ns gs cl L) (hy : y ∈ ns) (hp : (py.line == pos.line) = true) (hn : (scope.names.any fun (n, k) => n == y && (k == .local || k == .cell)) = false) (ok : okComp scope ns' gs' = true)
  (h : W w A ns L (eval iter env) (fun xv B vs N => W w A ns L (pyIter xv) (fun itv B vs N => ItP itv N fun it =>
   ∀ D C cenv, Ev cenv ns' gs' [] C → WL w A ns' C (.compLoop (.ListComp elt [⟨.Name x px, iter, ifs, 0⟩] scope pos) 0 (.ref it) (.ref D) cenv) (fun f B' _ N' => f = .next ∧ ∃ vs', Pv ns vs y (.ref D) vs' ∧ Q .next B' vs' N') B (ns'.map fun _ => none) ((D, .lst []) :: N)) B vs N) B vs N)
  (hs : ∀ x, foldedSetIterable iter env x = pure x := by intro _; with_unfolding_all rfl) : W w A ns L (exec (.Assign [.Name y py] (.ListComp elt [⟨.Name x px, iter, ifs, 0⟩] scope pos) spos) env) Q B vs N :=
 have p := okComp.parts ok
 W_AssignComp (ns' := ns') ev hy (swaps_name ev hy hp hn) (closureFor_none p.2.1) p.2.2.1 p.1 p.2.2.2 (W_mono h fun xv B vs N q => W_mono q fun itv B vs N ⟨it, k, e, m, f⟩ => ⟨it, k, e, m, fun D C => f D C _ (ev_comp ev ok C)⟩) hs
end
end
section
open PySem PySem.W PyProof.Rows PySem.Calls PySem.Spec
section
variable {xs : List Str} {us : Vs} {x : Str} {u : Option Value} {v : Value}
theorem Hv.a1 {y0 : Str} {z0 : Option Value} : Hv (y0 :: x :: xs) (z0 :: some v :: us) x v := .there .here
theorem Pv.a1 {y0 : Str} {z0 : Option Value} : Pv (y0 :: x :: xs) (z0 :: u :: us) x v (z0 :: some v :: us) := .there .here
theorem Hv.a2 {y0 y1 : Str} {z0 z1 : Option Value} : Hv (y0 :: y1 :: x :: xs) (z0 :: z1 :: some v :: us) x v := .there Hv.a1
theorem Pv.a2 {y0 y1 : Str} {z0 z1 : Option Value} : Pv (y0 :: y1 :: x :: xs) (z0 :: z1 :: u :: us) x v (z0 :: z1 :: some v :: us) := .there Pv.a1
theorem Hv.a3 {y0 y1 y2 : Str} {z0 z1 z2 : Option Value} : Hv (y0 :: y1 :: y2 :: x :: xs) (z0 :: z1 :: z2 :: some v :: us) x v := .there Hv.a2
theorem Pv.a3 {y0 y1 y2 : Str} {z0 z1 z2 : Option Value} : Pv (y0 :: y1 :: y2 :: x :: xs) (z0 :: z1 :: z2 :: u :: us) x v (z0 :: z1 :: z2 :: some v :: us) := .there Pv.a2
theorem Hv.a4 {y0 y1 y2 y3 : Str} {z0 z1 z2 z3 : Option Value} : Hv (y0 :: y1 :: y2 :: y3 :: x :: xs) (z0 :: z1 :: z2 :: z3 :: some v :: us) x v := .there Hv.a3
theorem Pv.a4 {y0 y1 y2 y3 : Str} {z0 z1 z2 z3 : Option Value} : Pv (y0 :: y1 :: y2 :: y3 :: x :: xs) (z0 :: z1 :: z2 :: z3 :: u :: us) x v (z0 :: z1 :: z2 :: z3 :: some v :: us) := .there Pv.a3
theorem Hv.a5 {y0 y1 y2 y3 y4 : Str} {z0 z1 z2 z3 z4 : Option Value} : Hv (y0 :: y1 :: y2 :: y3 :: y4 :: x :: xs) (z0 :: z1 :: z2 :: z3 :: z4 :: some v :: us) x v := .there Hv.a4
theorem Pv.a5 {y0 y1 y2 y3 y4 : Str} {z0 z1 z2 z3 z4 : Option Value} : Pv (y0 :: y1 :: y2 :: y3 :: y4 :: x :: xs) (z0 :: z1 :: z2 :: z3 :: z4 :: u :: us) x v (z0 :: z1 :: z2 :: z3 :: z4 :: some v :: us) := .there Pv.a4
theorem Hv.a6 {y0 y1 y2 y3 y4 y5 : Str} {z0 z1 z2 z3 z4 z5 : Option Value} : Hv (y0 :: y1 :: y2 :: y3 :: y4 :: y5 :: x :: xs) (z0 :: z1 :: z2 :: z3 :: z4 :: z5 :: some v :: us) x v := .there Hv.a5
theorem Pv.a6 {y0 y1 y2 y3 y4 y5 : Str} {z0 z1 z2 z3 z4 z5 : Option Value} : Pv (y0 :: y1 :: y2 :: y3 :: y4 :: y5 :: x :: xs) (z0 :: z1 :: z2 :: z3 :: z4 :: z5 :: u :: us) x v (z0 :: z1 :: z2 :: z3 :: z4 :: z5 :: some v :: us) := .there Pv.a5
theorem Hv.a7 {y0 y1 y2 y3 y4 y5 y6 : Str} {z0 z1 z2 z3 z4 z5 z6 : Option Value} : Hv (y0 :: y1 :: y2 :: y3 :: y4 :: y5 :: y6 :: x :: xs) (z0 :: z1 :: z2 :: z3 :: z4 :: z5 :: z6 :: some v :: us) x v := .there Hv.a6
theorem Pv.a7 {y0 y1 y2 y3 y4 y5 y6 : Str} {z0 z1 z2 z3 z4 z5 z6 : Option Value} : Pv (y0 :: y1 :: y2 :: y3 :: y4 :: y5 :: y6 :: x :: xs) (z0 :: z1 :: z2 :: z3 :: z4 :: z5 :: z6 :: u :: us) x v (z0 :: z1 :: z2 :: z3 :: z4 :: z5 :: z6 :: some v :: us) := .there Pv.a6
theorem Hv.a8 {y0 y1 y2 y3 y4 y5 y6 y7 : Str} {z0 z1 z2 z3 z4 z5 z6 z7 : Option Value} : Hv (y0 :: y1 :: y2 :: y3 :: y4 :: y5 :: y6 :: y7 :: x :: xs) (z0 :: z1 :: z2 :: z3 :: z4 :: z5 :: z6 :: z7 :: some v :: us) x v := .there Hv.a7
theorem Pv.a8 {y0 y1 y2 y3 y4 y5 y6 y7 : Str} {z0 z1 z2 z3 z4 z5 z6 z7 : Option Value} : Pv (y0 :: y1 :: y2 :: y3 :: y4 :: y5 :: y6 :: y7 :: x :: xs) (z0 :: z1 :: z2 :: z3 :: z4 :: z5 :: z6 :: z7 :: u :: us) x v (z0 :: z1 :: z2 :: z3 :: z4 :: z5 :: z6 :: z7 :: some v :: us) := .there Pv.a7
theorem Hv.a9 {y0 y1 y2 y3 y4 y5 y6 y7 y8 : Str} {z0 z1 z2 z3 z4 z5 z6 z7 z8 : Option Value} : Hv (y0 :: y1 :: y2 :: y3 :: y4 :: y5 :: y6 :: y7 :: y8 :: x :: xs) (z0 :: z1 :: z2 :: z3 :: z4 :: z5 :: z6 :: z7 :: z8 :: some v :: us) x v := .there Hv.a8
theorem Pv.a9 {y0 y1 y2 y3 y4 y5 y6 y7 y8 : Str} {z0 z1 z2 z3 z4 z5 z6 z7 z8 : Option Value} : Pv (y0 :: y1 :: y2 :: y3 :: y4 :: y5 :: y6 :: y7 :: y8 :: x :: xs) (z0 :: z1 :: z2 :: z3 :: z4 :: z5 :: z6 :: z7 :: z8 :: u :: us) x v (z0 :: z1 :: z2 :: z3 :: z4 :: z5 :: z6 :: z7 :: z8 :: some v :: us) := .there Pv.a8
theorem Hv.a10 {y0 y1 y2 y3 y4 y5 y6 y7 y8 y9 : Str} {z0 z1 z2 z3 z4 z5 z6 z7 z8 z9 : Option Value} : Hv (y0 :: y1 :: y2 :: y3 :: y4 :: y5 :: y6 :: y7 :: y8 :: y9 :: x :: xs) (z0 :: z1 :: z2 :: z3 :: z4 :: z5 :: z6 :: z7 :: z8 :: z9 :: some v :: us) x v := .there Hv.a9
theorem Pv.a10 {y0 y1 y2 y3 y4 y5 y6 y7 y8 y9 : Str} {z0 z1 z2 z3 z4 z5 z6 z7 z8 z9 : Option Value} : Pv (y0 :: y1 :: y2 :: y3 :: y4 :: y5 :: y6 :: y7 :: y8 :: y9 :: x :: xs) (z0 :: z1 :: z2 :: z3 :: z4 :: z5 :: z6 :: z7 :: z8 :: z9 :: u :: us) x v (z0 :: z1 :: z2 :: z3 :: z4 :: z5 :: z6 :: z7 :: z8 :: z9 :: some v :: us) := .there Pv.a9
theorem Hv.a11 {y0 y1 y2 y3 y4 y5 y6 y7 y8 y9 y10 : Str} {z0 z1 z2 z3 z4 z5 z6 z7 z8 z9 z10 : Option Value} : Hv (y0 :: y1 :: y2 :: y3 :: y4 :: y5 :: y6 :: y7 :: y8 :: y9 :: y10 :: x :: xs) (z0 :: z1 :: z2 :: z3 :: z4 :: z5 :: z6 :: z7 :: z8 :: z9 :: z10 :: some v :: us) x v := .there Hv.a10
theorem Pv.a11 {y0 y1 y2 y3 y4 y5 y6 y7 y8 y9 y10 : Str} {z0 z1 z2 z3 z4 z5 z6 z7 z8 z9 z10 : Option Value} : Pv (y0 :: y1 :: y2 :: y3 :: y4 :: y5 :: y6 :: y7 :: y8 :: y9 :: y10 :: x :: xs) (z0 :: z1 :: z2 :: z3 :: z4 :: z5 :: z6 :: z7 :: z8 :: z9 :: z10 :: u :: us) x v (z0 :: z1 :: z2 :: z3 :: z4 :: z5 :: z6 :: z7 :: z8 :: z9 :: z10 :: some v :: us) := .there Pv.a10
theorem Hv.a12 {y0 y1 y2 y3 y4 y5 y6 y7 y8 y9 y10 y11 : Str} {z0 z1 z2 z3 z4 z5 z6 z7 z8 z9 z10 z11 : Option Value} : Hv (y0 :: y1 :: y2 :: y3 :: y4 :: y5 :: y6 :: y7 :: y8 :: y9 :: y10 :: y11 :: x :: xs) (z0 :: z1 :: z2 :: z3 :: z4 :: z5 :: z6 :: z7 :: z8 :: z9 :: z10 :: z11 :: some v :: us) x v := .there Hv.a11
theorem Pv.a12 {y0 y1 y2 y3 y4 y5 y6 y7 y8 y9 y10 y11 : Str} {z0 z1 z2 z3 z4 z5 z6 z7 z8 z9 z10 z11 : Option Value} : Pv (y0 :: y1 :: y2 :: y3 :: y4 :: y5 :: y6 :: y7 :: y8 :: y9 :: y10 :: y11 :: x :: xs) (z0 :: z1 :: z2 :: z3 :: z4 :: z5 :: z6 :: z7 :: z8 :: z9 :: z10 :: z11 :: u :: us) x v (z0 :: z1 :: z2 :: z3 :: z4 :: z5 :: z6 :: z7 :: z8 :: z9 :: z10 :: z11 :: some v :: us) := .there Pv.a11
end
section
variable {a : Addr} {sl sl' : Slot} {r : Nm} {α : Type} {e : α} {l : List α}
theorem Up.a1 {p0 : Addr × Slot} : Up a sl sl' (p0 :: (a, sl) :: r) (p0 :: (a, sl') :: r) := .there .here
theorem Up.a2 {p0 p1 : Addr × Slot} : Up a sl sl' (p0 :: p1 :: (a, sl) :: r) (p0 :: p1 :: (a, sl') :: r) := .there Up.a1
theorem Up.a3 {p0 p1 p2 : Addr × Slot} : Up a sl sl' (p0 :: p1 :: p2 :: (a, sl) :: r) (p0 :: p1 :: p2 :: (a, sl') :: r) := .there Up.a2
theorem Up.a4 {p0 p1 p2 p3 : Addr × Slot} : Up a sl sl' (p0 :: p1 :: p2 :: p3 :: (a, sl) :: r) (p0 :: p1 :: p2 :: p3 :: (a, sl') :: r) := .there Up.a3
theorem Up.a5 {p0 p1 p2 p3 p4 : Addr × Slot} : Up a sl sl' (p0 :: p1 :: p2 :: p3 :: p4 :: (a, sl) :: r) (p0 :: p1 :: p2 :: p3 :: p4 :: (a, sl') :: r) := .there Up.a4
theorem Up.a6 {p0 p1 p2 p3 p4 p5 : Addr × Slot} : Up a sl sl' (p0 :: p1 :: p2 :: p3 :: p4 :: p5 :: (a, sl) :: r) (p0 :: p1 :: p2 :: p3 :: p4 :: p5 :: (a, sl') :: r) := .there Up.a5
theorem Up.a7 {p0 p1 p2 p3 p4 p5 p6 : Addr × Slot} : Up a sl sl' (p0 :: p1 :: p2 :: p3 :: p4 :: p5 :: p6 :: (a, sl) :: r) (p0 :: p1 :: p2 :: p3 :: p4 :: p5 :: p6 :: (a, sl') :: r) := .there Up.a6
theorem Up.a8 {p0 p1 p2 p3 p4 p5 p6 p7 : Addr × Slot} : Up a sl sl' (p0 :: p1 :: p2 :: p3 :: p4 :: p5 :: p6 :: p7 :: (a, sl) :: r) (p0 :: p1 :: p2 :: p3 :: p4 :: p5 :: p6 :: p7 :: (a, sl') :: r) := .there Up.a7
theorem me1 {p0 : α} : e ∈ p0 :: e :: l := .tail _ (.head _)
theorem me2 {p0 p1 : α} : e ∈ p0 :: p1 :: e :: l := .tail _ me1
theorem me3 {p0 p1 p2 : α} : e ∈ p0 :: p1 :: p2 :: e :: l := .tail _ me2
theorem me4 {p0 p1 p2 p3 : α} : e ∈ p0 :: p1 :: p2 :: p3 :: e :: l := .tail _ me3
theorem me5 {p0 p1 p2 p3 p4 : α} : e ∈ p0 :: p1 :: p2 :: p3 :: p4 :: e :: l := .tail _ me4
theorem me6 {p0 p1 p2 p3 p4 p5 : α} : e ∈ p0 :: p1 :: p2 :: p3 :: p4 :: p5 :: e :: l := .tail _ me5
theorem me7 {p0 p1 p2 p3 p4 p5 p6 : α} : e ∈ p0 :: p1 :: p2 :: p3 :: p4 :: p5 :: p6 :: e :: l := .tail _ me6
theorem me8 {p0 p1 p2 p3 p4 p5 p6 p7 : α} : e ∈ p0 :: p1 :: p2 :: p3 :: p4 :: p5 :: p6 :: p7 :: e :: l := .tail _ me7
theorem me9 {p0 p1 p2 p3 p4 p5 p6 p7 p8 : α} : e ∈ p0 :: p1 :: p2 :: p3 :: p4 :: p5 :: p6 :: p7 :: p8 :: e :: l := .tail _ me8
theorem me10 {p0 p1 p2 p3 p4 p5 p6 p7 p8 p9 : α} : e ∈ p0 :: p1 :: p2 :: p3 :: p4 :: p5 :: p6 :: p7 :: p8 :: p9 :: e :: l := .tail _ me9
end
inductive StrsE : List Expr → List Str → Prop
 | nil : StrsE [] []
 | cons {s : Str} {k : Nat} {p : Pos} {es : List Expr} {ss : List Str} : StrsE es ss → StrsE (.Constant (.str s) k p :: es) (s :: ss)
section
variable {w : World} {A : Around} {ns gs : List Str} {cl : List (Str × Addr)} {L : Addr} {B : Bm} {vs : Vs} {N : Nm} {env : Env}
section
variable {rest : List Stmt} {pos : Pos} {Q : Flow → Bm → Vs → Nm → Prop}
theorem W_cIf {test : Expr} {body : List Stmt} (h : W w A ns L (isTrue test env (eval test env)) (fun b => Br b (W w A ns L (execs body env) (Nc (W w A ns L (execs rest env) Q) Q)) (W w A ns L (execs rest env) Q)) B vs N) : W w A ns L (execs (.If test body [] pos :: rest) env) Q B vs N :=
 W_cons (W_If (W_mono h fun b B vs N q => by
  cases b
  ·exact W_nil (Q := Nc (W w A ns L (execs rest env) Q) Q) q
  ·exact q))
theorem W_cIfE {test : Expr} {body orelse : List Stmt} (h : W w A ns L (isTrue test env (eval test env)) (fun b => Br b (W w A ns L (execs body env) (Nc (W w A ns L (execs rest env) Q) Q)) (W w A ns L (execs orelse env) (Nc (W w A ns L (execs rest env) Q) Q))) B vs N) : W w A ns L (execs (.If test body orelse pos :: rest) env) Q B vs N :=
 W_cons (W_If h)
theorem W_cRet {e : Expr} (h : W w A ns L (eval e env) (fun v => Q (.ret v)) B vs N) : W w A ns L (execs (.Return (some e) pos :: rest) env) Q B vs N := W_cons (W_Return h)
theorem W_nilN {R : Bm → Vs → Nm → Prop} (h : R B vs N) : W w A ns L (execs [] env) (Nc R Q) B vs N := W_nil (Q := Nc R Q) h
theorem W_cRetN {e : Expr} {R : Bm → Vs → Nm → Prop} (h : W w A ns L (eval e env) (fun v => Q (.ret v)) B vs N) : W w A ns L (execs (.Return (some e) pos :: rest) env) (Nc R Q) B vs N := W_cRet (Q := Nc R Q) h
theorem W_cRetNN {e : Expr} {R S : Bm → Vs → Nm → Prop} (h : W w A ns L (eval e env) (fun v => Q (.ret v)) B vs N) : W w A ns L (execs (.Return (some e) pos :: rest) env) (Nc R (Nc S Q)) B vs N := W_cRetN (Q := Nc S Q) h
theorem W_cRetNNN {e : Expr} {R S T : Bm → Vs → Nm → Prop} (h : W w A ns L (eval e env) (fun v => Q (.ret v)) B vs N) : W w A ns L (execs (.Return (some e) pos :: rest) env) (Nc R (Nc S (Nc T Q))) B vs N := W_cRetNN (Q := Nc T Q) h
theorem W_cExpr {e : Expr} (ev : Ev env ns gs cl L) (h : W w A ns L (eval e env) (ExpQ (W w A ns L (execs rest env) Q)) B vs N) (hs : swapsWith e none pos.line env = pure false := by with_unfolding_all rfl) : W w A ns L (execs (.Expr e pos :: rest) env) Q B vs N := W_cons (W_Expr ev h hs)
theorem W_cBrk (h : Q .brk B vs N) : W w A ns L (execs (.Break pos :: rest) env) Q B vs N := W_cons (W_Break h)
theorem W_cCont (h : Q .cont B vs N) : W w A ns L (execs (.Continue pos :: rest) env) Q B vs N := W_cons (W_Continue h)
theorem W_cAN {x : Str} {pos' : Pos} {value : Expr} (h : W w A ns L (eval value env) (fun v => W w A ns L (storeName env x v) (fun _ => W w A ns L (execs rest env) Q)) B vs N)
  (hs : swapsWith value (some (.Name x pos')) pos.line env = pure false := by with_unfolding_all rfl) : W w A ns L (execs (.Assign [.Name x pos'] value pos :: rest) env) Q B vs N := W_cons (W_AssignName h hs)
theorem W_cAA {o value : Expr} {attr : Str} {pos' : Pos} (h : W w A ns L (eval value env) (fun v => W w A ns L (eval o env) (fun ov => W w A ns L (setAttr ov attr v) (fun _ => W w A ns L (execs rest env) Q))) B vs N)
  (hs : swapsWith value (some (.Attribute o attr pos')) pos.line env = pure false := by with_unfolding_all rfl) : W w A ns L (execs (.Assign [.Attribute o attr pos'] value pos :: rest) env) Q B vs N := W_cons (W_AssignA h hs)
theorem W_cAugN {x : Str} {pos' : Pos} {op : Operator} {value : Expr} (h : W w A ns L (loadName env x) (fun old => W w A ns L (eval value env) (fun v => W w A ns L (inplaceOp op old v) (fun r => W w A ns L (storeName env x r) (fun _ => W w A ns L (execs rest env) Q)))) B vs N) :
  W w A ns L (execs (.AugAssign (.Name x pos') op value pos :: rest) env) Q B vs N := W_cons (W_AugName h)
end
section
variable {rest : List Expr} {pos p : Pos} {Q : List Value → Bm → Vs → Nm → Prop}
theorem W_splL {x : Str} {v : Value} (ev : Ev env ns gs cl L) (hv : Hv ns vs x v) (h : W w A ns L (spliced (backTo pos (starEach rest env))) (fun xs => Q (v :: xs)) B vs N) (hd : (x == ("__debug__" : Str)) = false := by decide) :
  W w A ns L (spliced (backTo pos (starEach (.Name x p :: rest) env))) Q B vs N := W_spl_cons (W_local ev hv h hd) (by with_unfolding_all rfl)
theorem W_splS {s : Str} {k : Nat} (h : ∀ t, W w A ns L (spliced (backTo pos (starEach rest env))) (fun xs => Q (.str s t :: xs)) B vs N) :
  W w A ns L (spliced (backTo pos (starEach (.Constant (.str s) k p :: rest) env))) Q B vs N := W_spl_cons (W_str h) (by with_unfolding_all rfl)
theorem W_splI {i : Int} {k : Nat} (h : ∀ t, W w A ns L (spliced (backTo pos (starEach rest env))) (fun xs => Q (.int i t :: xs)) B vs N) :
  W w A ns L (spliced (backTo pos (starEach (.Constant (.int i) k p :: rest) env))) Q B vs N := W_spl_cons (W_int h) (by with_unfolding_all rfl)
theorem W_splN {k : Nat} (h : W w A ns L (spliced (backTo pos (starEach rest env))) (fun xs => Q (.none :: xs)) B vs N) :
  W w A ns L (spliced (backTo pos (starEach (.Constant .none k p :: rest) env))) Q B vs N := W_spl_cons (W_none h) (by with_unfolding_all rfl)
theorem W_splG {x : Str} {v : Value} (K : KB w B) (ev : Ev env ns gs cl L) (hx : x ∈ gs) (hv : gv w x = some v) (h : W w A ns L (spliced (backTo pos (starEach rest env))) (fun xs => Q (v :: xs)) B vs N) (hd : (x == ("__debug__" : Str)) = false := by decide) :
  W w A ns L (spliced (backTo pos (starEach (.Name x p :: rest) env))) Q B vs N := W_spl_cons (W_glob K ev hx hv h hd) (by with_unfolding_all rfl)
theorem spl_strs {elts : List Expr} {ys : List Str} {Q : List Value → Bm → Vs → Nm → Prop} (r : StrsE elts ys) (h : ∀ xs, StrsAre xs ys → xs.length = ys.length → Q xs B vs N) : W w A ns L (spliced (backTo pos (starEach elts env))) Q B vs N := by
 induction r generalizing Q with
 | nil => exact W_spl_nil (h [] .nil rfl)
 | cons r ih => exact W_splS fun t => ih fun xs hx hl => h _ (.cons _ t hx) (congrArg (· + 1) hl)
end
section
variable {x : Str} {p1 p2 p3 : Pos} {k : Nat} {whole : Sem Value} {Q : Bool → Bm → Vs → Nm → Prop}
theorem W_tEqLS {s y : Str} {t : Tok} (ev : Ev env ns gs cl L) (hv : Hv ns vs x (.str y t)) (q : Q (y == s) B vs N) (hd : (x == ("__debug__" : Str)) = false := by decide) : W w A ns L (isTrue (.Compare (.Name x p1) [.Eq] [.Constant (.str s) k p2] p3) env whole) Q B vs N :=
 W_tCompare (W_local ev hv (W_str fun t' => W_eqS (W_truthy q)) hd)
theorem W_tNeLS {s y : Str} {t : Tok} (ev : Ev env ns gs cl L) (hv : Hv ns vs x (.str y t)) (q : Q (y != s) B vs N) (hd : (x == ("__debug__" : Str)) = false := by decide) : W w A ns L (isTrue (.Compare (.Name x p1) [.NotEq] [.Constant (.str s) k p2] p3) env whole) Q B vs N :=
 W_tCompare (W_local ev hv (W_str fun t' => W_neS (W_truthy q)) hd)
theorem W_tEqLG {g s y : Str} {t t' : Tok} (K : KB w B) (ev : Ev env ns gs cl L) (hv : Hv ns vs x (.str y t)) (hx : g ∈ gs) (hg : gv w g = some (.str s t')) (q : Q (y == s) B vs N) (hd : (x == ("__debug__" : Str)) = false := by decide) (hd' : (g == ("__debug__" : Str)) = false := by decide) :
  W w A ns L (isTrue (.Compare (.Name x p1) [.Eq] [.Name g p2] p3) env whole) Q B vs N :=
 W_tCompare (W_local ev hv (W_glob K ev hx hg (W_eqS (W_truthy q)) hd') hd)
theorem W_tIsN {v : Value} (ev : Ev env ns gs cl L) (hv : Hv ns vs x v) (q : Q (v == .none) B vs N) (hd : (x == ("__debug__" : Str)) = false := by decide) : W w A ns L (isTrue (.Compare (.Name x p1) [.Is] [.Constant .none k p2] p3) env whole) Q B vs N :=
 W_tCompare (W_local ev hv (W_none (W_isNone (W_truthy q))) hd)
theorem W_tIsNotN {v : Value} (ev : Ev env ns gs cl L) (hv : Hv ns vs x v) (q : Q (!(v == .none)) B vs N) (hd : (x == ("__debug__" : Str)) = false := by decide) : W w A ns L (isTrue (.Compare (.Name x p1) [.IsNot] [.Constant .none k p2] p3) env whole) Q B vs N :=
 W_tCompare (W_local ev hv (W_none (W_isNotNone (W_truthy q))) hd)
section
variable {a i : Int} {t : Tok}
theorem W_tEqLI (ev : Ev env ns gs cl L) (hv : Hv ns vs x (.int a t)) (q : Q (decide (a = i)) B vs N) (hd : (x == ("__debug__" : Str)) = false := by decide) : W w A ns L (isTrue (.Compare (.Name x p1) [.Eq] [.Constant (.int i) k p2] p3) env whole) Q B vs N :=
 W_tCompare (W_local ev hv (W_int fun t' => W_eqI (W_truthy q)) hd)
theorem W_tInL {elts : List Expr} {ys : List Str} {y : Str} {tp : Pos} {kk : Nat} (ev : Ev env ns gs cl L) (hv : Hv ns vs x (.str y t)) (he : StrsE elts ys) (hz : ys.length ≤ sizeLine) (q : Q (ys.any (· == y)) B vs N) (hd : (x == ("__debug__" : Str)) = false := by decide) :
  W w A ns L (isTrue (.Compare (.Name x p1) [.In] [.Tuple elts kk tp] p3) env whole) Q B vs N :=
 W_tInT (W_local ev hv (spl_strs he fun xs h hl => InT.mk h (hl ▸ hz) q) hd)
end
section
variable {y : Str} {a b : Int} {t u : Tok}
theorem W_tEqLL (ev : Ev env ns gs cl L) (hv : Hv ns vs x (.int a t)) (hv' : Hv ns vs y (.int b u)) (q : Q (decide (a = b)) B vs N) (hd : (x == ("__debug__" : Str)) = false := by decide) (hd' : (y == ("__debug__" : Str)) = false := by decide) :
  W w A ns L (isTrue (.Compare (.Name x p1) [.Eq] [.Name y p2] p3) env whole) Q B vs N := W_tCompare (W_local ev hv (W_local ev hv' (W_eqI (W_truthy q)) hd') hd)
theorem W_tLtLL (ev : Ev env ns gs cl L) (hv : Hv ns vs x (.int a t)) (hv' : Hv ns vs y (.int b u)) (q : Q (decide (a < b)) B vs N) (hd : (x == ("__debug__" : Str)) = false := by decide) (hd' : (y == ("__debug__" : Str)) = false := by decide) :
  W w A ns L (isTrue (.Compare (.Name x p1) [.Lt] [.Name y p2] p3) env whole) Q B vs N := W_tCompare (W_local ev hv (W_local ev hv' (W_ltI (W_truthy q)) hd') hd)
end
end
section
variable {x : Str} {p1 p2 p3 : Pos} {k : Nat} {Q : Value → Bm → Vs → Nm → Prop}
theorem W_subLT {i : Int} {p : Addr} {xs : List Value} {v : Value} (ev : Ev env ns gs cl L) (hv : Hv ns vs x (.ref p)) (r : Rd B N p (.tup xs)) (hx : xs[i.toNat]? = some v) (q : Q v B vs N) (h0 : 0 ≤ i := by decide) (h1 : i < 2 ^ 63 := by decide) (hd : (x == ("__debug__" : Str)) = false := by decide) :
  W w A ns L (eval (.Subscript (.Name x p1) (.Constant (.int i) k p2) p3) env) Q B vs N := W_Sub (W_local ev hv (W_int fun u => W_itemT r h0 h1 hx q) hd)
theorem W_subLL {i : Int} {p : Addr} {xs : List Value} {v : Value} (ev : Ev env ns gs cl L) (hv : Hv ns vs x (.ref p)) (r : Rd B N p (.lst xs)) (hx : xs[i.toNat]? = some v) (q : Q v B vs N) (h0 : 0 ≤ i := by decide) (h1 : i < 2 ^ 63 := by decide) (hd : (x == ("__debug__" : Str)) = false := by decide) :
  W w A ns L (eval (.Subscript (.Name x p1) (.Constant (.int i) k p2) p3) env) Q B vs N := W_Sub (W_local ev hv (W_int fun u => W_item_lst r h0 h1 hx q) hd)
theorem W_attL {o C dx : Addr} {name : Str} {xs : List Str} {us : Vs} {v : Value} (K : KB w B) (ev : Ev env ns gs cl L) (hv : Hv ns vs x (.ref o)) (r : Rd B N o (.inst C dx)) (rd : Rd B N dx (.att xs us)) (pc : Pc w.params C) (fd : Fd w.params C name)
  (nd : xs.Nodup) (hu : Hv xs us name v) (hh : handedIn v = true) (q : Q v B vs N) (hd : (x == ("__debug__" : Str)) = false := by decide) : W w A ns L (eval (.Attribute (.Name x p1) name p2) env) Q B vs N := W_Attr (W_local ev hv (W_getH K r rd pc fd nd hu hh q) hd)
theorem W_callG {f : Addr} {e : Expr} {rest : List Expr} (K : KB w B) (ev : Ev env ns gs cl L) (hx : x ∈ gs) (hv : gv w x = some (.ref f)) (hf : Fn w.params f)
  (h : W w A ns L (spliced (backTo p2 (starEach (e :: rest) env))) (fun xs => W w A ns L (call (.ref f) xs) Q) B vs N) (hd : (x == ("__debug__" : Str)) = false := by decide)
  (he : starEach (e :: rest) env = (false, eval e env) :: starEach rest env := by with_unfolding_all rfl) (hplain : (backTo p2 (starEach rest env)).any (·.1) = false := by with_unfolding_all rfl) :
  W w A ns L (eval (.Call (.Name x p1) (e :: rest) [] p2) env) Q B vs N := W_Call (W_glob K ev hx hv (W_cwFn K hf h he hplain) hd)
theorem W_addLI {a i : Int} {t : Tok} (ev : Ev env ns gs cl L) (hv : Hv ns vs x (.int a t)) (q : ∀ t, Q (.int (a + i) t) B vs N) (hd : (x == ("__debug__" : Str)) = false := by decide) :
  W w A ns L (eval (.BinOp (.Name x p1) .Add (.Constant (.int i) k p2) p3) env) Q B vs N := W_BinOp (W_local ev hv (W_int fun t' => W_add q) hd)
end
theorem W_codeK {f : Value} {args : List Value} {R : Value → Bm → Nm → Prop} {Q : Value → Bm → Vs → Nm → Prop} (hc : Wc w A (.call f ⟨args, []⟩) R B N)
  (q : ∀ G : Value → Bm → Nm → Prop, (∀ v B' N', Q v B' vs N' → G v B' N') → ∀ v B' N', leB B B' → R v B' N' → G v B' N') : W w A ns L (call f args) Q B vs N :=
 W_code hc (q (fun v B' N' => Q v B' vs N') fun _ _ _ => id)
theorem W_seqJ {st : Stmt} {rest : List Stmt} {Q : Flow → Bm → Vs → Nm → Prop} (J : (Bm → Vs → Nm → Prop) → Prop) (h1 : ∀ R : Bm → Vs → Nm → Prop, J R → W w A ns L (exec st env) (Nc R Q) B vs N) (h2 : J (W w A ns L (execs rest env) Q)) : W w A ns L (execs (st :: rest) env) Q B vs N := W_cons (h1 _ h2)
theorem sz_le {n : Nat} (h : n ≤ 16777216) : n ≤ sizeLine := h
theorem sz_lt {n : Nat} (h : n < 16777216) : n < sizeLine := h
section
variable {α : Type} {Q : Value → Bm → Vs → Nm → Prop} {QF : Flow → Bm → Vs → Nm → Prop} {QB : Bool → Bm → Vs → Nm → Prop} {QL : List Value → Bm → Vs → Nm → Prop}
theorem i_eval {e : Expr} (h : W w A ns L (eval e env) Q B vs N) : W w A ns L (eval e env) Q B vs N := h
theorem i_execs {e : List Stmt} (h : W w A ns L (execs e env) QF B vs N) : W w A ns L (execs e env) QF B vs N := h
theorem i_exec {e : Stmt} (h : W w A ns L (exec e env) QF B vs N) : W w A ns L (exec e env) QF B vs N := h
theorem i_isTrue {e : Expr} {wh : Sem Value} (h : W w A ns L (isTrue e env wh) QB B vs N) : W w A ns L (isTrue e env wh) QB B vs N := h
theorem i_spliced {e : List (Bool × Sem Value)} (h : W w A ns L (spliced e) QL B vs N) : W w A ns L (spliced e) QL B vs N := h
theorem i_compare {o : CmpOp} {a b : Value} (h : W w A ns L (compareOp o a b) Q B vs N) : W w A ns L (compareOp o a b) Q B vs N := h
theorem i_callWith {p : Pos} {f : Value} {fs : List Value} {es : List (Bool × Sem Value)} (h : W w A ns L (callWith p f fs es []) Q B vs N) : W w A ns L (callWith p f fs es []) Q B vs N := h
theorem i_call {f : Value} {as : List Value} (h : W w A ns L (call f as) Q B vs N) : W w A ns L (call f as) Q B vs N := h
theorem i_W {t : Sem α} {Q : α → Bm → Vs → Nm → Prop} (h : W w A ns L t Q B vs N) : W w A ns L t Q B vs N := h
end
end
end
section
open PySem PySem.W PyProof.Rows PySem.Calls PySem.Spec
abbrev Sx := Lean.Syntax
def nT (k : String) (xs : Array Sx) : Sx := .node .none (.str `Lean.Parser.Tactic k) xs
def nE (k : String) (xs : Array Sx) : Sx := .node .none (.str `Lean.Parser.Term k) xs
def nN (xs : Array Sx) : Sx := .node .none `null xs
def aT (s : String) : Sx := .atom .none s
def iD (s : String) : Sx := Lean.mkIdent s.toName
def sq (xs : List Sx) : Sx := nT "tacticSeq" #[nT "tacticSeq1Indented" #[nN (xs.intersperse (aT ";")).toArray]]
def clo (k : String) (xs : List Sx) : Sx :=
  let x := xs.headD .missing
  match k.splitOn ":" with
  | [w, n] => nT n #[aT w, sq xs]
  | _ =>
  if k == "a" then nE "app" #[x, nN xs.tail.toArray]
  else if k == "f" then nT "first" #[aT "first", nN (xs.map fun y => .node .none `group #[aT "|", sq [y]]).toArray]
  else if k == "p" then nT "paren" #[aT "(", sq xs, aT ")"]
  else if k == "b" then nE "byTactic" #[aT "by", sq xs]
  else if k == "c" then nT "case" #[aT "case", nN #[nT "caseArg" #[.node .none `Lean.binderIdent #[x], nN #[]]], aT "=>", sq xs.tail]
  else nT k #[aT k, x]
def tok (t : String) : Sx :=
  let r := (t.drop 1).toString
  if t.startsWith "!" then .node .none `PySem.W.tacticK_extra_ #[aT "k_extra", Lean.Syntax.mkStrLit r]
  else if t.startsWith "?" then nE "syntheticHole" #[aT "?", if t == "?" then aT "_" else iD r]
  else if t.startsWith "#" then nT r #[aT r]
  else if t.startsWith "%" then nT r #[aT r, nT "optConfig" #[nN #[]]]
  else if t == "_" then nE "hole" #[aT "_"]
  else if t == "λ" then nE "fun" #[aT "fun", nE "basicFun" #[nN #[nE "hole" #[aT "_"]], nN #[], aT "=>", nE "syntheticHole" #[aT "?", aT "_"]]]
  else iD t
def readT (s : String) : Sx :=
  (((s.splitOn " ").foldl (fun (st : List (List Sx)) t => match st with
    | [] => []
    | x :: r =>
      if t == "(" then [] :: st
      else if t.startsWith ")" then (match r with
        | [] => []
        | y :: r => (clo (t.drop 1).toString x.reverse :: y) :: r)
      else (tok t :: x) :: r) [[]]).headD []).headD .missing
def ruleT (ta : List String) (l : String) : String :=
  let ps := l.splitOn " "
  let f := ps.headD ""
  let cs := ps.tail.zipIdx
  let as := cs.map fun (c, i) => if c == "q" then "?" else if c == "Q" then "λ" else if c.startsWith "@" then s!"( {c.drop 1} _ )a" else if c.startsWith "=" then (c.drop 1).toString else s!"?a{i}"
  let fr := fun (p : String × Nat) => "ahru".contains p.1.front
  let st := (cs.filter fr ++ cs.filter fun p => !fr p).map fun (c, i) => match ta.find? (·.startsWith (c ++ " ")) with
    | some t => s!"( a{i} {t.drop 2} )c "
    | none => ""
  let h := if f.startsWith "!" then s!"{f.drop 1} {" ".intercalate as} )a )refine'" else s!"{f} {" ".intercalate as} )a )refine"
  "( ( ( ( " ++ h ++ " )with_reducible:withReducible " ++ String.join st ++ ")p "
def walkT (tb key : String) : Option Sx :=
  let ls := tb.splitOn "\n"
  let ta := ((ls.headD "").splitOn "; ")
  match ls.tail.find? (·.startsWith (key ++ " ")) with
  | none => none
  | some l =>
    let b := (l.drop (key.length + 3)).toString
    let c := ((l.drop (key.length + 1)).take 1).toString
    some (readT (
      if c == "T" then b
      else if c == "R" then "( " ++ String.join ((b.splitOn "; ").map (ruleT ta)) ++ ")f"
      else "( ( " ++ String.join ((b.splitOn " ").map fun x => if c == "X" then s!"( ( {x} _ )a )exact " else s!"( {x} )exact ") ++ ")f )with_reducible:withReducible"))
end
open PySem PySem.W PyProof.Rows PySem.Calls PySem.Spec
set_option maxHeartbeats 4000000
local macro_rules
  | `(tactic| k_extra $key:str) => match walkT "a #assumption; d %decide; w ( #tacticRfl )with_unfolding_all:withUnfoldingAll; i ( ( λ )refine ( #tacticRfl )with_unfolding_all:withUnfoldingAll )p; X ( #assumption ( rfl )exact )f; E ( rfl )exact; Z ( ( Nat.le_of_ble_eq_true rfl )a )exact; b ( ( Rd.b ( #assumption )b )a )exact; N ( ( Rm.none ( #assumption )b )a )exact; S ( ( ( StrsE.nil )exact ( StrsE.cons )apply )f )repeat:tacticRepeat_; T ( ( ( StrsAre.nil )exact ( StrsAre.cons )apply )f )repeat:tacticRepeat_; I ( ( IsPart.none )exact ( ( IsPart.int _ _ )a )exact )f; h !hv; p !pv; u !up; m !mem; g !gv; f !fn; r !rd; c !pc; F !fd; M !md; n !nd; s !sz
x T ( !x1 ( ( ( ( ( ( i_exec ? )a )refine )with_reducible:withReducible )fail_if_success:failIfSuccess )fail_if_success:failIfSuccess !ex )p ( ( ( ( ( ( i_compare ? )a )refine )with_reducible:withReducible )fail_if_success:failIfSuccess )fail_if_success:failIfSuccess !cm )p !x2 ( ( ( ( ( ( i_callWith ? )a )refine )with_reducible:withReducible )fail_if_success:failIfSuccess )fail_if_success:failIfSuccess !cw )p !x3 ( ( ( ( ( ( i_call ? )a )refine )with_reducible:withReducible )fail_if_success:failIfSuccess )fail_if_success:failIfSuccess !cl )p )f
1 T ( ( ( ( ( ( ( i_eval ? )a )refine )with_reducible:withReducible )fail_if_success:failIfSuccess )fail_if_success:failIfSuccess ( !e !blt )f )p ( ( ( ( ( ( i_spliced ? )a )refine )with_reducible:withReducible )fail_if_success:failIfSuccess )fail_if_success:failIfSuccess !sp )p ( ( ( ( ( ( i_execs ? )a )refine )with_reducible:withReducible )fail_if_success:failIfSuccess )fail_if_success:failIfSuccess !s )p ( ( ( ( ( ( i_isTrue ? )a )refine )with_reducible:withReducible )fail_if_success:failIfSuccess )fail_if_success:failIfSuccess !t )p ( ( ( ( ( ( i_W ? )a )refine )with_reducible:withReducible )fail_if_success:failIfSuccess )fail_if_success:failIfSuccess !x )p !w )f
up T ( !up1 ( ( ( ( Up.here )exact ( Up.seg )apply ( Up.there )apply )f )with_reducible:withReducible )repeat:tacticRepeat_ )f
dl T ( ( ( ( Dl.here )exact ( Dl.seg )apply ( Dl.there )apply )f )with_reducible:withReducible )repeat:tacticRepeat_
mem T ( !mem1 ( ( ( #assumption ( List.mem_cons_self )exact ( ( List.mem_cons_of_mem _ ? )a )refine ( ( List.mem_append_right _ ? )a )refine )f )with_reducible:withReducible )repeat:tacticRepeat_ )f
rd T ( ( ( Rd.b ( #assumption )b )a )exact ( ( Rd.n )apply !mem )p )f
sls T ( ( ( ( ( List.Sublist.refl _ )a )exact ( ( List.nil_sublist _ )a )exact ( ( List.Sublist.cons_cons _ ? )a )refine ( ( List.Sublist.cons _ ? )a )refine )f )with_reducible:withReducible )repeat:tacticRepeat_
append T ( ( ( W_append ?hv ? ? )a )refine' ( hv !up )c )p
pop T ( ( ( W_pop ?hv ? ? )a )refine' ( hv !up )c )p
pop0 T ( ( ( W_pop0 ?hv ? ? )a )refine' ( hv !up )c )p
setSd T ( ( ( W_setSd ?hv ? ? )a )refine' ( hv !up )c )p
extend T ( ( ( W_extend ?hv ?hr ? ? )a )refine' ( hv !up )c ( hr !rd )c )p
sz T ( ( ( Nat.le_of_ble_eq_true rfl )a )exact ( ( sz_le ( %omega )b )a )exact ( ( sz_lt ( %omega )b )a )exact )f
cut T ( ( ( W_strSlice ? )a )refine )with_reducible:withReducible
as2 T ( ( W_Assign2 ( #assumption )b ( Rm.none ( #assumption )b )a ( !mem )b ( !mem )b ( %decide )b rfl ( %decide )b ( %decide )b ( %decide )b ? )a )refine
tf T ( ( ( ite_t rfl ? )a )refine ( ( ite_f rfl ? )a )refine ( ( ite_t ( %decide )b ? )a )refine ( ( ite_f ( %decide )b ? )a )refine )f
go T ( !1 )repeat:tacticRepeat_
run T ( ( !1 ( ( ite_t rfl ? )a )refine ( ( ite_f rfl ? )a )refine )f )repeat:tacticRepeat_
goW T ( ( ( ( ( W_consW ? )a )refine )with_reducible:withReducible )fail_if_success:failIfSuccess !1 )repeat:tacticRepeat_
goF T ( ( ( ( ( W_consF ? )a )refine )with_reducible:withReducible )fail_if_success:failIfSuccess !1 )repeat:tacticRepeat_
runR T ( ( ( ( ( W_consR ? )a )refine )with_reducible:withReducible )fail_if_success:failIfSuccess ( !1 ( ( ite_t rfl ? )a )refine ( ( ite_f rfl ? )a )refine )f )repeat:tacticRepeat_
gv X g_ONE g_WAYS g_SPLIT g_JUMP g_MARK g_NAME g_SET g_GAIN g_PLACE g_ASK g_FENCE g_FAIL g_ABORT g_SUCCEED g_DONE g_PUT g_EMIT g_OPEN g_SHUT g_MEET g_SINGLE g_ALONE g_row_of g_is_plain_text g_with_texts_joined g_PatternCode g_straightened g_compile_pattern g_NameRef g_COUNTED g_SIGNED g_is_delayed g_settled g_OPENING g_CLOSING g_chars_end g_len_end g_pos_end g_tab_end g_rem_end g_any_at g_run_end g_span_end g_arb_ends g_bal_end g_bal_ends g_one_end g_plain_end g_ends_of g_MET g_FAILED g_OVER g_Way g_Match g_match_orders g_match_compiled g_PlainHost g_LOST g_match_plain g_match_at g_tried g_advanced g_led_in g_led_out g_steered g_taken gu_law_take gu_law_leaf gu_law_drawn gu_law_node gu_law_is_even gu_law_leaf_ends gu_law_rounds gu_law_told g_law
fn X fn_row_of fn_is_plain_text fn_with_texts_joined fn_PatternCode_init fn_PatternCode_emit fn_PatternCode_put fn_PatternCode_begun fn_PatternCode_choice fn_PatternCode_repeat fn_PatternCode_bound fn_straightened fn_compile_pattern fn_NameRef_init fn_is_delayed fn_settled fn_chars_end fn_len_end fn_pos_end fn_tab_end fn_rem_end fn_any_at fn_run_end fn_span_end fn_arb_ends fn_bal_end fn_bal_ends fn_one_end fn_plain_end fn_ends_of fn_Way_init fn_Way_copied fn_Match_init fn_Match_run fn_Match_way_back fn_Match_done fn_Match_met_once fn_Match_ended fn_Match_other fn_Match_met_often fn_match_orders fn_match_compiled fn_PlainHost_init fn_PlainHost_assign fn_PlainHost_step fn_match_plain fn_match_at fn_tried fn_advanced fn_led_in fn_led_out fn_steered fn_taken fn_law_take fn_law_leaf fn_law_drawn fn_law_node fn_law_is_even fn_law_rounds fn_law_told
pc X pc_PatternCode pc_NameRef pc_Way pc_Match pc_PlainHost
fd X fd_PatternCode_orders fd_NameRef_kind fd_NameRef_owner fd_NameRef_key fd_Way_orders fd_Way_pc fd_Way_at fd_Way_named fd_Way_marks fd_Way_calls fd_Match_subject fd_Match_host fd_Match_history fd_PlainHost_values fd_PlainHost_limit fd_PlainHost_refused fd_PlainHost_width fd_PlainHost_steps fd_PlainHost_log
md X md_PatternCode_init md_PatternCode_emit md_PatternCode_put md_PatternCode_begun md_PatternCode_choice md_PatternCode_repeat md_PatternCode_bound md_NameRef_init md_Way_init md_Way_copied md_Match_init md_Match_run md_Match_way_back md_Match_done md_Match_met_once md_Match_ended md_Match_other md_Match_met_often md_Match_asked md_PlainHost_init md_PlainHost_value_of md_PlainHost_assign md_PlainHost_step
nd x hNd wNd mNd cNd rNd
hv x Hv.here Hv.a1 Hv.a2 Hv.a3 Hv.a4 Hv.a5 Hv.a6 Hv.a7 Hv.a8 Hv.a9 Hv.a10 Hv.a11 Hv.a12
pv x Pv.here Pv.a1 Pv.a2 Pv.a3 Pv.a4 Pv.a5 Pv.a6 Pv.a7 Pv.a8 Pv.a9 Pv.a10 Pv.a11 Pv.a12
up1 x Up.here Up.a1 Up.a2 Up.a3 Up.a4 Up.a5 Up.a6 Up.a7 Up.a8
mem1 x List.mem_cons_self me1 me2 me3 me4 me5 me6 me7 me8 me9 me10
e R !W_local a h q d; !W_subLT a h r X q d d d; !W_subLL a h r X q d d d; !W_attL a a h r r c F n h X q d; !W_callG a a m g f q d w w; !W_addLI a h Q d; W_int Q; W_str Q; W_none q; W_bool q; !W_Attr q w; !W_Meth q w; !W_Call q w; W_strSlice q; W_Sub q; W_TupleF q; W_Tuple q; W_List q; W_BinOp q; W_IfExp q; W_Compare q w; W_Unary q; W_Slice q; !W_cellN a m b q d; !W_glob a a m g q d
sp R !W_splL a h q d; W_splS Q; W_splI Q; !W_splG a a m g q d; W_spl_nil q; W_splN q; W_spl_cons q w
s R W_nilN q; W_nil q; W_cIf q; W_cRetNNN q; W_cRetNN q; W_cRetN q; W_cRet q; W_cAN q w; !W_cExpr a q w; W_cAA q w; W_cIfE q; W_cBrk q; W_cCont q; W_cAugN q; W_cons q
t R !W_tEqLS a h q d; !W_tEqLG a a h m g q d d; !W_tInL a h S s q d; !W_tIsN a h q d; !W_tIsNotN a h q d; !W_tEqLI a h q d; !W_tNeLS a h q d; !W_tLtLL a h h q d d; !W_tEqLL a h h q d d; W_tInT q; W_tCompare q w; W_tChain q w; W_tNot q; W_tBool q; W_tValue q w
ex R W_Return q; W_If q; !W_Expr a q w; W_Break q; W_Continue q; W_AssignName q w; W_AssignTup q w w i; W_AssignA q w; W_AugName q; W_AugA q; W_While q; W_For q i; W_AssignS q w
cm R W_eqS q; W_eqI q; W_neI q; W_ltI q; W_leI q; W_gtI q; W_eqB q; W_neS q; W_isNone q; W_isNotNone q; !W_inOwn a @own_SINGLE q; !W_inOwn a @own_ALONE q; !W_inOwn a @own_COUNTED q; !W_inOwn a @own_SIGNED q; !W_notinOwn a @own_COUNTED q; !W_notinOwn a @own_SIGNED q; W_inStr q; !W_inTup r T q
cw R W_cwBn q w w; W_cwB q w w; W_cwB0 q; W_cwT q w w; !W_cwFn a f q w w; !W_cwFn0 a f q
cl R W_isiII q; W_isiST q; W_isiNT q; W_isiSS q
x1 R !W_store a p q; W_truthy q
x2 R !W_itemT r d d X q w; !W_item_lst r d d X q w; !W_localN a h q; W_aioCons q w; W_aioNil q
x3 R !W_unpack N r E q; !W_getH a r r c F n h X q; !W_setH a r u c F n p Z q; W_andCons q; W_andNil q; W_orCons q; W_orNil q; W_partN q; W_partS q; !W_gmLst r =PySem.F.slot_list_append =PySem.F.type_list_append q; !W_gmLst r =PySem.F.slot_list_extend =PySem.F.type_list_extend q; !W_gmLst r =PySem.F.slot_list_pop =PySem.F.type_list_pop q; !W_gmStr =PySem.F.slot_str_startswith =PySem.F.type_str_startswith q; !W_gmStr =PySem.F.slot_str_lstrip =PySem.F.type_str_lstrip q; !W_gmStr =PySem.F.slot_str_join =PySem.F.type_str_join q; W_add Q; W_sub Q; W_iadd Q; W_isub Q; W_neg Q; !W_gmInst a c M r r E q
w R !InT.mk T s q; !SlS.mk I I s Q
ga R !W_getH a r r c F n h X q
sa R !W_setH a r u c F n p Z q
gm R !W_gmInst a c M r r E q
blt R !W_blt a a m @gn_len =b_len q d d; !W_blt a a m @gn_range =b_range q d d; !W_blt a a m @gn_list =b_list q d d; !W_blt a a m @gn_str =b_str q d d; !W_blt a a m @gn_tuple =b_tuple q d d; !W_blt a a m @gn_isinstance =b_isinstance q d d" key.getString with
    | some s => pure s
    | none => Lean.Macro.throwUnsupported
section
section
variable {w : World} {A : Around} {B : Bm} {N : Nm} {d : Nat}
noncomputable def pChars (x y : Str) (a : Int) : Option Int := if Txt.slice x (some a) (some (a + y.length)) == y then some (a + y.length) else none
noncomputable def pLen (x : Str) (a m : Int) : Option Int := if a + m ≤ x.length then some (a + m) else none
noncomputable def pPos (a m : Int) : Option Int := if a = m then some a else none
noncomputable def pTab (x : Str) (a m : Int) : Option Int := if a ≤ m ∧ m ≤ x.length then some m else none
noncomputable def chAt (x : Str) (a : Int) : Str := ⟨#[x.cps.getD a.toNat 0]⟩
noncomputable def pAny (x y : Str) (a : Int) : Option Int := if a < x.length ∧ Txt.contains y (chAt x a) = true then some (a + 1) else none
theorem chAt_get {x : Str} {a : Int} (h0 : 0 ≤ a) (h : a < x.length) : x.cps[a.toNat]? = some (x.cps.getD a.toNat 0) := by
 have : a.toNat < x.cps.size := by unfold Str.length at h; lia
 simp [this]
noncomputable abbrev R_rem_end (B : Bm) (N : Nm) (x : Str) : Value → Bm → Nm → Prop := fun v B' N' => OptI (some x.length) v ∧ B = B' ∧ N = N'
theorem s_rem_end {x : Str} {t : Tok} (K : KB w B) (rm : Rm A 1) (hx : x.length ≤ 2) :
  Wc w A (.call (.ref 348) ⟨[.str x t], []⟩) (R_rem_end B N x) B N := by
 refine c_rem_end K rm ?_
 intro L env A' ev rm' hg
 refine W_cons ?_
 k_extra "go"
 refine W_lenStr ?_ fun u => ?_
 ·lia
 exact ⟨⟨_, rfl⟩, rfl, rfl⟩
theorem s_len_end {x : Str} {t t1 t2 : Tok} {a m : Int} (K : KB w B) (rm : Rm A 1) (hx : x.length ≤ 2) :
  Wc w A (.call (.ref 313) ⟨[.str x t, .int a t1, .int m t2], []⟩) (fun v B' N' => OptI (pLen x a m) v ∧ B = B' ∧ N = N') B N := by
 refine c_len_end K rm ?_
 intro L env A' ev rm' hg
 refine W_cons ?_
 k_extra "go"
 refine W_lenStr ?_ fun u => ?_
 ·lia
 k_extra "go"
 unfold pLen
 refine ite_b (fun h => ?_) fun h => ?_ <;> simp only [decide_eq_true_eq, decide_eq_false_iff_not] at h
 ·rw [if_pos h]
  k_extra "go"
  exact ⟨⟨_, rfl⟩, rfl, rfl⟩
 ·rw [if_neg h]
  k_extra "go"
  exact ⟨rfl, rfl, rfl⟩
theorem s_pos_end {t1 t2 : Tok} {a m : Int} (K : KB w B) (rm : Rm A 1) :
  Wc w A (.call (.ref 320) ⟨[.int a t1, .int m t2], []⟩) (fun v B' N' => OptI (pPos a m) v ∧ B = B' ∧ N = N') B N := by
 refine c_pos_end K rm ?_
 intro L env A' ev rm' hg
 refine W_cons ?_
 k_extra "go"
 unfold pPos
 refine ite_b (fun h => ?_) fun h => ?_ <;> simp only [decide_eq_true_eq, decide_eq_false_iff_not] at h
 ·rw [if_pos h]
  k_extra "go"
  exact ⟨⟨_, rfl⟩, rfl, rfl⟩
 ·rw [if_neg h]
  k_extra "go"
  exact ⟨rfl, rfl, rfl⟩
theorem s_chars_end {x y : Str} {t t1 t2 : Tok} {a : Int} (K : KB w B) (rm : Rm A 1) (hx : x.length ≤ 2) (hy : y.length ≤ 2) :
  Wc w A (.call (.ref 306) ⟨[.str x t, .int a t1, .str y t2], []⟩) (fun v B' N' => OptI (pChars x y a) v ∧ B = B' ∧ N = N') B N := by
 refine Wc_drop ?_
 refine c_chars_end K rm ?_
 intro L env A' ev rm' hg
 refine W_cons ?_
 k_extra "go"
 refine W_lenStr ?_ fun u => ?_
 ·lia
 k_extra "go"
 unfold pChars
 refine ite_b (fun h => ?_) fun h => ?_
 ·rw [if_pos h]
  k_extra "go"
  exact ⟨N, by k_extra "sls", ⟨_, rfl⟩, rfl, rfl⟩
 ·rw [if_neg (by rw [h]; decide)]
  k_extra "go"
  exact ⟨N, by k_extra "sls", rfl, rfl, rfl⟩
theorem s_tab_end {x : Str} {t t1 t2 : Tok} {a m : Int} (K : KB w B) (rm : Rm A 1) (hx : x.length ≤ 2) :
  Wc w A (.call (.ref 334) ⟨[.str x t, .int a t1, .int m t2], []⟩) (fun v B' N' => OptI (pTab x a m) v ∧ B = B' ∧ N = N') B N := by
 refine c_tab_end K rm ?_
 intro L env A' ev rm' hg
 refine W_cons ?_
 k_extra "go"
 unfold pTab
 refine ite_b (fun h => ?_) fun h => ?_ <;> simp only [decide_eq_true_eq, decide_eq_false_iff_not] at h
 ·k_extra "go"
  refine W_lenStr ?_ fun u => ?_
  ·lia
  k_extra "go"
  refine ite_b (fun h2 => ?_) fun h2 => ?_ <;> simp only [decide_eq_true_eq, decide_eq_false_iff_not] at h2
  ·k_extra "go"
   rw [if_pos ⟨h, h2⟩]
   exact ⟨⟨_, rfl⟩, rfl, rfl⟩
  ·k_extra "go"
   rw [if_neg fun z => h2 z.2]
   exact ⟨rfl, rfl, rfl⟩
 ·k_extra "tf"
  k_extra "go"
  rw [if_neg fun z => h z.1]
  exact ⟨rfl, rfl, rfl⟩
theorem s_any_at {x y : Str} {t t1 t2 : Tok} {a : Int} (K : KB w B) (rm : Rm A 1) (hx : x.length ≤ 2) (h0 : 0 ≤ a) :
  Wc w A (.call (.ref 355) ⟨[.str x t, .int a t1, .str y t2], []⟩) (fun v B' N' => OptI (pAny x y a) v ∧ B = B' ∧ N = N') B N := by
 refine c_any_at K rm ?_
 intro L env A' ev rm' hg
 refine W_cons ?_
 k_extra "go"
 refine W_lenStr ?_ fun u => ?_
 ·lia
 k_extra "go"
 unfold pAny
 refine ite_b (fun h => ?_) fun h => ?_ <;> simp only [decide_eq_true_eq, decide_eq_false_iff_not] at h
 ·k_extra "go"
  refine W_item_str h0 ?_ (chAt_get h0 h) fun u => ?_
  ·lia
  k_extra "go"
  refine ite_b (fun h2 => ?_) fun h2 => ?_
  ·k_extra "go"
   k_extra "tf"
   k_extra "go"
   rw [if_pos ⟨h, h2⟩]
   exact ⟨⟨_, rfl⟩, rfl, rfl⟩
  ·k_extra "go"
   k_extra "tf"
   k_extra "go"
   rw [if_neg fun z => by rw [show Txt.contains y (chAt x a) = false from h2] at z; exact absurd z.2 (by decide)]
   exact ⟨rfl, rfl, rfl⟩
 ·k_extra "go"
  k_extra "tf"
  k_extra "go"
  rw [if_neg fun z => h z.1]
  exact ⟨rfl, rfl, rfl⟩
noncomputable def runE (x y : Str) : Nat → Int → Int
 | 0, a => a
 | k + 1, a => if a < x.length ∧ Txt.contains y (chAt x a) = true then runE x y k (a + 1) else a
theorem runE.k2 {x y : Str} {k a} : runE x y (k + 1) a = if a < x.length ∧ Txt.contains y (chAt x a) = true then runE x y k (a + 1) else a := rfl
theorem runE_t {x y : Str} {k : Nat} {a : Int} (h : a < x.length ∧ Txt.contains y (chAt x a) = true) : runE x y (k + 1) a = runE x y k (a + 1) := by rw [runE.k2, if_pos h]
theorem runE_f {x y : Str} {k : Nat} {a : Int} (h : ¬ (a < x.length ∧ Txt.contains y (chAt x a) = true)) : runE x y (k + 1) a = a := by rw [runE.k2, if_neg h]
noncomputable def pSpan (x y : Str) (a : Int) : Option Int := if a < runE x y 3 a then some (runE x y 3 a) else none
noncomputable abbrev R_run_end (B : Bm) (N : Nm) (x : Str) (y : Str) (a : Int) : Value → Bm → Nm → Prop := fun v B' N' => OptI (some (runE x y 3 a)) v ∧ B = B' ∧ N = N'
theorem s_run_end {x y : Str} {t t1 t2 : Tok} {a : Int} (K : KB w B) (rm : Rm A 1) (hx : x.length ≤ 2) (h0 : 0 ≤ a) :
  Wc w A (.call (.ref 369) ⟨[.str x t, .int a t1, .str y t2, .bool true], []⟩) (R_run_end B N x y a) B N := by
 refine c_run_end K rm ?_
 intro L env A' ev rm' hg
 refine W_cons ?_
 k_extra "go"
 refine WL_rec (fun _ => B) (fun (s : Int × Tok) => [some (.str x t), some (.int s.1 s.2), some (.str y t2), some (.bool true)]) (fun _ => N) (fun s => (x.length - s.1).toNat)
  (fun s => 0 ≤ s.1 ∧ ∃ k : Nat, (x.length : Int) < s.1 + k ∧ runE x y k s.1 = runE x y 3 a) ?_ (a, t1) ⟨h0, 3, by dsimp only; lia, rfl⟩
 intro ⟨b, tb⟩ ⟨hb, k, hk, hr⟩ ih
 dsimp only at hb hk hr ih ⊢
 refine WL_while ?_
 k_extra "go"
 refine W_lenStr ?_ fun u => ?_
 ·lia
 k_extra "go"
 cases k with
 | zero =>
  refine ite_f (by simp; lia) ?_
  k_extra "tf"
  k_extra "go"
  exact ⟨⟨_, by rw [← hr]; rfl⟩, rfl, rfl⟩
 | succ k =>
  refine ite_b (fun h => ?_) fun h => ?_ <;> simp only [decide_eq_true_eq, decide_eq_false_iff_not] at h
  ·k_extra "go"
   refine W_item_str hb ?_ (chAt_get hb h) fun u => ?_
   ·lia
   k_extra "go"
   refine ite_b (fun h2 => ?_) fun h2 => ?_ <;> simp only [beq_true] at h2
   ·k_extra "go"
    k_extra "tf"
    k_extra "go"
    refine ih (_, _) ?_ ⟨?_, k, ?_, ?_⟩
    ·dsimp only; lia
    ·dsimp only; lia
    ·dsimp only; lia
    ·rw [← hr, runE_t ⟨h, h2⟩]
   ·k_extra "tf"
    k_extra "go"
    exact ⟨⟨_, by rw [← hr, runE_f fun z => by rw [show Txt.contains y (chAt x b) = false from h2] at z; exact absurd z.2 (by decide)]; rfl⟩, rfl, rfl⟩
  ·k_extra "tf"
   k_extra "go"
   exact ⟨⟨_, by rw [← hr, runE_f fun z => h z.1]; rfl⟩, rfl, rfl⟩
theorem s_span_end {x y : Str} {t t1 t2 : Tok} {a : Int} (K : KB w B) (rm : Rm A 2) (hx : x.length ≤ 2) (h0 : 0 ≤ a) :
  Wc w A (.call (.ref 376) ⟨[.str x t, .int a t1, .str y t2], []⟩) (fun v B' N' => OptI (pSpan x y a) v ∧ B = B' ∧ N = N') B N := by
 refine c_span_end K rm ?_
 intro L env A' ev rm' hg
 refine W_cons ?_
 k_extra "go"
 refine W_codeK (s_run_end K rm' hx h0) fun G1 up1 => ?_
 rintro v B' N' - ⟨⟨t, rfl⟩, rfl, rfl⟩
 refine up1 _ _ _ ?_
 k_extra "go"
 unfold pSpan
 refine ite_b (fun h => ?_) fun h => ?_ <;> simp only [decide_eq_true_eq, decide_eq_false_iff_not] at h
 ·k_extra "go"
  rw [if_pos h]
  exact ⟨⟨_, rfl⟩, rfl, rfl⟩
 ·k_extra "go"
  rw [if_neg h]
  exact ⟨rfl, rfl, rfl⟩
inductive R_arb_ends (B : Bm) (N : Nm) (x : Str) (a : Int) (v : Value) (B' : Bm) (N' : Nm) : Prop
 | mk : ∀ l xs, v = .ref l → Ints ((List.range ((x.length : Int) + 1 - a).toNat).map fun (i : Nat) => a + (i : Int)) xs → B = B' → N' = (l, .lst xs) :: N → R_arb_ends B N x a v B' N'
theorem s_arb_ends {x : Str} {t t1 : Tok} {a : Int} (K : KB w B) (rm : Rm A 1) (hx : x.length ≤ 2) (h0 : 0 ≤ a) (h1 : a ≤ 2) :
  Wc w A (.call (.ref 390) ⟨[.str x t, .int a t1], []⟩) (R_arb_ends B N x a) B N := by
 refine Wc_drop ?_
 refine c_arb_ends K rm ?_
 intro L env A' ev rm' hg
 refine W_cons ?_
 k_extra "go"
 refine W_lenStr ?_ fun u => ?_
 ·lia
 k_extra "go"
 refine W_range2 fun r v => ?_
 k_extra "go"
 refine W_listRng rm'.2.2 (Rd.n (by k_extra "mem")) h0 (by lia) (by lia) (by lia) fun l xs hi => ?_
 exact ⟨(l, .lst xs) :: N, by k_extra "sls", l, xs, rfl, hi, rfl, rfl⟩
end
end
section
section
variable {w : World} {A : Around} {B : Bm} {N : Nm} {d : Nat}
noncomputable def par (x : Str) (a : Int) : Int := if (chAt x a == Str.ofString "(") = true then 1 else if (chAt x a == Str.ofString ")") = true then -1 else 0
theorem par_o {x : Str} {a : Int} (h : (chAt x a == Str.ofString "(") = true) : par x a = 1 := by rw [par, if_pos h]
theorem par_c {x : Str} {a : Int} (h : (chAt x a == Str.ofString "(") = false) (h' : (chAt x a == Str.ofString ")") = true) : par x a = -1 := by rw [par, if_neg (by rw [h]; decide), if_pos h']
theorem par_n {x : Str} {a : Int} (h : (chAt x a == Str.ofString "(") = false) (h' : (chAt x a == Str.ofString ")") = false) : par x a = 0 := by rw [par, if_neg (by rw [h]; decide), if_neg (by rw [h']; decide)]
noncomputable def balE (x : Str) : Nat → Int → Int → Option Int
 | 0, _, _ => none
 | k + 1, lev, a => if a < x.length then (if lev + par x a < 0 then none else if lev + par x a = 0 then some (a + 1) else balE x k (lev + par x a) (a + 1)) else none
theorem balE.k2 {x : Str} {k lev a} : balE x (k + 1) lev a = if a < x.length then (if lev + par x a < 0 then none else if lev + par x a = 0 then some (a + 1) else balE x k (lev + par x a) (a + 1)) else none := rfl
theorem s_bal_end {x : Str} {t t1 : Tok} {a : Int} (K : KB w B) (rm : Rm A 1) (hx : x.length ≤ 2) (h0 : 0 ≤ a) :
  Wc w A (.call (.ref 397) ⟨[.str x t, .int a t1], []⟩) (fun v B' N' => OptI (balE x 3 0 a) v ∧ B = B' ∧ N = N') B N := by
 refine c_bal_end K rm ?_
 intro L env A' ev rm' hg
 refine W_cons ?_
 k_extra "go"
 rename_i tl
 refine WL_rec (fun _ => B) (fun (s : (Int × Tok) × Int × Tok) => [some (.str x t), some (.int s.2.1 s.2.2), some (.int s.1.1 s.1.2)]) (fun _ => N) (fun s => (x.length - s.2.1).toNat)
  (fun s => 0 ≤ s.2.1 ∧ ∃ k : Nat, (x.length : Int) < s.2.1 + k ∧ balE x k s.1.1 s.2.1 = balE x 3 0 a) ?_ ((0, tl), a, t1) ⟨h0, 3, by dsimp only; lia, rfl⟩
 intro ⟨⟨lev, tlev⟩, b, tb⟩ ⟨hb, k, hk, hr⟩ ih
 dsimp only at hb hk hr ih ⊢
 rw [← hr]
 refine WL_while ?_
 k_extra "go"
 refine W_lenStr ?_ fun u => ?_
 ·lia
 k_extra "go"
 cases k with
 | zero =>
  refine ite_f (by simp; lia) ?_
  k_extra "go"
  exact ⟨rfl, rfl, rfl⟩
 | succ k =>
  have hk' : (x.length : Int) < b + 1 + k := by lia
  refine ite_b (fun h => ?_) fun h => ?_ <;> simp only [decide_eq_true_eq, decide_eq_false_iff_not] at h
  ·refine W_seq (fun B1 vs N1 => B = B1 ∧ N = N1 ∧ ∃ t', vs = [some (.str x t), some (.int b tb), some (.int (lev + par x b) t')]) ?_ ?_
   ·k_extra "go"
    refine W_item_str hb ?_ (chAt_get hb h) fun u => ?_
    ·lia
    k_extra "go"
    refine ite_b (fun h1 => ?_) fun h1 => ?_
    ·k_extra "go"
     exact ⟨rfl, rfl, rfl, _, by rw [par_o h1]⟩
    ·k_extra "go"
     refine W_item_str hb ?_ (chAt_get hb h) fun u => ?_
     ·lia
     k_extra "go"
     refine ite_b (fun h2 => ?_) fun h2 => ?_
     ·k_extra "go"
      exact ⟨rfl, rfl, rfl, _, by rw [par_c h1 h2]; rfl⟩
     ·k_extra "go"
      exact ⟨rfl, rfl, rfl, tlev, by rw [par_n h1 h2, Int.add_zero]⟩
   ·rintro _ _ _ hq9
    refine cutP fun G1 up1 => ?_
    obtain ⟨rfl, rfl, t', rfl⟩ := hq9
    refine up1 ?_
    k_extra "go"
    refine ite_b (fun h1 => ?_) fun h1 => ?_ <;> simp only [decide_eq_true_eq, decide_eq_false_iff_not] at h1
    ·k_extra "go"
     rw [balE.k2, if_pos h, if_pos h1]
     exact ⟨rfl, rfl, rfl⟩
    ·k_extra "go"
     refine ite_b (fun h2 => ?_) fun h2 => ?_ <;> simp only [decide_eq_true_eq, decide_eq_false_iff_not] at h2
     ·k_extra "go"
      rw [balE.k2, if_pos h, if_neg h1, if_pos h2]
      exact ⟨⟨_, rfl⟩, rfl, rfl⟩
     ·k_extra "go"
      rw [balE.k2, if_pos h, if_neg h1, if_neg h2] at hr ⊢
      rw [hr]
      refine ih ((_, _), _, _) ?_ ⟨?_, k, ?_, ?_⟩
      ·dsimp only; lia
      ·dsimp only; lia
      ·exact hk'
      ·exact hr
  ·k_extra "go"
   rw [balE.k2, if_neg h]
   exact ⟨rfl, rfl, rfl⟩
noncomputable def balEs (x : Str) : Nat → Int → List Int
 | 0, _ => []
 | k + 1, a => match balE x 3 0 a with | none => [] | some e => e :: balEs x k e
theorem balEs.k2 {x : Str} {k a} : balEs x (k + 1) a = match balE x 3 0 a with | none => [] | some e => e :: balEs x k e := rfl
theorem balE_gt {x : Str} : ∀ {k : Nat} {l a e : Int}, balE x k l a = some e → a < e ∧ e ≤ x.length
 | 0, l, a, e, h => by cases h
 | k + 1, l, a, e, h => by
  rw [balE.k2] at h
  split at h
  ·split at h
   ·cases h
   ·split at h
    ·cases h; lia
    ·have := balE_gt h; lia
  ·cases h
theorem ints_snoc {is : List Int} {vs : List Value} {i : Int} {t : Tok} (h : Ints is vs) : Ints (is ++ [i]) (vs ++ [.int i t]) := by
 induction is generalizing vs with
 | nil => cases h; exact ⟨t, [], rfl, rfl⟩
 | cons j is ih => obtain ⟨t', vs', rfl, h⟩ := h; exact ⟨t', _, rfl, ih h⟩
theorem ints_len {is : List Int} {vs : List Value} (h : Ints is vs) : vs.length = is.length := by
 induction is generalizing vs with
 | nil => cases h; rfl
 | cons j is ih => obtain ⟨t', vs', rfl, h⟩ := h; simp [ih h]
noncomputable def balT (x : Str) (k : Nat) : Option Int → List Int
 | none => []
 | some e => e :: balEs x k e
theorem balEs_s (x : Str) (k : Nat) (a : Int) : balEs x (k + 1) a = balT x k (balE x 3 0 a) := by rw [balEs.k2]; cases balE x 3 0 a <;> rfl
theorem balEs_len (x : Str) : ∀ (k : Nat) (a : Int), (balEs x k a).length ≤ k
 | 0, a => Nat.le_refl _
 | k + 1, a => by
  rw [balEs_s]
  cases balE x 3 0 a with
  | none => exact Nat.zero_le _
  | some e => exact Nat.succ_le_succ (balEs_len x k e)
theorem ints_nil : Ints [] [] := rfl
inductive R_bal_ends (B : Bm) (N : Nm) (x : Str) (a : Int) (v : Value) (B' : Bm) (N' : Nm) : Prop
 | mk : ∀ l xs, v = .ref l → Ints (balEs x 3 a) xs → B = B' → N' = (l, .lst xs) :: N → R_bal_ends B N x a v B' N'
theorem s_bal_ends {x : Str} {t t1 : Tok} {a : Int} (K : KB w B) (rm : Rm A 2) (hx : x.length ≤ 2) (h0 : 0 ≤ a) :
  Wc w A (.call (.ref 404) ⟨[.str x t, .int a t1], []⟩) (R_bal_ends B N x a) B N := by
 refine Wc_drop ?_
 refine c_bal_ends K rm ?_
 intro L env A' ev rm' hg
 refine W_cons ?_
 k_extra "as2"
 k_extra "go"
 refine ⟨by decide, fun l => ?_⟩
 k_extra "go"
 refine W_codeK (s_bal_end K rm' hx h0) fun G2 up2 => ?_
 rintro v B' N' - ⟨hv, rfl, rfl⟩
 refine up2 _ _ _ ?_
 k_extra "go"
 refine WL_rec (fun _ => B) (fun (s : (Value × List Value) × Option Int) => [some (.str x t), some (.int a t1), some (.ref l), some s.1.1]) (fun s => (l, .lst s.1.2) :: N) (fun s => match s.2 with | none => 0 | some e => ((x.length : Int) - e).toNat + 1)
  (fun s => OptI s.2 s.1.1 ∧ (∀ e, s.2 = some e → 0 ≤ e ∧ e ≤ x.length) ∧ ∃ dn k, Ints dn s.1.2 ∧ dn ++ balT x k s.2 = balEs x 3 a ∧ ∀ e, s.2 = some e → (x.length : Int) < e + k) ?_ ((v, []), balE x 3 0 a)
  ⟨hv, fun e he => by have := balE_gt he; lia, [], 2, ints_nil, by rw [balEs_s]; rfl, fun e he => by have := balE_gt he; show (x.length : Int) < e + (2 : Nat); lia⟩
 intro ⟨⟨v, xs⟩, o⟩ ⟨hv, he, dn, k, hd, hr, hk⟩ ih
 dsimp only at hv he hd hr hk ih ⊢
 have hl : xs.length ≤ 3 := by
  rw [ints_len hd]
  have := balEs_len x 3 a
  rw [← hr, List.length_append] at this
  lia
 refine WL_while ?_
 k_extra "go"
 cases o with
 | none =>
  cases hv
  k_extra "tf"
  k_extra "go"
  refine ⟨_, List.Sublist.refl _, l, xs, rfl, ?_, rfl, rfl⟩
  rw [← hr]
  show Ints (dn ++ []) xs
  rw [List.append_nil]; exact hd
 | some e =>
  obtain ⟨te, rfl⟩ := hv
  obtain ⟨e0, e1⟩ := he e rfl
  have hk := hk e rfl
  k_extra "tf"
  k_extra "go"
  k_extra "append"
  ·rw [sizeLine_eq]; lia
  refine ⟨fun _ z => (nomatch z), ?_⟩
  k_extra "go"
  refine W_codeK (s_bal_end K rm' hx e0) fun G3 up3 => ?_
  rintro v B'' N'' - ⟨hv, rfl, rfl⟩
  refine up3 _ _ _ ?_
  k_extra "go"
  cases k with
  | zero => exact absurd hk (by lia)
  | succ k =>
  refine ih ((v, xs ++ [.int e te]), balE x 3 0 e) ?_ ⟨hv, ?_, dn ++ [e], k, ints_snoc hd, ?_, ?_⟩
  ·cases q : balE x 3 0 e with
   | none => exact Nat.succ_pos _
   | some f => have := balE_gt q; show ((x.length : Int) - f).toNat + 1 < ((x.length : Int) - e).toNat + 1; lia
  ·intro f hf; have := balE_gt hf; lia
  ·rw [← hr]; show _ = dn ++ (e :: balEs x (k + 1) e); rw [balEs_s]; simp
  ·intro f hf; have := balE_gt hf; lia
end
end
section
inductive Lf where
 | len (k : Nat) | any (y : Str) | arb | pos (k : Nat) | tab (k : Nat) | span (y : Str) | bal | rem | chars (y : Str)
noncomputable def Lf.kind : Lf → Str
 | .len _ => "len" | .any _ => "any" | .arb => "arb" | .pos _ => "pos" | .tab _ => "tab" | .span _ => "span" | .bal => "bal" | .rem => "rem" | .chars _ => "chars"
noncomputable def Lf.told : Lf → Value → Prop
 | .len k, v => ∃ t, v = .int k t
 | .pos k, v => ∃ t, v = .int k t
 | .tab k, v => ∃ t, v = .int k t
 | .any y, v => ∃ t, v = .str y t
 | .span y, v => ∃ t, v = .str y t
 | .chars y, v => ∃ t, v = .str y t
 | _, v => v = .none
noncomputable def Lf.single : Lf → Bool
 | .arb => false | .bal => false | _ => true
noncomputable def Lf.fits : Lf → Bool
 | .any y => y.length ≤ 2 | .span y => y.length ≤ 2 | .chars y => y.length ≤ 2 | .len k => k ≤ 2 | .pos k => k ≤ 2 | .tab k => k ≤ 2 | _ => true
noncomputable def pEnd (x : Str) (a : Int) : Lf → Option Int
 | .len k => pLen x a k
 | .pos k => pPos a k
 | .tab k => pTab x a k
 | .any y => pAny x y a
 | .span y => pSpan x y a
 | .chars y => pChars x y a
 | .rem => some x.length
 | _ => none
section
variable {w : World} {A : Around} {B : Bm} {N : Nm} {d : Nat}
theorem s_one_end {x : Str} {t t1 tk : Tok} {a : Int} {lf : Lf} {v : Value} (K : KB w B) (rm : Rm A 3) (hx : x.length ≤ 2) (h0 : 0 ≤ a) (hs : lf.single = true) (hr : lf ≠ .rem) (hf : lf.fits = true) (hv : lf.told v) :
  Wc w A (.call (.ref 411) ⟨[.str lf.kind tk, .str x t, .int a t1, v], []⟩) (fun v B' N' => OptI (pEnd x a lf) v ∧ B = B' ∧ N = N') B N := by
 refine c_one_end K rm ?_
 intro L env A' ev rm' hg
 refine W_cons ?_
 k_extra "go"
 cases lf with
 | arb => cases hs
 | bal => cases hs
 | rem => exact absurd rfl hr
 | chars y =>
  obtain ⟨t2, rfl⟩ := hv
  k_extra "tf"
  k_extra "go"
  refine W_codeK (s_chars_end K (rm'.le (by decide)) hx (of_decide_eq_true hf)) fun G1 up1 => ?_
  rintro v B' N' - ⟨hv, rfl, rfl⟩
  refine up1 _ _ _ ?_
  exact ⟨hv, rfl, rfl⟩
 | len k =>
  obtain ⟨t2, rfl⟩ := hv
  k_extra "tf"
  k_extra "go"
  k_extra "tf"
  k_extra "go"
  refine W_codeK (s_len_end K (rm'.le (by decide)) hx) fun G2 up2 => ?_
  rintro v B' N' - ⟨hv, rfl, rfl⟩
  refine up2 _ _ _ ?_
  exact ⟨hv, rfl, rfl⟩
 | pos k =>
  obtain ⟨t2, rfl⟩ := hv
  iterate 3
   k_extra "tf"
   k_extra "go"
  refine W_codeK (s_pos_end K (rm'.le (by decide))) fun G3 up3 => ?_
  rintro v B' N' - ⟨hv, rfl, rfl⟩
  refine up3 _ _ _ ?_
  exact ⟨hv, rfl, rfl⟩
 | tab k =>
  obtain ⟨t2, rfl⟩ := hv
  iterate 5
   k_extra "tf"
   k_extra "go"
  refine W_codeK (s_tab_end K (rm'.le (by decide)) hx) fun G4 up4 => ?_
  rintro v B' N' - ⟨hv, rfl, rfl⟩
  refine up4 _ _ _ ?_
  exact ⟨hv, rfl, rfl⟩
 | any y =>
  obtain ⟨t2, rfl⟩ := hv
  iterate 7
   k_extra "tf"
   k_extra "go"
  refine W_codeK (s_any_at K (rm'.le (by decide)) hx h0) fun G5 up5 => ?_
  rintro v B' N' - ⟨hv, rfl, rfl⟩
  refine up5 _ _ _ ?_
  exact ⟨hv, rfl, rfl⟩
 | span y =>
  obtain ⟨t2, rfl⟩ := hv
  iterate 9
   k_extra "tf"
   k_extra "go"
  refine W_codeK (s_span_end K (rm'.le (by decide)) hx h0) fun G6 up6 => ?_
  rintro v B' N' - ⟨hv, rfl, rfl⟩
  refine up6 _ _ _ ?_
  exact ⟨hv, rfl, rfl⟩
end
end
section
noncomputable def LfN (lf : Lf) (vs : List Value) : Prop := (∃ t, vs[0]? = some (.str lf.kind t)) ∧ (lf ≠ .rem → ∃ v, vs[1]? = some v ∧ lf.told v)
noncomputable def pEnds (x : Str) (a : Int) : Lf → List Int
 | .arb => (List.range ((x.length : Int) + 1 - a).toNat).map fun (i : Nat) => a + (i : Int)
 | .bal => balEs x 3 a
 | lf => match pEnd x a lf with | none => [] | some e => [e]
section
variable {w : World} {A : Around} {B : Bm} {N : Nm} {d : Nat}
theorem s_plain_end {x : Str} {t t1 : Tok} {a : Int} {lf : Lf} {p : Addr} {vs : List Value} (K : KB w B) (rm : Rm A 4) (hx : x.length ≤ 2) (h0 : 0 ≤ a) (hs : lf.single = true) (hf : lf.fits = true) (hp : Rd B N p (.tup vs)) (hv : LfN lf vs) :
  Wc w A (.call (.ref 418) ⟨[.ref p, .str x t, .int a t1], []⟩) (fun v B' N' => OptI (pEnd x a lf) v ∧ B = B' ∧ N = N') B N := by
 refine c_plain_end K rm ?_
 intro L env A' ev rm' hg
 refine W_cons ?_
 refine cutP fun G1 up1 => ?_
 obtain ⟨⟨tk, h1⟩, h2⟩ := hv
 refine up1 ?_
 k_extra "1"
 k_extra "1"
 k_extra "1"
 k_extra "1"
 k_extra "1"
 k_extra "1"
 refine W_itemT hp (by decide) (by decide) h1 ?_
 k_extra "go"
 by_cases hr : lf = .rem
 ·subst hr
  k_extra "tf"
  k_extra "go"
  refine W_codeK (s_rem_end K (rm'.le (by decide)) hx) fun G2 up2 => ?_
  rintro v B' N' - ⟨hv, rfl, rfl⟩
  refine up2 _ _ _ ?_
  exact ⟨hv, rfl, rfl⟩
 ·refine cutP fun G3 up3 => ?_
  obtain ⟨v, hv, ht⟩ := h2 hr
  refine up3 ?_
  refine ite_f (by cases lf <;> first | exact absurd rfl hr | rfl) ?_
  k_extra "go"
  refine W_itemT hp (by decide) (by decide) h1 ?_
  k_extra "go"
  refine W_itemT hp (by decide) (by decide) hv ?_
  k_extra "go"
  refine W_codeK (s_one_end K rm' hx h0 hs hr hf ht) fun G4 up4 => ?_
  rintro v B' N' - ⟨hv, rfl, rfl⟩
  refine up4 _ _ _ ?_
  exact ⟨hv, rfl, rfl⟩
inductive R_ends_of (B : Bm) (N : Nm) (x : Str) (a : Int) (lf : Lf) (v : Value) (B' : Bm) (N' : Nm) : Prop
 | mk : ∀ l xs, v = .ref l → Ints (pEnds x a lf) xs → B = B' → N' = (l, .lst xs) :: N → R_ends_of B N x a lf v B' N'
theorem s_ends_of {x : Str} {t t1 tk : Tok} {a : Int} {lf : Lf} (K : KB w B) (rm : Rm A 3) (hx : x.length ≤ 2) (h0 : 0 ≤ a) (h1 : a ≤ 2) (hs : lf.single = false) :
  Wc w A (.call (.ref 425) ⟨[.str lf.kind tk, .str x t, .int a t1, .none], []⟩) (R_ends_of B N x a lf) B N := by
 refine c_ends_of K rm ?_
 intro L env A' ev rm' hg
 refine W_cons ?_
 k_extra "go"
 cases lf with
 | arb =>
  k_extra "tf"
  k_extra "go"
  refine W_codeK (s_arb_ends K (rm'.le (by decide)) hx h0 h1) fun G5 up5 => ?_
  rintro v B' N' - ⟨l, xs, rfl, hi, rfl, rfl⟩
  refine up5 _ _ _ ?_
  exact ⟨l, xs, rfl, hi, rfl, rfl⟩
 | bal =>
  k_extra "tf"
  k_extra "go"
  k_extra "tf"
  k_extra "go"
  refine W_codeK (s_bal_ends K (rm'.le (by decide)) hx h0) fun G6 up6 => ?_
  rintro v B' N' - ⟨l, xs, rfl, hi, rfl, rfl⟩
  refine up6 _ _ _ ?_
  exact ⟨l, xs, rfl, hi, rfl, rfl⟩
 | _ => cases hs
noncomputable abbrev hVs (vd lim ref wid st lg : Value) : Vs := [some vd, some lim, some ref, some wid, some st, some lg]
noncomputable abbrev R_step (B : Bm) (N : Nm) (hd : Addr) (vd : Value) (ref : Value) (wid : Value) (lg : Value) (tl : Tok) (s : Int) : Value → Bm → Nm → Prop := fun v B' N' => v = .none ∧ B = B' ∧ ∃ t, N' = (hd, .att hNs (hVs vd (.int 99999 tl) ref wid (.int (s + 1) t) lg)) :: N
theorem s_step {h hd : Addr} {vd lim ref wid lg : Value} {tl ts : Tok} {s : Int} (K : KB w B) (rm : Rm A 1) (hi : B h = some (.inst 589 hd)) (hs : s < 99999) :
  Wc w A (.call (.ref 586) ⟨[.ref h], []⟩) (R_step B N hd vd ref wid lg tl s) B ((hd, .att hNs (hVs vd (.int 99999 tl) ref wid (.int s ts) lg)) :: N) := by
 refine c_PlainHost_step K rm ?_
 intro L env A' ev rm' hg
 refine W_cons ?_
 k_extra "go"
 refine ite_f (by simp; lia) ?_
 k_extra "go"
 exact ⟨rfl, rfl, _, rfl⟩
end
end
section
section
variable {w : World} {A : Around} {B : Bm} {N : Nm} {d : Nat}
noncomputable abbrev HB (hd vd lg : Addr) (lim rf wid st : Value) (k : Nat) (ls : List Value) (N : Nm) : Nm := (hd, .att hNs (hVs (.ref vd) lim rf wid st (.ref lg))) :: (vd, .sd k) :: (lg, .lst ls) :: N
noncomputable abbrev R_assign (B : Bm) (N : Nm) (hd : Addr) (vd : Addr) (lg : Addr) (rf : Addr) (lim : Value) (wid : Value) (st : Value) (val : Value) (k : Nat) (ls : List Value) (key : Str) (tk : Tok) : Value → Bm → Nm → Prop := fun v B' N' => v = .bool true ∧ (∀ a o, B a = some o → B' a = some o) ∧ ∃ e, B' e = some (.tup [.str key tk, val]) ∧ N' = HB hd vd lg lim (.ref rf) wid st (k + 1) (ls ++ [.ref e]) N
theorem s_assign {h hd vd lg rf r rd : Addr} {lim wid st kd ow val : Value} {k : Nat} {ls : List Value} {key : Str} {tk : Tok} (K : KB w B) (rm : Rm A 1) (hi : B h = some (.inst 589 hd)) (hrf : B rf = some (.lst [])) (hr : B r = some (.inst 208 rd))
  (hrd : B rd = some (.att rNs [some kd, some ow, some (.str key tk)])) (hk : k ≤ 100000) (hl : ls.length ≤ 100000) :
  Wc w A (.call (.ref 579) ⟨[.ref h, .ref r, val], []⟩) (R_assign B N hd vd lg rf lim wid st val k ls key tk) B (HB hd vd lg lim (.ref rf) wid st k ls N) := by
 refine c_PlainHost_assign K rm ?_
 intro L env A' ev rm' hg
 refine W_cons ?_
 k_extra "go"
 refine W_inNil (Rd.b hrf) ?_
 k_extra "go"
 k_extra "tf"
 k_extra "go"
 k_extra "setSd"
 ·k_extra "sz"
 k_extra "go"
 refine ⟨by k_extra "sz", fun e B1 le1 he => ?_⟩
 have K := K.mono le1
 k_extra "go"
 k_extra "append"
 ·k_extra "sz"
 refine ⟨fun _ z => (nomatch z), ?_⟩
 k_extra "go"
 exact ⟨rfl, le1, e, he, rfl⟩
end
end
section
noncomputable def Tup (B : Bm) (v : Value) (xs : List Value) : Prop := ∃ a, v = .ref a ∧ B a = some (.tup xs)
theorem Tup.mono {B B' : Bm} {v : Value} {xs : List Value} (h : Tup B v xs) (le : ∀ a o, B a = some o → B' a = some o) : Tup B' v xs := let ⟨a, e, x⟩ := h; ⟨a, e, le _ _ x⟩
section
variable {w : World} {A : Around} {B : Bm} {N : Nm} {d : Nat}
noncomputable abbrev R_led_in_cat (B : Bm) (N : Nm) (t1 : Tok) (a : Int) (x : Value) (y : Value) (rest : Value) (nm : Value) : Value → Bm → Nm → Prop := fun v B' N' => leB B B' ∧ N = N' ∧ ∃ c r, Tup B' v [c, .int a t1, nm] ∧ Tup B' c [x, r] ∧ Tup B' r [y, rest]
theorem s_led_in_cat {t t1 : Tok} {a : Int} {x y rest nm : Value} {p pl : Addr} (K : KB w B) (rm : Rm A 1) (hp : B p = some (.tup [.str "cat" t, x, y])) (hn : handedIn nm = true) :
  Wc w A (.call (.ref 628) ⟨[.ref p, rest, .int a t1, nm, .ref pl], []⟩) (R_led_in_cat B N t1 a x y rest nm) B N := by
 refine c_led_in K rm ?_
 intro L env A' ev rm' hg
 refine W_cons ?_
 k_extra "go"
 k_extra "tf"
 k_extra "go"
 refine ⟨by k_extra "sz", fun e1 B1 le1 he1 => ?_⟩
 k_extra "go"
 refine ⟨by k_extra "sz", fun e2 B2 le2 he2 => ?_⟩
 k_extra "go"
 refine ⟨by k_extra "sz", fun e3 B3 le3 he3 => ?_⟩
 exact ⟨fun b o h => le3 _ _ (le2 _ _ (le1 _ _ h)), rfl, .ref e2, .ref e1, ⟨_, rfl, he3⟩, ⟨_, rfl, le3 _ _ he2⟩, ⟨_, rfl, le3 _ _ (le2 _ _ he1)⟩⟩
noncomputable abbrev R_advanced_cat (B : Bm) (N : Nm) (t1 : Tok) (a : Int) (x : Value) (y : Value) (rest : Value) (nm : Value) : Value → Bm → Nm → Prop := fun v B' N' => leB B B' ∧ N = N' ∧ ∃ c r, Tup B' v [c, .int a t1, nm] ∧ Tup B' c [x, r] ∧ Tup B' r [y, rest]
theorem s_advanced_cat {t t1 : Tok} {a : Int} {x y rest nm host : Value} {ch p pl : Addr} {sx : Str} {ts : Tok} (K : KB w B) (rm : Rm A 2) (hc : B ch = some (.tup [.ref p, rest])) (hp : B p = some (.tup [.str "cat" t, x, y])) (hn : handedIn nm = true) :
  Wc w A (.call (.ref 621) ⟨[.ref ch, .int a t1, nm, .str sx ts, .ref pl, host], []⟩) (R_advanced_cat B N t1 a x y rest nm) B N := by
 refine c_advanced K rm ?_
 intro L env A' ev rm' hg
 refine W_cons ?_
 k_extra "go"
 k_extra "tf"
 k_extra "go"
 refine W_codeK (s_led_in_cat K rm' hp hn) fun G1 up1 => ?_
 rintro v B' N' - ⟨le, rfl, q⟩
 refine up1 _ _ _ ?_
 exact ⟨le, rfl, q⟩
noncomputable abbrev R_led_in_alt (w : World) (B : Bm) (N : Nm) (t1 : Tok) (a : Int) (x : Value) (y : Value) (rest : Value) (nm : Value) (pl : Addr) (P : List Value) : Value → Bm → Nm → Prop := fun v B' N' => leB B B' ∧ ∃ w c c', N' = (pl, .lst (P ++ [w])) :: N ∧ Tup B' w [c, .int a t1, nm] ∧ Tup B' c [y, rest] ∧ Tup B' v [c', .int a t1, nm] ∧ Tup B' c' [x, rest]
theorem s_led_in_alt {t t1 : Tok} {a : Int} {x y rest nm : Value} {p pl : Addr} {P : List Value} (K : KB w B) (rm : Rm A 1) (hp : B p = some (.tup [.str "alt" t, x, y])) (hn : handedIn nm = true) (hl : P.length ≤ 1000000) :
  Wc w A (.call (.ref 628) ⟨[.ref p, rest, .int a t1, nm, .ref pl], []⟩) (R_led_in_alt w B N t1 a x y rest nm pl P) B ((pl, .lst P) :: N) := by
 refine c_led_in K rm ?_
 intro L env A' ev rm' hg
 refine W_cons ?_
 k_extra "go"
 k_extra "tf"
 k_extra "go"
 k_extra "tf"
 k_extra "go"
 refine ⟨by k_extra "sz", fun e1 B1 le1 he1 => ?_⟩
 k_extra "go"
 refine ⟨by k_extra "sz", fun e2 B2 le2 he2 => ?_⟩
 k_extra "go"
 k_extra "append"
 ·k_extra "sz"
 refine ⟨fun _ z => (nomatch z), ?_⟩
 have hp := le2 _ _ (le1 _ _ hp)
 k_extra "go"
 refine ⟨by k_extra "sz", fun e3 B3 le3 he3 => ?_⟩
 k_extra "go"
 refine ⟨by k_extra "sz", fun e4 B4 le4 he4 => ?_⟩
 exact ⟨fun b o h => le4 _ _ (le3 _ _ (le2 _ _ (le1 _ _ h))), .ref e2, .ref e1, .ref e3, rfl, ⟨_, rfl, le4 _ _ (le3 _ _ he2)⟩, ⟨_, rfl, le4 _ _ (le3 _ _ (le2 _ _ he1))⟩, ⟨_, rfl, he4⟩, ⟨_, rfl, le4 _ _ he3⟩⟩
noncomputable abbrev R_advanced_alt (w : World) (B : Bm) (N : Nm) (t1 : Tok) (a : Int) (x : Value) (y : Value) (rest : Value) (nm : Value) (pl : Addr) (P : List Value) : Value → Bm → Nm → Prop := fun v B' N' => leB B B' ∧ ∃ w c c', N' = (pl, .lst (P ++ [w])) :: N ∧ Tup B' w [c, .int a t1, nm] ∧ Tup B' c [y, rest] ∧ Tup B' v [c', .int a t1, nm] ∧ Tup B' c' [x, rest]
theorem s_advanced_alt {t t1 : Tok} {a : Int} {x y rest nm host : Value} {ch p pl : Addr} {sx : Str} {ts : Tok} {P : List Value} (K : KB w B) (rm : Rm A 2) (hc : B ch = some (.tup [.ref p, rest])) (hp : B p = some (.tup [.str "alt" t, x, y])) (hn : handedIn nm = true) (hl : P.length ≤ 1000000) :
  Wc w A (.call (.ref 621) ⟨[.ref ch, .int a t1, nm, .str sx ts, .ref pl, host], []⟩) (R_advanced_alt w B N t1 a x y rest nm pl P) B ((pl, .lst P) :: N) := by
 refine c_advanced K rm ?_
 intro L env A' ev rm' hg
 refine W_cons ?_
 k_extra "go"
 k_extra "tf"
 k_extra "go"
 exact W_code (s_led_in_alt K rm' hp hn hl) fun v B' N' _ q => q
noncomputable abbrev R_led_in_arbno (w : World) (B : Bm) (N : Nm) (t1 : Tok) (a : Int) (x : Value) (rest : Value) (nm : Value) (p : Addr) (pl : Addr) (P : List Value) : Value → Bm → Nm → Prop := fun v B' N' => leB B B' ∧ ∃ w c c' r tr, N' = (pl, .lst (P ++ [w])) :: N ∧ Tup B' w [c, .int a t1, nm] ∧ Tup B' c [x, c'] ∧ Tup B' c' [r, rest] ∧ Tup B' r [.str "end round" tr, .ref p, .int a t1] ∧ Tup B' v [rest, .int a t1, nm]
theorem s_led_in_arbno {t t1 : Tok} {a : Int} {x rest nm : Value} {p pl : Addr} {P : List Value} (K : KB w B) (rm : Rm A 1) (hp : B p = some (.tup [.str "arbno" t, x])) (hn : handedIn nm = true) (hl : P.length ≤ 1000000) :
  Wc w A (.call (.ref 628) ⟨[.ref p, rest, .int a t1, nm, .ref pl], []⟩) (R_led_in_arbno w B N t1 a x rest nm p pl P) B ((pl, .lst P) :: N) := by
 refine c_led_in K rm ?_
 intro L env A' ev rm' hg
 refine W_cons ?_
 k_extra "go"
 k_extra "tf"
 k_extra "go"
 k_extra "tf"
 k_extra "go"
 k_extra "tf"
 k_extra "go"
 refine ⟨by k_extra "sz", fun e1 B1 le1 he1 => ?_⟩
 k_extra "go"
 refine ⟨by k_extra "sz", fun e2 B2 le2 he2 => ?_⟩
 k_extra "go"
 refine ⟨by k_extra "sz", fun e3 B3 le3 he3 => ?_⟩
 k_extra "go"
 refine ⟨by k_extra "sz", fun e4 B4 le4 he4 => ?_⟩
 k_extra "go"
 k_extra "append"
 ·k_extra "sz"
 refine ⟨fun _ z => (nomatch z), ?_⟩
 k_extra "go"
 refine ⟨by k_extra "sz", fun e5 B5 le5 he5 => ?_⟩
 exact ⟨fun b o h => le5 _ _ (le4 _ _ (le3 _ _ (le2 _ _ (le1 _ _ h)))), .ref e4, .ref e3, .ref e2, .ref e1, _, rfl, ⟨_, rfl, le5 _ _ he4⟩, ⟨_, rfl, le5 _ _ (le4 _ _ he3)⟩, ⟨_, rfl, le5 _ _ (le4 _ _ (le3 _ _ he2))⟩, ⟨_, rfl, le5 _ _ (le4 _ _ (le3 _ _ (le2 _ _ he1)))⟩, ⟨_, rfl, he5⟩⟩
noncomputable abbrev R_advanced_arbno (w : World) (B : Bm) (N : Nm) (t1 : Tok) (a : Int) (x : Value) (rest : Value) (nm : Value) (p : Addr) (pl : Addr) (P : List Value) : Value → Bm → Nm → Prop := fun v B' N' => leB B B' ∧ ∃ w c c' r tr, N' = (pl, .lst (P ++ [w])) :: N ∧ Tup B' w [c, .int a t1, nm] ∧ Tup B' c [x, c'] ∧ Tup B' c' [r, rest] ∧ Tup B' r [.str "end round" tr, .ref p, .int a t1] ∧ Tup B' v [rest, .int a t1, nm]
theorem s_advanced_arbno {t t1 : Tok} {a : Int} {x rest nm host : Value} {ch p pl : Addr} {sx : Str} {ts : Tok} {P : List Value} (K : KB w B) (rm : Rm A 2) (hc : B ch = some (.tup [.ref p, rest])) (hp : B p = some (.tup [.str "arbno" t, x])) (hn : handedIn nm = true) (hl : P.length ≤ 1000000) :
  Wc w A (.call (.ref 621) ⟨[.ref ch, .int a t1, nm, .str sx ts, .ref pl, host], []⟩) (R_advanced_arbno w B N t1 a x rest nm p pl P) B ((pl, .lst P) :: N) := by
 refine c_advanced K rm ?_
 intro L env A' ev rm' hg
 refine W_cons ?_
 k_extra "go"
 k_extra "tf"
 k_extra "go"
 exact W_code (s_led_in_arbno K rm' hp hn hl) fun v B' N' _ q => q
end
end
section
section
variable {w : World} {A : Around} {B : Bm} {N : Nm} {d : Nat}
theorem s_steered_fail {t t1 : Tok} {a : Int} {rest nm : Value} {ch p pl : Addr} (K : KB w B) (rm : Rm A 1) (hc : B ch = some (.tup [.ref p, rest])) (hp : B p = some (.tup [.str "fail" t])) :
  Wc w A (.call (.ref 642) ⟨[.ref ch, .int a t1, nm, .ref pl], []⟩) (fun v B' N' => leB B B' ∧ N = N' ∧ v = .none) B N := by
 refine c_steered K rm ?_
 intro L env A' ev rm' hg
 refine W_cons ?_
 k_extra "as2"
 k_extra "go"
 k_extra "tf"
 k_extra "go"
 k_extra "tf"
 k_extra "go"
 exact ⟨fun _ _ h => h, rfl, rfl⟩
theorem s_advanced_fail {t t1 : Tok} {a : Int} {rest nm host : Value} {ch p pl : Addr} {sx : Str} {ts : Tok} (K : KB w B) (rm : Rm A 2) (hc : B ch = some (.tup [.ref p, rest])) (hp : B p = some (.tup [.str "fail" t])) (hn : handedIn nm = true) :
  Wc w A (.call (.ref 621) ⟨[.ref ch, .int a t1, nm, .str sx ts, .ref pl, host], []⟩) (fun v B' N' => leB B B' ∧ N = N' ∧ v = .none) B N := by
 refine c_advanced K rm ?_
 intro L env A' ev rm' hg
 refine W_cons ?_
 k_extra "go"
 k_extra "tf"
 k_extra "go"
 k_extra "tf"
 k_extra "go"
 k_extra "tf"
 k_extra "go"
 k_extra "tf"
 k_extra "go"
 k_extra "tf"
 k_extra "go"
 exact W_code (s_steered_fail K rm' hc hp) fun v B' N' _ q => q
noncomputable abbrev R_advanced_cursor (B : Bm) (N : Nm) (t1 : Tok) (tk : Tok) (a : Int) (rest : Value) (nm : Value) (hd : Addr) (vd : Addr) (lg : Addr) (rf : Addr) (lim : Value) (wid : Value) (st : Value) (k : Nat) (ls : List Value) (key : Str) : Value → Bm → Nm → Prop := fun v B' N' => leB B B' ∧ ∃ e, B' e = some (.tup [.str key tk, .int a t1]) ∧ N' = HB hd vd lg lim (.ref rf) wid st (k + 1) (ls ++ [.ref e]) N ∧ Tup B' v [rest, .int a t1, nm]
theorem s_advanced_cursor {t t1 tk : Tok} {a : Int} {rest nm : Value} {ch p pl h hd vd lg rf r rd : Addr} {lim wid st kd ow : Value} {k : Nat} {ls : List Value} {key sx : Str} {ts : Tok} (K : KB w B) (rm : Rm A 2) (hc : B ch = some (.tup [.ref p, rest])) (hp : B p = some (.tup [.str "cursor" t, .ref r])) (hn : handedIn nm = true)
  (hi : B h = some (.inst 589 hd)) (hrf : B rf = some (.lst [])) (hr : B r = some (.inst 208 rd)) (hrd : B rd = some (.att rNs [some kd, some ow, some (.str key tk)])) (hk : k ≤ 100000) (hl : ls.length ≤ 100000) :
  Wc w A (.call (.ref 621) ⟨[.ref ch, .int a t1, nm, .str sx ts, .ref pl, .ref h], []⟩) (R_advanced_cursor B N t1 tk a rest nm hd vd lg rf lim wid st k ls key) B (HB hd vd lg lim (.ref rf) wid st k ls N) := by
 refine c_advanced K rm ?_
 intro L env A' ev rm' hg
 refine W_cons ?_
 k_extra "go"
 k_extra "tf"
 k_extra "go"
 k_extra "tf"
 k_extra "go"
 k_extra "tf"
 k_extra "go"
 refine W_codeK (s_assign K (rm'.le (by decide)) hi hrf hr hrd hk hl) fun G1 up1 => ?_
 rintro v B' N' - ⟨rfl, le, e, he, rfl⟩
 refine up1 _ _ _ ?_
 have K := K.mono le
 k_extra "go"
 k_extra "tf"
 k_extra "go"
 refine ⟨by k_extra "sz", fun e1 B1 le1 he1 => ?_⟩
 exact ⟨fun b o h => le1 _ _ (le _ _ h), e, le1 _ _ he, rfl, ⟨_, rfl, he1⟩⟩
end
end
section
section
variable {w : World} {A : Around} {B : Bm} {N : Nm} {d : Nat}
noncomputable abbrev R_led_out_round (B : Bm) (N : Nm) (t1 : Tok) (a : Int) (b : Int) (told : Value) (rest : Value) (nm : Value) : Value → Bm → Nm → Prop := fun v B' N' => leB B B' ∧ N = N' ∧ (a = b → v = .none) ∧ (a ≠ b → ∃ c, Tup B' v [c, .int a t1, nm] ∧ Tup B' c [told, rest])
theorem s_led_out_round {t t1 t2 : Tok} {a b : Int} {told rest nm host : Value} {p pl : Addr} {sx : Str} {ts : Tok} (K : KB w B) (rm : Rm A 1) (hp : B p = some (.tup [.str "end round" t, told, .int b t2])) (hn : handedIn nm = true) :
  Wc w A (.call (.ref 635) ⟨[.ref p, rest, .int a t1, nm, .str sx ts, .ref pl, host], []⟩) (R_led_out_round B N t1 a b told rest nm) B N := by
 refine c_led_out K rm ?_
 intro L env A' ev rm' hg
 refine W_cons ?_
 k_extra "go"
 k_extra "tf"
 k_extra "go"
 k_extra "tf"
 k_extra "go"
 refine ite_b (fun h => ?_) fun h => ?_ <;> simp only [decide_eq_true_eq, decide_eq_false_iff_not] at h
 ·k_extra "go"
  exact ⟨fun _ _ h => h, rfl, fun _ => rfl, fun n => absurd h n⟩
 ·k_extra "go"
  refine ⟨by k_extra "sz", fun e1 B1 le1 he1 => ?_⟩
  k_extra "go"
  refine ⟨by k_extra "sz", fun e2 B2 le2 he2 => ?_⟩
  exact ⟨fun _ _ h => le2 _ _ (le1 _ _ h), rfl, fun n => absurd n h, fun _ => ⟨.ref e1, ⟨_, rfl, he2⟩, ⟨_, rfl, le2 _ _ he1⟩⟩⟩
noncomputable abbrev R_advanced_round (B : Bm) (N : Nm) (t1 : Tok) (a : Int) (b : Int) (told : Value) (rest : Value) (nm : Value) : Value → Bm → Nm → Prop := fun v B' N' => leB B B' ∧ N = N' ∧ (a = b → v = .none) ∧ (a ≠ b → ∃ c, Tup B' v [c, .int a t1, nm] ∧ Tup B' c [told, rest])
theorem s_advanced_round {t t1 t2 : Tok} {a b : Int} {told rest nm host : Value} {ch p pl : Addr} {sx : Str} {ts : Tok} (K : KB w B) (rm : Rm A 2) (hc : B ch = some (.tup [.ref p, rest])) (hp : B p = some (.tup [.str "end round" t, told, .int b t2])) (hn : handedIn nm = true) :
  Wc w A (.call (.ref 621) ⟨[.ref ch, .int a t1, nm, .str sx ts, .ref pl, host], []⟩) (R_advanced_round B N t1 a b told rest nm) B N := by
 refine c_advanced K rm ?_
 intro L env A' ev rm' hg
 refine W_cons ?_
 k_extra "go"
 k_extra "tf"
 k_extra "go"
 k_extra "tf"
 k_extra "go"
 exact W_code (s_led_out_round K rm' hp hn) fun v B' N' _ q => q
end
end
section
section
variable {w : World} {A : Around} {B : Bm} {N : Nm} {d : Nat}
theorem s_is_delayed {v : Value} {lf : Lf} (K : KB w B) (rm : Rm A 1) (hv : lf.told v) :
  Wc w A (.call (.ref 292) ⟨[v], []⟩) (fun v B' N' => v = .bool false ∧ B = B' ∧ N = N') B N := by
 refine c_is_delayed K rm ?_
 intro L env A' ev rm' hg
 refine W_cons ?_
 k_extra "go"
 cases lf with
 | arb => cases hv; k_extra "go"; exact ⟨rfl, rfl, rfl⟩
 | bal => cases hv; k_extra "go"; exact ⟨rfl, rfl, rfl⟩
 | rem => cases hv; k_extra "go"; exact ⟨rfl, rfl, rfl⟩
 | _ => obtain ⟨t, rfl⟩ := hv; k_extra "go"; exact ⟨rfl, rfl, rfl⟩
theorem s_settled {host : Value} {lf : Lf} {p : Addr} {vs : List Value} (K : KB w B) (rm : Rm A 2) (hp : B p = some (.tup vs)) (hv : LfN lf vs) (hs : lf.single = true) :
  Wc w A (.call (.ref 299) ⟨[.ref p, host], []⟩) (fun v B' N' => v = .ref p ∧ B = B' ∧ N = N') B N := by
 refine c_settled K rm ?_
 intro L env A' ev rm' hg
 refine W_cons ?_
 refine cutP fun G1 up1 => ?_
 obtain ⟨⟨tk, h1⟩, h2⟩ := hv
 refine up1 ?_
 k_extra "go"
 cases lf with
 | arb => cases hs
 | bal => cases hs
 | rem => k_extra "run"; exact ⟨rfl, rfl, rfl⟩
 | chars y => k_extra "run"; exact ⟨rfl, rfl, rfl⟩
 | _ =>
  obtain ⟨v, hv, ht⟩ := h2 (by intro z; cases z)
  k_extra "run"
  refine W_codeK (s_is_delayed K rm' ht) fun G2 up2 => ?_
  rintro v B' N' - ⟨rfl, rfl, rfl⟩
  refine up2 _ _ _ ?_
  k_extra "run"
  exact ⟨rfl, rfl, rfl⟩
end
end
section
section
variable {w : World} {A : Around} {B : Bm} {N : Nm} {d : Nat}
theorem kind_arb {lf : Lf} (h : lf.single = true) : (lf.kind == Str.ofString "arb") = false := by cases lf <;> first | rfl | cases h
theorem kind_bal {lf : Lf} (h : lf.single = true) : (lf.kind == Str.ofString "bal") = false := by cases lf <;> first | rfl | cases h
noncomputable def One (B : Bm) (o : Option Int) (rest nm v : Value) : Prop := match o with | none => v = .none | some e => ∃ t, Tup B v [rest, .int e t, nm]
theorem s_taken_one {x : Str} {t t1 : Tok} {a : Int} {lf : Lf} {p pl : Addr} {vs : List Value} {rest nm host : Value} (K : KB w B) (rm : Rm A 5) (hx : x.length ≤ 2) (h0 : 0 ≤ a) (hs : lf.single = true) (hf : lf.fits = true) (hp : B p = some (.tup vs)) (hv : LfN lf vs) (hn : handedIn nm = true) :
  Wc w A (.call (.ref 649) ⟨[.ref p, rest, .int a t1, nm, .str x t, .ref pl, host], []⟩) (fun v B' N' => leB B B' ∧ N = N' ∧ One B' (pEnd x a lf) rest nm v) B N := by
 refine c_taken K rm ?_
 intro L env A' ev rm' hg
 refine W_cons ?_
 have h1 := hv.1
 obtain ⟨tk, h1⟩ := h1
 k_extra "go"
 refine ite_f (kind_arb hs) ?_
 k_extra "go"
 refine ite_f (kind_bal hs) ?_
 k_extra "go"
 refine W_codeK (s_settled K (rm'.le (by decide)) hp hv hs) fun G1 up1 => ?_
 rintro v B' N' - ⟨rfl, rfl, rfl⟩
 refine up1 _ _ _ ?_
 k_extra "go"
 k_extra "tf"
 k_extra "go"
 refine W_codeK (s_plain_end K rm' hx h0 hs hf (Rd.b hp) hv) fun G2 up2 => ?_
 rintro v B' N' - ⟨ho, rfl, rfl⟩
 refine up2 _ _ _ ?_
 k_extra "go"
 unfold One
 cases q : pEnd x a lf with
 | none =>
  rw [q] at ho; cases ho
  k_extra "tf"
  k_extra "go"
  exact ⟨fun _ _ h => h, rfl, rfl⟩
 | some e =>
  rw [q] at ho; obtain ⟨te, rfl⟩ := ho
  k_extra "tf"
  k_extra "go"
  refine ⟨by k_extra "sz", fun e1 B1 le1 he1 => ?_⟩
  exact ⟨le1, rfl, te, _, rfl, he1⟩
noncomputable abbrev R_taken_arb (w : World) (B : Bm) (N : Nm) (x : Str) (t1 : Tok) (a : Int) (p : Addr) (pl : Addr) (rest : Value) (nm : Value) (P : List Value) : Value → Bm → Nm → Prop := fun v B' N' => leB B B' ∧ Tup B' v [rest, .int a t1, nm] ∧ if a < x.length then ∃ w c t2, N' = (pl, .lst (P ++ [w])) :: N ∧ Tup B' w [c, .int (a + 1) t2, nm] ∧ Tup B' c [.ref p, rest] else N' = (pl, .lst P) :: N
theorem s_taken_arb {x : Str} {t t1 tk : Tok} {a : Int} {p pl : Addr} {rest nm host : Value} {P : List Value} (K : KB w B) (rm : Rm A 1) (hx : x.length ≤ 2) (hp : B p = some (.tup [.str "arb" tk])) (hn : handedIn nm = true) (hl : P.length ≤ 1000000) :
  Wc w A (.call (.ref 649) ⟨[.ref p, rest, .int a t1, nm, .str x t, .ref pl, host], []⟩) (R_taken_arb w B N x t1 a p pl rest nm P) B ((pl, .lst P) :: N) := by
 refine c_taken K rm ?_
 intro L env A' ev rm' hg
 refine W_cons ?_
 k_extra "go"
 k_extra "tf"
 k_extra "go"
 refine W_lenStr ?_ fun u => ?_
 ·lia
 k_extra "go"
 refine ite_b (fun h => ?_) fun h => ?_ <;> simp only [decide_eq_true_eq, decide_eq_false_iff_not] at h
 ·k_extra "go"
  refine ⟨by k_extra "sz", fun e1 B1 le1 he1 => ?_⟩
  k_extra "go"
  refine ⟨by k_extra "sz", fun e2 B2 le2 he2 => ?_⟩
  k_extra "go"
  k_extra "append"
  ·k_extra "sz"
  refine ⟨fun _ z => (nomatch z), ?_⟩
  k_extra "go"
  refine ⟨by k_extra "sz", fun e3 B3 le3 he3 => ?_⟩
  exact ⟨fun b o h => le3 _ _ (le2 _ _ (le1 _ _ h)), ⟨_, rfl, he3⟩, by
   rw [if_pos h]
   exact ⟨.ref e2, .ref e1, _, rfl, ⟨_, rfl, le3 _ _ he2⟩, ⟨_, rfl, le3 _ _ (le2 _ _ he1)⟩⟩⟩
 ·k_extra "go"
  refine ⟨by k_extra "sz", fun e3 B3 le3 he3 => ?_⟩
  exact ⟨le3, ⟨_, rfl, he3⟩, by rw [if_neg h]⟩
theorem kind_1 (lf : Lf) : ([Str.ofString "cat", Str.ofString "alt", Str.ofString "arbno", Str.ofString "later", Str.ofString "now"].any fun x => x == lf.kind) = false := by cases lf <;> kernel_rfl
theorem kind_2 (lf : Lf) : (Txt.slice lf.kind none (some 4) == Str.ofString "end ") = false := by cases lf <;> kernel_rfl
theorem kind_3 (lf : Lf) : (lf.kind == Str.ofString "cursor") = false := by cases lf <;> kernel_rfl
theorem kind_4 (lf : Lf) : (lf.kind == Str.ofString "delay") = false := by cases lf <;> kernel_rfl
theorem kind_5 (lf : Lf) : ([Str.ofString "fence", Str.ofString "abort", Str.ofString "fail", Str.ofString "succeed"].any fun x => x == lf.kind) = false := by cases lf <;> kernel_rfl
theorem kind_len (lf : Lf) : lf.kind.length ≤ 5 := by cases lf <;> exact Nat.le_of_ble_eq_true (by kernel_rfl)
theorem s_advanced_leaf {S : Value → Bm → Nm → Prop} {t t1 tk : Tok} {a : Int} {lf : Lf} {rest nm host : Value} {ch p pl : Addr} {vs : List Value} {sx : Str} {ts : Tok} (K : KB w B) (rm : Rm A 6) (hc : B ch = some (.tup [.ref p, rest])) (hp : B p = some (.tup vs)) (hv : vs[0]? = some (.str lf.kind tk)) (hn : handedIn nm = true)
  (h : ∀ A', Rm A' 5 → Wc w A' (.call (.ref 649) ⟨[.ref p, rest, .int a t1, nm, .str sx ts, .ref pl, host], []⟩) S B N) :
  Wc w A (.call (.ref 621) ⟨[.ref ch, .int a t1, nm, .str sx ts, .ref pl, host], []⟩) S B N := by
 refine c_advanced K rm ?_
 intro L env A' ev rm' hg
 refine W_cons ?_
 k_extra "go"
 refine ite_f (kind_1 lf) ?_
 k_extra "go"
 refine SlS.mk .none (.int _ _) ?_ fun _ => ?_
 ·have := kind_len lf; k_extra "sz"
 k_extra "go"
 refine ite_f (kind_2 lf) ?_
 k_extra "go"
 refine ite_f (kind_3 lf) ?_
 k_extra "go"
 refine ite_f (kind_4 lf) ?_
 k_extra "go"
 refine ite_f (kind_5 lf) ?_
 k_extra "go"
 exact W_code (h A' rm') fun v B' N' _ q => q
end
end
section
theorem pick_rev : ∀ xs : List Value, xs.length ≤ 3 → (slicePick xs.toArray none (some 0) (some (-1))).toList = xs.tail.reverse
 | [], _ => by kernel_rfl
 | [a], _ => by kernel_rfl
 | [a, b], _ => by kernel_rfl
 | [a, b, c], _ => by kernel_rfl
 | _ :: _ :: _ :: _ :: _, h => by simp at h
noncomputable def Ways (B : Bm) (rest nm : Value) : List Int → List Value → Prop
 | [], vs => vs = []
 | i :: is, vs => ∃ w t vs', vs = w :: vs' ∧ Tup B w [rest, .int i t, nm] ∧ Ways B rest nm is vs'
theorem ints_get {is : List Int} {vs : List Value} (h : Ints is vs) (j : Nat) : (∀ i, is[j]? = some i → ∃ t, vs[j]? = some (.int i t)) ∧ (is[j]? = none → vs[j]? = none) := by
 induction is generalizing vs j with
 | nil => cases h; exact ⟨fun i e => by simp at e, fun _ => by simp⟩
 | cons k is ih =>
  refine cutP fun G1 up1 => ?_
  obtain ⟨t, vs', rfl, h⟩ := h
  refine up1 ?_
  cases j with
  | zero => exact ⟨fun i e => by simp at e; subst e; exact ⟨t, rfl⟩, fun e => by simp at e⟩
  | succ j => simpa using ih h j
theorem ints_app {is js : List Int} {vs us : List Value} (h : Ints is vs) (g : Ints js us) : Ints (is ++ js) (vs ++ us) := by
 induction is generalizing vs with
 | nil => cases h; exact g
 | cons k is ih => obtain ⟨t, vs', rfl, h⟩ := h; exact ⟨t, _, rfl, ih h⟩
theorem ints_rev {is : List Int} {vs : List Value} (h : Ints is vs) : Ints is.reverse vs.reverse := by
 induction is generalizing vs with
 | nil => cases h; rfl
 | cons k is ih =>
  refine cutP fun G2 up2 => ?_
  obtain ⟨t, vs', rfl, h⟩ := h
  refine up2 ?_
  rw [List.reverse_cons, List.reverse_cons]
  exact ints_app (ih h) ⟨t, [], rfl, rfl⟩
theorem Ways.mono {B B' : Bm} {rest nm : Value} (le : ∀ a o, B a = some o → B' a = some o) : ∀ {is : List Int} {ws : List Value}, Ways B rest nm is ws → Ways B' rest nm is ws
 | [], _, h => h
 | i :: is, _, ⟨w, t, vs', e, h, r⟩ => ⟨w, t, vs', e, h.mono le, Ways.mono le r⟩
theorem Ways.snoc {B : Bm} {rest nm : Value} {i : Int} {w : Value} {t : Tok} (hw : Tup B w [rest, .int i t, nm]) : ∀ {is : List Int} {ws : List Value}, Ways B rest nm is ws → Ways B rest nm (is ++ [i]) (ws ++ [w])
 | [], _, h => by cases h; exact ⟨w, t, [], rfl, hw, rfl⟩
 | j :: is, _, ⟨w', t', vs', e, h, r⟩ => by subst e; exact ⟨w', t', _, rfl, h, Ways.snoc hw r⟩
theorem Ways.len {B : Bm} {rest nm : Value} : ∀ {is : List Int} {ws : List Value}, Ways B rest nm is ws → ws.length = is.length
 | [], _, h => by cases h; rfl
 | j :: is, _, ⟨w', t', vs', e, h, r⟩ => by subst e; simp [Ways.len r]
section
variable {w : World} {A : Around} {B : Bm} {N : Nm} {d : Nat}
theorem s_taken_bal {x : Str} {t t1 tk : Tok} {a : Int} {p pl : Addr} {rest nm host : Value} {P : List Value} (K : KB w B) (rm : Rm A 3) (hx : x.length ≤ 2) (h0 : 0 ≤ a) (hp : B p = some (.tup [.str "bal" tk])) (hn : handedIn nm = true) (hl : P.length ≤ 1000000) :
  Wc w A (.call (.ref 649) ⟨[.ref p, rest, .int a t1, nm, .str x t, .ref pl, host], []⟩) (fun v B' N' => leB B B' ∧ match balEs x 3 a with
   | [] => v = .none ∧ N' = (pl, .lst P) :: N
   | e :: es => ∃ ws te, N' = (pl, .lst (P ++ ws)) :: N ∧ Ways B' rest nm es.reverse ws ∧ Tup B' v [rest, .int e te, nm]) B ((pl, .lst P) :: N) := by
 refine Wc_drop ?_
 refine c_taken K rm ?_
 intro L env A' ev rm' hg
 refine W_cons ?_
 k_extra "go"
 k_extra "tf"
 k_extra "go"
 k_extra "tf"
 k_extra "go"
 refine W_codeK (s_bal_ends K rm' hx h0) fun G3 up3 => ?_
 rintro v B' N' - ⟨l, xs, rfl, hi, rfl, rfl⟩
 refine up3 _ _ _ ?_
 have hxl : xs.length ≤ 3 := by rw [ints_len hi]; exact balEs_len x 3 a
 k_extra "1"
 k_extra "1"
 k_extra "1"
 refine W_Sub ?_
 k_extra "go"
 intro sl
 refine W_sliceLst (Rd.n (by k_extra "mem")) (Rd.n (by k_extra "mem")) .none (.int _ _) (.int _ _) (by decide) (by k_extra "sz") (by with_unfolding_all rfl) fun b => ?_
 rw [show ((-1 : Int)) = -1 from rfl, pick_rev xs hxl]
 refine W_iterLst (Rd.n (by k_extra "mem")) fun it => ?_
 refine WL_less (N' := (it, .itr (.lst b xs.tail.reverse) 0) :: (b, .lst xs.tail.reverse) :: (l, .lst xs) :: (pl, .lst (P ++ [])) :: N) (by rw [List.append_nil]; k_extra "sls") ?_
 generalize hb : balEs x 3 a = es at hi ⊢
 have hi2 : Ints es.tail.reverse xs.tail.reverse := ints_rev (by
  cases es with
  | nil => cases hi; rfl
  | cons e es => obtain ⟨t, vs', rfl, h⟩ := hi; exact h)
 generalize hys : xs.tail.reverse = ys at hi2 ⊢
 generalize hes : es.tail.reverse = fs at hi2
 refine WL_rec (fun (s : (Bm × List Value) × Nat × Option Value) => s.1.1) (fun s => [some (.ref p), some rest, some (.int a t1), some nm, some (.str x t), some (.ref pl), some host, some (.str "bal" tk), some (.ref l), s.2.2, none])
  (fun s => (it, .itr (.lst b ys) s.2.1) :: (b, .lst ys) :: (l, .lst xs) :: (pl, .lst (P ++ s.1.2)) :: N) (fun s => fs.length + 1 - s.2.1)
  (fun s => (∀ c o, B c = some o → s.1.1 c = some o) ∧ s.2.1 ≤ fs.length ∧ Ways s.1.1 rest nm (fs.take s.2.1) s.1.2) ?_ ((B, []), 0, none) ⟨fun _ _ h => h, Nat.zero_le _, rfl⟩
 intro ⟨⟨B2, ws⟩, i, ve⟩ ⟨le, hi', hw⟩ ih
 dsimp only at le hi' hw ih ⊢
 have K := K.mono le
 have hfl : fs.length ≤ 3 := by
  have := balEs_len x 3 a
  rw [hb] at this
  rw [← hes, List.length_reverse, List.length_tail]; lia
 have hwl : ws.length ≤ 3 := by
  rw [hw.len, List.length_take]; lia
 refine WL_for ?_
 cases q : fs[i]? with
 | none =>
  refine W_nextEnd (k := .lst b ys) (i := i) rm'.2.2 Dl.here (show Rd _ _ b (.lst ys) from Rd.n (by k_extra "mem")) (by simp [Itk.item, (ints_get hi2 i).2 q]) ?_
  k_extra "go"
  have hfi : i = fs.length := by
   rcases Nat.lt_or_ge i fs.length with h | h
   ·rw [List.getElem?_eq_getElem h] at q; cases q
   ·lia
  have hw' : Ways B2 rest nm fs ws := by rw [hfi, List.take_length] at hw; exact hw
  refine W_lenLst (Rd.n (by k_extra "mem")) (by lia) fun u => ?_
  k_extra "go"
  cases es with
  | nil =>
   cases hi
   k_extra "tf"
   k_extra "go"
   have : fs = [] := by rw [← hes]; rfl
   subst this
   cases hw'
   exact ⟨(pl, .lst P) :: N, by rw [List.append_nil]; k_extra "sls", le, rfl, rfl⟩
  | cons e es =>
   refine cutP fun G4 up4 => ?_
   obtain ⟨te, vs', rfl, h⟩ := hi
   refine up4 ?_
   refine ite_t (by simp) ?_
   k_extra "go"
   refine ⟨by k_extra "sz", fun e1 B3 le3 he3 => ?_⟩
   exact ⟨(pl, .lst (P ++ ws)) :: N, by k_extra "sls", fun c o h => le3 _ _ (le _ _ h), ws, te, rfl, by rw [show es.reverse = fs from hes]; exact hw'.mono le3, ⟨_, rfl, he3⟩⟩
 | some e =>
  obtain ⟨te, hy⟩ := (ints_get hi2 i).1 e q
  refine W_nextItem (k := .lst b ys) (i := i) (f := fun _ => .int e te) Up.here (show Rd _ _ b (.lst ys) from Rd.n (by k_extra "mem")) (by simp [Itk.item, hy]) fun _ => ?_
  k_extra "go"
  refine ⟨by k_extra "sz", fun e1 B3 le3 he3 => ?_⟩
  have K := K.mono le3
  k_extra "go"
  k_extra "append"
  ·rw [sizeLine_eq, List.length_append]; lia
  refine ⟨fun _ z => (nomatch z), ?_⟩
  k_extra "go"
  rw [List.append_assoc]
  have hlt : i < fs.length := (List.getElem?_eq_some_iff.mp q).1
  refine ih ((B3, ws ++ [.ref e1]), i + 1, some (.int e te)) (by dsimp only; lia) ⟨fun c o h => le3 _ _ (le _ _ h), hlt, ?_⟩
  have e2 : fs.take (i + 1) = fs.take i ++ [e] := by rw [List.take_succ, q]; rfl
  dsimp only
  rw [e2]
  exact Ways.snoc ⟨_, rfl, he3⟩ (hw.mono le3)
end
end
section
inductive Tr where
 | leaf (n : Str) (lf : Lf)
 | cat (n : Str) (l r : Tr)
 | alt (n : Str) (l r : Tr)
 | arb (n : Str) (t : Tr)
noncomputable def Tr.num : Tr → Str | .leaf n _ => n | .cat n _ _ => n | .alt n _ _ => n | .arb n _ => n
noncomputable def Tr.all (P : Lf → Prop) : Tr → Prop | .leaf _ lf => P lf | .cat _ l r => l.all P ∧ r.all P | .alt _ l r => l.all P ∧ r.all P | .arb _ t => t.all P
noncomputable abbrev Evt := Str × Int
structure Okl (x : Str) (lf : Lf) : Prop where
 fits : lf.fits = true
 ends : ∀ a : Int, 0 ≤ a → a ≤ x.length → ∀ e ∈ pEnds x a lf, a ≤ e ∧ e ≤ x.length
noncomputable def rndE (F : (Int → List Evt) → Int → List Evt) (k : Int → List Evt) : Nat → Int → List Evt
 | 0, _ => []
 | m + 1, a => k a ++ F (fun e => if e = a then [] else rndE F k m e) a
theorem rndE.k2 {F : (Int → List Evt) → Int → List Evt} {k : Int → List Evt} {m a} : rndE F k (m + 1) a = k a ++ F (fun e => if e = a then [] else rndE F k m e) a := rfl
noncomputable def ET (x : Str) : Tr → (Int → List Evt) → Int → List Evt
 | .leaf n lf, k, a => (pEnds x a lf).flatMap fun e => (n, e) :: k e
 | .cat n l r, k, a => ET x l (ET x r fun e => (n, e) :: k e) a
 | .alt n l r, k, a => ET x l (fun e => (n, e) :: k e) a ++ ET x r (fun e => (n, e) :: k e) a
 | .arb n t, k, a => rndE (ET x t) (fun e => (n, e) :: k e) 3 a
theorem ET.k1 {x : Str} {n lf k a} : ET x (.leaf n lf) k a = (pEnds x a lf).flatMap fun e => (n, e) :: k e := rfl
theorem ET.k2 {x : Str} {n l r k a} : ET x (.cat n l r) k a = ET x l (ET x r fun e => (n, e) :: k e) a := rfl
theorem ET.k3 {x : Str} {n l r k a} : ET x (.alt n l r) k a = ET x l (fun e => (n, e) :: k e) a ++ ET x r (fun e => (n, e) :: k e) a := rfl
theorem ET.k4 {x : Str} {n t k a} : ET x (.arb n t) k a = rndE (ET x t) (fun e => (n, e) :: k e) 3 a := rfl
noncomputable def sumN (f : Int → Nat) : List Int → Nat
 | [] => 0
 | e :: es => f e + sumN f es
theorem sumN.k1 {f : Int → Nat} : sumN f [] = 0 := rfl
theorem sumN.k2 {f : Int → Nat} {e es} : sumN f (e :: es) = f e + sumN f es := rfl
noncomputable def rndC (F : (Int → Nat) → Int → Nat) (k : Int → Nat) : Nat → Int → Nat
 | 0, _ => 0
 | m + 1, a => 1 + (k a + F (fun e => 1 + (if e = a then 0 else rndC F k m e)) a)
theorem rndC.k2 {F : (Int → Nat) → Int → Nat} {k : Int → Nat} {m a} : rndC F k (m + 1) a = 1 + (k a + F (fun e => 1 + (if e = a then 0 else rndC F k m e)) a) := rfl
noncomputable def lfC (x : Str) (k : Int → Nat) (a : Int) : Lf → Nat
 | .arb => sumN (fun e => 1 + k e) (pEnds x a .arb)
 | lf => 1 + sumN k (pEnds x a lf)
noncomputable def CT (x : Str) : Tr → (Int → Nat) → Int → Nat
 | .leaf n lf, k, a => 1 + lfC x (fun e => 1 + k e) a lf
 | .cat n l r, k, a => 2 + CT x l (CT x r fun e => 1 + k e) a
 | .alt n l r, k, a => 2 + (CT x l (fun e => 1 + k e) a + CT x r (fun e => 1 + k e) a)
 | .arb n t, k, a => 1 + rndC (CT x t) (fun e => 1 + k e) 3 a
theorem CT.k1 {x : Str} {n lf k a} : CT x (.leaf n lf) k a = 1 + lfC x (fun e => 1 + k e) a lf := rfl
theorem CT.k2 {x : Str} {n l r k a} : CT x (.cat n l r) k a = 2 + CT x l (CT x r fun e => 1 + k e) a := rfl
theorem CT.k3 {x : Str} {n l r k a} : CT x (.alt n l r) k a = 2 + (CT x l (fun e => 1 + k e) a + CT x r (fun e => 1 + k e) a) := rfl
theorem CT.k4 {x : Str} {n t k a} : CT x (.arb n t) k a = 1 + rndC (CT x t) (fun e => 1 + k e) 3 a := rfl
noncomputable def IsRf (B : Bm) (n : Str) (r : Addr) : Prop := ∃ rd kd ow tk, B r = some (.inst 208 rd) ∧ B rd = some (.att rNs [some kd, some ow, some (.str n tk)])
noncomputable def IsCur (B : Bm) (n : Str) (v : Value) : Prop := ∃ r t, IsRf B n r ∧ Tup B v [.str "cursor" t, .ref r]
noncomputable def IsLf (B : Bm) (lf : Lf) (v : Value) : Prop := match lf with
 | .arb => ∃ t, Tup B v [.str "arb" t]
 | .bal => ∃ t, Tup B v [.str "bal" t]
 | .rem => ∃ t, Tup B v [.str "rem" t]
 | lf => ∃ t u, lf.told u ∧ Tup B v [.str lf.kind t, u]
noncomputable def IsNode (B : Bm) : Tr → Value → Prop
 | .leaf n lf, v => ∃ t i c, Tup B v [.str "cat" t, i, c] ∧ IsCur B n c ∧ IsLf B lf i
 | .cat n l r, v => ∃ t i c, Tup B v [.str "cat" t, i, c] ∧ IsCur B n c ∧ ∃ t' y z, Tup B i [.str "cat" t', y, z] ∧ IsNode B l y ∧ IsNode B r z
 | .alt n l r, v => ∃ t i c, Tup B v [.str "cat" t, i, c] ∧ IsCur B n c ∧ ∃ t' y z, Tup B i [.str "alt" t', y, z] ∧ IsNode B l y ∧ IsNode B r z
 | .arb n u, v => ∃ t i c, Tup B v [.str "cat" t, i, c] ∧ IsCur B n c ∧ ∃ t' y, Tup B i [.str "arbno" t', y] ∧ IsNode B u y
theorem IsRf.mono {B B' : Bm} {n : Str} {r : Addr} (h : IsRf B n r) (le : leB B B') : IsRf B' n r := let ⟨rd, kd, ow, tk, h1, h2⟩ := h; ⟨rd, kd, ow, tk, le _ _ h1, le _ _ h2⟩
theorem IsCur.mono {B B' : Bm} {n : Str} {v : Value} (h : IsCur B n v) (le : leB B B') : IsCur B' n v := let ⟨r, t, h1, h2⟩ := h; ⟨r, t, h1.mono le, h2.mono le⟩
theorem IsLf.mono {B B' : Bm} {lf : Lf} {v : Value} (h : IsLf B lf v) (le : leB B B') : IsLf B' lf v := by
 cases lf <;> first | exact (let ⟨t, h⟩ := h; ⟨t, h.mono le⟩) | exact (let ⟨t, u, h1, h⟩ := h; ⟨t, u, h1, h.mono le⟩)
theorem IsNode.mono {B B' : Bm} (le : leB B B') {T : Tr} {v : Value} (h : IsNode B T v) : IsNode B' T v := by
 revert v
 induction T with
 | leaf n lf => intro v h; refine cutP fun G up => ?_; obtain ⟨t, i, c, h1, h2, h3⟩ := h; exact up ⟨t, i, c, h1.mono le, h2.mono le, h3.mono le⟩
 | cat n l r il ir => intro v h; refine cutP fun G up => ?_; obtain ⟨t, i, c, h1, h2, t', y, z, h3, h4, h5⟩ := h; exact up ⟨t, i, c, h1.mono le, h2.mono le, t', y, z, h3.mono le, il h4, ir h5⟩
 | alt n l r il ir => intro v h; refine cutP fun G up => ?_; obtain ⟨t, i, c, h1, h2, t', y, z, h3, h4, h5⟩ := h; exact up ⟨t, i, c, h1.mono le, h2.mono le, t', y, z, h3.mono le, il h4, ir h5⟩
 | arb n u iu => intro v h; refine cutP fun G up => ?_; obtain ⟨t, i, c, h1, h2, t', y, h3, h4⟩ := h; exact up ⟨t, i, c, h1.mono le, h2.mono le, t', y, h3.mono le, iu h4⟩
theorem leB.refl (B : Bm) : leB B B := fun _ _ h => h
theorem leB.trans {B B' B'' : Bm} (h : leB B B') (h' : leB B' B'') : leB B B'' := fun a o e => h' a o (h a o e)
structure TrSys (x : Str) (nm : Value) (Pop : Bm → List Value → List Evt → Nat → Prop) (Run : Bm → Value → Int → List Value → List Evt → Nat → Prop) : Prop where
 mono : ∀ {B} {B'} {P} {es} {s : Nat}, leB B B' → Pop B P es s → Pop B' P es s
 pop : ∀ {B} {w} {c} {a : Int} {t} {P} {es} {s : Nat}, Tup B w [c, .int a t, nm] → Run B c a P es s → Pop B (P ++ [w]) es s
 cat : ∀ {B} {ch} {p} {rest} {t} {y} {z} {a : Int} {P} {es} {s : Nat}, s < 99999 → Tup B ch [p, rest] → Tup B p [.str "cat" t, y, z] → (∀ B' c r, leB B B' → Tup B' c [y, r] → Tup B' r [z, rest] → Run B' c a P es (s + 1)) → Run B ch a P es s
 alt : ∀ {B} {ch} {p} {rest} {t} {y} {z} {a : Int} {P} {es} {s : Nat}, s < 99999 → Tup B ch [p, rest] → Tup B p [.str "alt" t, y, z] → (∀ B' w c c' t', leB B B' → Tup B' w [c, .int a t', nm] → Tup B' c [z, rest] → Tup B' c' [y, rest] → Run B' c' a (P ++ [w]) es (s + 1)) → Run B ch a P es s
 arbno : ∀ {B} {ch} {p} {rest} {t} {y} {a : Int} {P} {es} {s : Nat}, s < 99999 → Tup B ch [p, rest] → Tup B p [.str "arbno" t, y] → (∀ B' w c c' r t' t'' tr, leB B B' → Tup B' w [c, .int a t', nm] → Tup B' c [y, c'] → Tup B' c' [r, rest] → Tup B' r [.str "end round" tr, p, .int a t''] → Run B' rest a (P ++ [w]) es (s + 1)) → Run B ch a P es s
 fail : ∀ {B} {ch} {p} {rest} {t} {a : Int} {P} {es} {s : Nat}, s < 99999 → Tup B ch [p, rest] → Tup B p [.str "fail" t] → Pop B P es (s + 1) → Run B ch a P es s
 cur : ∀ {B} {ch} {p} {rest} {n} {a : Int} {P} {es} {s : Nat}, s < 99999 → Tup B ch [p, rest] → IsCur B n p → (∀ B', leB B B' → Run B' rest a P (es ++ [(n, a)]) (s + 1)) → Run B ch a P es s
 rnd : ∀ {B} {ch} {p} {rest} {t} {told} {b : Int} {t'} {a : Int} {P} {es} {s : Nat}, s < 99999 → Tup B ch [p, rest] → Tup B p [.str "end round" t, told, .int b t'] → (a = b → Pop B P es (s + 1)) → (a ≠ b → ∀ B' c, leB B B' → Tup B' c [told, rest] → Run B' c a P es (s + 1)) → Run B ch a P es s
 one : ∀ {B} {ch} {p} {rest} {lf} {a : Int} {P} {es} {s : Nat}, s < 99999 → 0 ≤ a → Tup B ch [p, rest] → IsLf B lf p → lf.single = true → lf.fits = true → (pEnd x a lf = none → Pop B P es (s + 1)) → (∀ e, pEnd x a lf = some e → ∀ B', leB B B' → Run B' rest e P es (s + 1)) → Run B ch a P es s
 arb : ∀ {B} {ch} {p} {rest} {a : Int} {P} {es} {s : Nat}, s < 99999 → 0 ≤ a → Tup B ch [p, rest] → IsLf B .arb p → (a < x.length → ∀ B' w c t, leB B B' → Tup B' w [c, .int (a + 1) t, nm] → Tup B' c [p, rest] → Run B' rest a (P ++ [w]) es (s + 1)) → (¬ a < x.length → ∀ B', leB B B' → Run B' rest a P es (s + 1)) → Run B ch a P es s
 bal : ∀ {B} {ch} {p} {rest} {a : Int} {P} {es} {s : Nat}, s < 99999 → 0 ≤ a → Tup B ch [p, rest] → IsLf B .bal p → (balEs x 3 a = [] → Pop B P es (s + 1)) → (∀ e es', balEs x 3 a = e :: es' → ∀ B' ws, leB B B' → Ways B' rest nm es'.reverse ws → Run B' rest e (P ++ ws) es (s + 1)) → Run B ch a P es s
theorem ends_arb {x : Str} {a : Int} (h : a ≤ x.length) : pEnds x a .arb = a :: pEnds x (a + 1) .arb := by
 unfold pEnds
 rw [show ((x.length : Int) + 1 - a).toNat = ((x.length : Int) + 1 - (a + 1)).toNat + 1 by lia, List.range_succ_eq_map, List.map_cons, List.map_map]
 refine congr (congrArg List.cons (by lia)) ?_
 ·exact List.map_congr_left fun i _ => by simp only [Function.comp]; lia
theorem ends_arb0 {x : Str} {a : Int} (h : (x.length : Int) < a) : pEnds x a .arb = [] := by
 unfold pEnds
 rw [show ((x.length : Int) + 1 - a).toNat = 0 by lia]; rfl
section
variable {x : Str} {nm : Value} {Pop : Bm → List Value → List Evt → Nat → Prop} {Run : Bm → Value → Int → List Value → List Evt → Nat → Prop}
noncomputable def Beh (x : Str) (Pop : Bm → List Value → List Evt → Nat → Prop) (Run : Bm → Value → Int → List Value → List Evt → Nat → Prop) (B : Bm) (rest : Value) (a : Int) (k : Int → List Evt) (kc : Int → Nat) : Prop :=
 ∀ e B' P es s, a ≤ e → e ≤ x.length → leB B B' → s + kc e ≤ 99999 → Pop B' P (es ++ k e) (s + kc e) → Run B' rest e P es s
theorem Beh.later {B B' : Bm} {rest : Value} {a b : Int} {k : Int → List Evt} {kc : Int → Nat} (h : Beh x Pop Run B rest a k kc) (le : leB B B') (hab : a ≤ b) : Beh x Pop Run B' rest b k kc :=
 fun e B'' P es s h1 h2 le' => h e B'' P es s (Int.le_trans hab h1) h2 (le.trans le')
theorem Beh.cur (S : TrSys x nm Pop Run) {B : Bm} {rest r c : Value} {a : Int} {n : Str} {k : Int → List Evt} {kc : Int → Nat} (h : Beh x Pop Run B rest a k kc) (hr : Tup B r [c, rest]) (hc : IsCur B n c) :
  Beh x Pop Run B r a (fun e => (n, e) :: k e) (fun e => 1 + kc e) := fun e B' P es s h1 h2 le hs hp => by
 dsimp only at hs hp
 refine S.cur (by lia) (hr.mono le) (hc.mono le) fun B'' le' => h e B'' P _ _ h1 h2 (le.trans le') (by lia) ?_
 rw [List.append_assoc]
 rw [show s + 1 + kc e = s + (1 + kc e) by lia]
 exact S.mono le' hp
theorem ways_pop (S : TrSys x nm Pop Run) {B0 : Bm} {rest : Value} {a : Int} {k : Int → List Evt} {kc : Int → Nat} (h : Beh x Pop Run B0 rest a k kc) :
  ∀ (is : List Int) (B : Bm) (ws : List Value) (P : List Value) (es : List Evt) (s : Nat), leB B0 B → (∀ e ∈ is, a ≤ e ∧ e ≤ x.length) → Ways B rest nm is ws → s + sumN kc is.reverse ≤ 99999 → Pop B P (es ++ is.reverse.flatMap k) (s + sumN kc is.reverse) → Pop B (P ++ ws) es s := by
 intro is
 suffices H : ∀ (js : List Int) (B : Bm) (ws : List Value) (P : List Value) (es : List Evt) (s : Nat), leB B0 B → (∀ e ∈ js, a ≤ e ∧ e ≤ x.length) → Ways B rest nm js.reverse ws → s + sumN kc js ≤ 99999 → Pop B P (es ++ js.flatMap k) (s + sumN kc js) → Pop B (P ++ ws) es s by
  intro B ws P es s le hi hw hs hp
  exact H is.reverse B ws P es s le (fun e he => hi e (List.mem_reverse.mp he)) (by rw [List.reverse_reverse]; exact hw) hs hp
 intro js
 induction js with
 | nil =>
  intro B ws P es s le hi hw hs hp
  cases hw
  simpa [sumN.k1, sumN.k2] using hp
 | cons e js ih =>
  intro B ws P es s le hi hw hs hp
  rw [List.reverse_cons] at hw
  have sp : ∀ (l : List Int) (ws : List Value), Ways B rest nm (l ++ [e]) ws → ∃ ws' w t, ws = ws' ++ [w] ∧ Ways B rest nm l ws' ∧ Tup B w [rest, .int e t, nm] := by
   intro l
   induction l with
   | nil => rintro ws ⟨w, t, vs', rfl, h, rfl⟩; exact ⟨[], w, t, rfl, rfl, h⟩
   | cons i l ih =>
    rintro ws ⟨w, t, vs', rfl, h, hr⟩
    refine cutP fun G1 up1 => ?_
    obtain ⟨ws', w', t', rfl, h1, h2⟩ := ih _ hr
    refine up1 ?_
    exact ⟨w :: ws', w', t', rfl, ⟨w, t, ws', rfl, h, h1⟩, h2⟩
  refine cutP fun G2 up2 => ?_
  obtain ⟨ws', w, t, rfl, h1, h2⟩ := sp _ _ hw
  refine up2 ?_
  rw [← List.append_assoc]
  simp only [sumN.k2] at hs hp
  refine S.pop h2 (h e B _ es s (hi e (.head _)).1 (hi e (.head _)).2 le (by lia) ?_)
  refine ih B ws' P _ _ le (fun e he => hi e (.tail _ he)) h1 (by lia) ?_
  rw [List.append_assoc, Nat.add_assoc]
  simpa using hp
theorem rnd_trial (S : TrSys x nm Pop Run) {T : Tr} {F : (Int → List Evt) → Int → List Evt} {C : (Int → Nat) → Int → Nat}
  (IH : ∀ {B : Bm} {v ch rest : Value} {a : Int} {P : List Value} {es : List Evt} {s : Nat} {k : Int → List Evt} {kc : Int → Nat}, IsNode B T v → Tup B ch [v, rest] → 0 ≤ a → a ≤ x.length → s + C kc a ≤ 99999 → Beh x Pop Run B rest a k kc → Pop B P (es ++ F k a) (s + C kc a) → Run B ch a P es s)
  {y p rest : Value} {t : Tok} {k : Int → List Evt} {kc : Int → Nat} : ∀ (m : Nat) (B : Bm) (ch : Value) (a : Int) (P : List Value) (es : List Evt) (s : Nat), (x.length : Int) < a + m → IsNode B T y → Tup B p [.str "arbno" t, y] → Tup B ch [p, rest] → 0 ≤ a → a ≤ x.length →
   s + rndC C kc m a ≤ 99999 → Beh x Pop Run B rest a k kc → Pop B P (es ++ rndE F k m a) (s + rndC C kc m a) → Run B ch a P es s
 | 0, B, ch, a, P, es, s, hm, _, _, _, _, h1, _, _, _ => by exfalso; lia
 | m + 1, B, ch, a, P, es, s, hm, hn, hp, hc, h0, h1, hs, hb, hP => by
  simp only [rndC.k2, rndE.k2] at hs hP
  refine S.arbno (by lia) hc hp fun B' w c c' r t' t'' tr le hw h2 h3 h4 => hb a B' _ es _ (Int.le_refl _) h1 le (by lia) ?_
  refine S.pop hw (IH (hn.mono le) h2 h0 h1 (k := fun e => if e = a then [] else rndE F k m e) (kc := fun e => 1 + (if e = a then 0 else rndC C kc m e)) (by lia) ?_ ?_)
  ·intro e B2 P2 es2 s2 h5 h6 le2 hs2 hP2
   dsimp only at hs2 hP2
   refine S.rnd (by lia) (h3.mono le2) (h4.mono le2) (fun he => ?_) fun he B3 c3 le3 h7 => ?_
   ·simp only [he, if_true, List.append_nil, Nat.add_zero] at hP2
    exact hP2
   ·simp only [he, if_false] at hP2 hs2
    have l3 := (le.trans le2).trans le3
    refine rnd_trial S (T := T) (F := F) (C := C) (fun a b c d e f g => IH a b c d e f g) m B3 c3 e P2 es2 _ (by lia) (hn.mono l3) (hp.mono l3) h7 (by lia) h6 (by lia) (hb.later l3 h5) ?_
    rw [Nat.add_assoc]
    exact S.mono le3 hP2
  ·rw [List.append_assoc]
   have := S.mono le hP
   rw [show s + 1 + kc a + C (fun e => 1 + (if e = a then 0 else rndC C kc m e)) a = s + (1 + (kc a + C (fun e => 1 + (if e = a then 0 else rndC C kc m e)) a)) by lia]
   exact this
theorem arb_trial (S : TrSys x nm Pop Run) {p rest : Value} {k : Int → List Evt} {kc : Int → Nat} : ∀ (m : Nat) (B : Bm) (ch : Value) (a : Int) (P : List Value) (es : List Evt) (s : Nat), (x.length : Int) < a + m → IsLf B .arb p → Tup B ch [p, rest] → 0 ≤ a → a ≤ x.length →
   s + sumN (fun e => 1 + kc e) (pEnds x a .arb) ≤ 99999 → Beh x Pop Run B rest a k kc → Pop B P (es ++ (pEnds x a .arb).flatMap k) (s + sumN (fun e => 1 + kc e) (pEnds x a .arb)) → Run B ch a P es s
 | 0, B, ch, a, P, es, s, hm, _, _, _, h1, _, _, _ => by exfalso; lia
 | m + 1, B, ch, a, P, es, s, hm, hp, hc, h0, h1, hs, hb, hP => by
  rw [ends_arb h1] at hs hP
  simp only [sumN.k2, List.flatMap_cons] at hs hP
  refine S.arb (by lia) h0 hc hp (fun hl B' w c t le hw hcc => ?_) fun hl B' le => ?_
  ·refine hb a B' _ es _ (Int.le_refl _) h1 le (by lia) (S.pop hw (arb_trial S m B' c (a + 1) P _ _ (by lia) (hp.mono le) hcc (by lia) (by lia) (by lia) (hb.later le (by lia)) ?_))
   rw [List.append_assoc, show s + 1 + kc a + sumN (fun e => 1 + kc e) (pEnds x (a + 1) .arb) = s + (1 + kc a + sumN (fun e => 1 + kc e) (pEnds x (a + 1) .arb)) by lia]
   exact S.mono le hP
  ·rw [ends_arb0 (show (x.length : Int) < a + 1 by lia)] at hs hP
   simp only [sumN.k1, List.flatMap_nil, List.append_nil, Nat.add_zero] at hs hP
   refine hb a B' P es _ (Int.le_refl _) h1 le (by lia) ?_
   rw [Nat.add_assoc]
   exact S.mono le hP
theorem leaf_trial (S : TrSys x nm Pop Run) (hx : x.length ≤ 2) {lf : Lf} (ok : Okl x lf) {B : Bm} {p rest ch : Value} {a : Int} {P : List Value} {es : List Evt} {s : Nat} {k : Int → List Evt} {kc : Int → Nat} (hp : IsLf B lf p) (hc : Tup B ch [p, rest]) (h0 : 0 ≤ a) (h1 : a ≤ x.length)
  (hs : s + lfC x kc a lf ≤ 99999) (hb : Beh x Pop Run B rest a k kc) (hP : Pop B P (es ++ (pEnds x a lf).flatMap k) (s + lfC x kc a lf)) : Run B ch a P es s := by
 by_cases h : lf.single = true
 ·have e1 : lfC x kc a lf = 1 + sumN kc (pEnds x a lf) := by cases lf <;> first | rfl | cases h
  have e2 : pEnds x a lf = match pEnd x a lf with | none => [] | some e => [e] := by cases lf <;> first | rfl | cases h
  rw [e1] at hs hP
  have he := ok.ends a h0 h1
  refine S.one (by lia) h0 hc hp h ok.fits (fun q => ?_) fun e q B' le => ?_
  ·rw [e2, q] at hP
   simpa [sumN.k1, sumN.k2] using hP
  ·rw [e2, q] at hP hs he
   simp only [sumN.k1, sumN.k2, Nat.add_zero] at hP hs
   refine hb e B' P es _ (he e (by simp)).1 (he e (by simp)).2 le (by lia) ?_
   rw [Nat.add_assoc]
   simpa using S.mono le hP
 ·cases lf with
  | arb => exact arb_trial S 3 B ch a P es s (by lia) hp hc h0 h1 hs hb hP
  | bal =>
   have he := ok.ends a h0 h1
   simp only [lfC] at hs hP
   have e2 : pEnds x a .bal = balEs x 3 a := rfl
   rw [e2] at hs hP he
   refine S.bal (by lia) h0 hc hp (fun q => ?_) fun e es' q B' ws le hw => ?_
   ·rw [q] at hP
    simpa [sumN.k1, sumN.k2] using hP
   ·rw [q] at hP hs he
    simp only [sumN.k2, List.flatMap_cons] at hP hs
    refine hb e B' _ es _ (he e (by simp)).1 (he e (by simp)).2 le (by lia) ?_
    refine ways_pop S (hb.later le (Int.le_refl _)) es'.reverse B' ws P _ _ (leB.refl _) (fun i hi => he i (by simp at hi; simp [hi])) hw (by rw [List.reverse_reverse]; lia) ?_
    rw [List.reverse_reverse, List.append_assoc, show s + 1 + kc e + sumN kc es' = s + (1 + (kc e + sumN kc es')) by lia]
    exact S.mono le hP
  | _ => exact absurd rfl h
theorem trial (S : TrSys x nm Pop Run) (hx : x.length ≤ 2) : ∀ (T : Tr), T.all (Okl x) → ∀ {B : Bm} {v ch rest : Value} {a : Int} {P : List Value} {es : List Evt} {s : Nat} {k : Int → List Evt} {kc : Int → Nat}, IsNode B T v → Tup B ch [v, rest] → 0 ≤ a → a ≤ x.length → s + CT x T kc a ≤ 99999 → Beh x Pop Run B rest a k kc → Pop B P (es ++ ET x T k a) (s + CT x T kc a) → Run B ch a P es s := by
 intro T
 induction T with
 | leaf n lf =>
  intro ok B v ch rest a P es s k kc hn hc h0 hl hs hb hP
  refine cutP fun G up => ?_
  obtain ⟨t, i, c, h1, h2, h3⟩ := hn
  refine up ?_
  simp only [CT.k1, CT.k2, CT.k3, CT.k4, ET.k1, ET.k2, ET.k3, ET.k4] at hs hP
  refine S.cat (by lia) hc h1 fun B' c' r le hc' hr => leaf_trial S hx ok (h3.mono le) hc' h0 hl (by lia) (Beh.cur S (hb.later le (Int.le_refl _)) hr (h2.mono le)) ?_
  rw [Nat.add_assoc]
  exact S.mono le hP
 | cat n l r il ir =>
  intro ok B v ch rest a P es s k kc hn hc h0 hl hs hb hP
  refine cutP fun G up => ?_
  obtain ⟨t, i, c, h1, h2, t', y, z, h3, h4, h5⟩ := hn
  refine up ?_
  simp only [CT.k1, CT.k2, CT.k3, CT.k4, ET.k1, ET.k2, ET.k3, ET.k4] at hs hP
  refine S.cat (by lia) hc h1 fun B' c' rr le hc' hr => S.cat (by lia) hc' (h3.mono le) fun B2 c2 r2 le2 hc2 hr2 => il ok.1 (h4.mono (le.trans le2)) hc2 h0 hl (kc := CT x r fun e => 1 + kc e) (k := ET x r fun e => (n, e) :: k e) (by lia) ?_ ?_
  ·intro e B3 P3 es3 s3 h6 h7 le3 hs3 hP3
   exact ir ok.2 (h5.mono ((le.trans le2).trans le3)) (hr2.mono le3) (by lia) h7 hs3 (Beh.cur S (hb.later ((le.trans le2).trans le3) h6) (hr.mono (le2.trans le3)) (h2.mono ((le.trans le2).trans le3))) hP3
  ·rw [Nat.add_assoc, Nat.add_assoc, ← Nat.add_assoc 1 1]
   exact S.mono (le.trans le2) hP
 | alt n l r il ir =>
  intro ok B v ch rest a P es s k kc hn hc h0 hl hs hb hP
  refine cutP fun G up => ?_
  obtain ⟨t, i, c, h1, h2, t', y, z, h3, h4, h5⟩ := hn
  refine up ?_
  simp only [CT.k1, CT.k2, CT.k3, CT.k4, ET.k1, ET.k2, ET.k3, ET.k4] at hs hP
  refine S.cat (by lia) hc h1 fun B' c' rr le hc' hr => S.alt (by lia) hc' (h3.mono le) fun B2 w c2 c3 t2 le2 hw hc2 hc3 => il ok.1 (h4.mono (le.trans le2)) hc3 h0 hl (kc := fun e => 1 + kc e) (k := fun e => (n, e) :: k e) (by lia) ?_ ?_
  ·exact Beh.cur S (hb.later (le.trans le2) (Int.le_refl _)) (hr.mono le2) (h2.mono (le.trans le2))
  ·refine S.pop hw (ir ok.2 (h5.mono (le.trans le2)) hc2 h0 hl (kc := fun e => 1 + kc e) (k := fun e => (n, e) :: k e) (by lia) ?_ ?_)
   ·exact Beh.cur S (hb.later (le.trans le2) (Int.le_refl _)) (hr.mono le2) (h2.mono (le.trans le2))
   ·rw [List.append_assoc, show s + 1 + 1 + CT x l (fun e => 1 + kc e) a + CT x r (fun e => 1 + kc e) a = s + (2 + (CT x l (fun e => 1 + kc e) a + CT x r (fun e => 1 + kc e) a)) by lia]
    exact S.mono (le.trans le2) hP
 | arb n u iu =>
  intro ok B v ch rest a P es s k kc hn hc h0 hl hs hb hP
  refine cutP fun G up => ?_
  obtain ⟨t, i, c, h1, h2, t', y, h3, h4⟩ := hn
  refine up ?_
  simp only [CT.k1, CT.k2, CT.k3, CT.k4, ET.k1, ET.k2, ET.k3, ET.k4] at hs hP
  refine S.cat (by lia) hc h1 fun B' c' rr le hc' hr => rnd_trial S (T := u) (F := ET x u) (C := CT x u) (fun hn hc h0 h1 hs hb hP => iu ok hn hc h0 h1 hs hb hP) 3 B' c' a P es _ (by lia) (h4.mono le) (h3.mono le) hc' h0 hl (by lia) (Beh.cur S (hb.later le (Int.le_refl _)) hr (h2.mono le)) ?_
  rw [Nat.add_assoc]
  exact S.mono le hP
end
end
section
inductive Pt where
 | lf (l : Lf)
 | alt (l r : Tr)
 | arb (t : Tr)
 | cur (n : Str)
 | fail
noncomputable def Pt.kind : Pt → Str
 | .lf l => l.kind | .alt _ _ => "alt" | .arb _ => "arbno" | .cur _ => "cursor" | .fail => "fail"
noncomputable def IsPt (B : Bm) : Pt → Value → Prop
 | .lf l, v => IsLf B l v
 | .alt l r, v => ∃ t y z, Tup B v [.str "alt" t, y, z] ∧ IsNode B l y ∧ IsNode B r z
 | .arb u, v => ∃ t y, Tup B v [.str "arbno" t, y] ∧ IsNode B u y
 | .cur n, v => IsCur B n v
 | .fail, v => ∃ t, Tup B v [.str "fail" t]
noncomputable def IsPts (B : Bm) : List Pt → List Value → Prop
 | [], vs => vs = []
 | p :: ps, vs => ∃ v vs', vs = v :: vs' ∧ IsPt B p v ∧ IsPts B ps vs'
noncomputable def pts : Tr → List Pt
 | .leaf n lf => [.lf lf, .cur n]
 | .cat n l r => pts l ++ pts r ++ [.cur n]
 | .alt n l r => [.alt l r, .cur n]
 | .arb n t => [.arb t, .cur n]
theorem pts.k1 {n lf} : pts (.leaf n lf) = [.lf lf, .cur n] := rfl
theorem pts.k2 {n l r} : pts (.cat n l r) = pts l ++ pts r ++ [.cur n] := rfl
theorem pts.k3 {n l r} : pts (.alt n l r) = [.alt l r, .cur n] := rfl
theorem pts.k4 {n t} : pts (.arb n t) = [.arb t, .cur n] := rfl
noncomputable def Tr.sz : Tr → Nat
 | .leaf _ _ => 3
 | .cat _ l r => l.sz + r.sz + 3
 | .alt _ l r => l.sz + r.sz + 3
 | .arb _ t => t.sz + 3
theorem Tr.sz.k1 {z1 z2} : Tr.sz (.leaf z1 z2) = 3 := rfl
theorem Tr.sz.k2 {z1 l r} : Tr.sz (.cat z1 l r) = l.sz + r.sz + 3 := rfl
theorem Tr.sz.k3 {z1 l r} : Tr.sz (.alt z1 l r) = l.sz + r.sz + 3 := rfl
theorem Tr.sz.k4 {z1 t} : Tr.sz (.arb z1 t) = t.sz + 3 := rfl
noncomputable def Pt.isC : Pt → Bool | .lf (.chars _) => true | _ => false
theorem Pt.isC.k2 {q0 q1} : Pt.isC (.alt q0 q1) = false := rfl
theorem Pt.isC.k3 {q0} : Pt.isC (.arb q0) = false := rfl
theorem Pt.isC.k4 {q0} : Pt.isC (.cur q0) = false := rfl
noncomputable def Pt.keep : Pt → Bool | .lf (.chars y) => !(y == "") | _ => true
noncomputable def noAdj : Bool → List Pt → Bool
 | _, [] => true
 | b, p :: ps => !(b && p.isC) && noAdj p.isC ps
theorem noAdj.k2 {b p ps} : noAdj b (p :: ps) = (!(b && p.isC) && noAdj p.isC ps) := rfl
theorem noAdj_pts : ∀ (T : Tr) (rest : List Pt), noAdj false (pts T ++ rest) = noAdj false rest
 | .leaf n lf, rest => by simp [pts.k1, noAdj.k2, Pt.isC.k4]
 | .cat n l r, rest => by
  rw [pts.k2, List.append_assoc, List.append_assoc, noAdj_pts l, noAdj_pts r]
  simp [noAdj.k2, Pt.isC.k4]
 | .alt n l r, rest => by simp [pts.k3, noAdj.k2, Pt.isC.k2, Pt.isC.k4]
 | .arb n t, rest => by simp [pts.k4, noAdj.k2, Pt.isC.k3, Pt.isC.k4]
theorem IsPt.mono {B B' : Bm} {p : Pt} {v : Value} (h : IsPt B p v) (le : leB B B') : IsPt B' p v := by
 cases p with
 | lf l => exact IsLf.mono h le
 | alt l r => refine cutP fun G up => ?_; obtain ⟨t, y, z, h1, h2, h3⟩ := h; exact up (⟨t, y, z, h1.mono le, h2.mono le, h3.mono le⟩)
 | arb u => refine cutP fun G up => ?_; obtain ⟨t, y, h1, h2⟩ := h; exact up (⟨t, y, h1.mono le, h2.mono le⟩)
 | cur n => exact IsCur.mono h le
 | fail => refine cutP fun G up => ?_; obtain ⟨t, h⟩ := h; exact up (⟨t, h.mono le⟩)
theorem IsPts.mono {B B' : Bm} (le : leB B B') : ∀ {ps : List Pt} {vs : List Value}, IsPts B ps vs → IsPts B' ps vs
 | [], _, h => h
 | p :: ps, _, ⟨v, vs', e, h1, h2⟩ => ⟨v, vs', e, h1.mono le, h2.mono le⟩
theorem IsPts.app {B : Bm} {qs : List Pt} {us : List Value} (g : IsPts B qs us) : ∀ {ps : List Pt} {vs : List Value}, IsPts B ps vs → IsPts B (ps ++ qs) (vs ++ us)
 | [], _, h => by cases h; exact g
 | p :: ps, _, ⟨v, vs', e, h1, h2⟩ => by subst e; exact ⟨v, _, rfl, h1, IsPts.app g h2⟩
theorem IsPts.one {B : Bm} {p : Pt} {v : Value} (h : IsPt B p v) : IsPts B [p] [v] := ⟨v, [], rfl, h, rfl⟩
theorem IsPts.len {B : Bm} : ∀ {ps : List Pt} {vs : List Value}, IsPts B ps vs → vs.length = ps.length
 | [], _, h => by cases h; rfl
 | p :: ps, _, ⟨v, vs', e, h1, h2⟩ => by subst e; simp [IsPts.len h2]
theorem pts_len : ∀ T : Tr, (pts T).length ≤ T.sz
 | .leaf n lf => by simp [pts.k1, Tr.sz.k1]
 | .cat n l r => by have := pts_len l; have := pts_len r; simp [pts.k2, Tr.sz.k2]; lia
 | .alt n l r => by simp [pts.k3, Tr.sz.k3]
 | .arb n t => by simp [pts.k4, Tr.sz.k4]
inductive Od where
 | one (l : Lf)
 | ways (l : Lf)
 | place (n : Str)
 | fail
 | split (g : Nat)
 | jump (g : Nat)
 | mark
 | gain
 | done
noncomputable def IsOd (B : Bm) : Od → Value → Prop
 | .one l, v => ∃ t t' u, Tup B v [.str "one" t, .str l.kind t', u] ∧ l.told u
 | .ways l, v => ∃ t t', Tup B v [.str "ways" t, .str l.kind t']
 | .place n, v => ∃ t r, Tup B v [.str "place" t, .ref r] ∧ IsRf B n r
 | .fail, v => ∃ t, Tup B v [.str "fail" t]
 | .split g, v => ∃ t t', Tup B v [.str "split" t, .int g t']
 | .jump g, v => ∃ t t', Tup B v [.str "jump" t, .int g t']
 | .mark, v => ∃ t, Tup B v [.str "mark" t]
 | .gain, v => ∃ t, Tup B v [.str "gain" t]
 | .done, v => ∃ t, Tup B v [.str "done" t]
noncomputable def IsOds (B : Bm) : List Od → List Value → Prop
 | [], vs => vs = []
 | p :: ps, vs => ∃ v vs', vs = v :: vs' ∧ IsOd B p v ∧ IsOds B ps vs'
theorem IsOd.mono {B B' : Bm} {p : Od} {v : Value} (h : IsOd B p v) (le : leB B B') : IsOd B' p v := by
 cases p with
 | one l => refine cutP fun G up => ?_; obtain ⟨t, t', u, h1, h2⟩ := h; exact up (⟨t, t', u, h1.mono le, h2⟩)
 | place n => refine cutP fun G up => ?_; obtain ⟨t, r, h1, h2⟩ := h; exact up (⟨t, r, h1.mono le, h2.mono le⟩)
 | ways l => refine cutP fun G up => ?_; obtain ⟨t, t', h⟩ := h; exact up (⟨t, t', h.mono le⟩)
 | split g => refine cutP fun G up => ?_; obtain ⟨t, t', h⟩ := h; exact up (⟨t, t', h.mono le⟩)
 | jump g => refine cutP fun G up => ?_; obtain ⟨t, t', h⟩ := h; exact up (⟨t, t', h.mono le⟩)
 | _ => refine cutP fun G up => ?_; obtain ⟨t, h⟩ := h; exact up (⟨t, h.mono le⟩)
theorem IsOds.mono {B B' : Bm} (le : leB B B') : ∀ {ps : List Od} {vs : List Value}, IsOds B ps vs → IsOds B' ps vs
 | [], _, h => h
 | p :: ps, _, ⟨v, vs', e, h1, h2⟩ => ⟨v, vs', e, h1.mono le, h2.mono le⟩
theorem IsOds.app {B : Bm} {qs : List Od} {us : List Value} (g : IsOds B qs us) : ∀ {ps : List Od} {vs : List Value}, IsOds B ps vs → IsOds B (ps ++ qs) (vs ++ us)
 | [], _, h => by cases h; exact g
 | p :: ps, _, ⟨v, vs', e, h1, h2⟩ => by subst e; exact ⟨v, _, rfl, h1, IsOds.app g h2⟩
theorem IsOds.one {B : Bm} {p : Od} {v : Value} (h : IsOd B p v) : IsOds B [p] [v] := ⟨v, [], rfl, h, rfl⟩
theorem IsOds.len {B : Bm} : ∀ {ps : List Od} {vs : List Value}, IsOds B ps vs → vs.length = ps.length
 | [], _, h => by cases h; rfl
 | p :: ps, _, ⟨v, vs', e, h1, h2⟩ => by subst e; simp [IsOds.len h2]
theorem IsOds.get {B : Bm} : ∀ {ps : List Od} {vs : List Value}, IsOds B ps vs → ∀ {i : Nat} {p : Od}, ps[i]? = some p → ∃ v, vs[i]? = some v ∧ IsOd B p v
 | [], _, h, i, p, e => by simp at e
 | p :: ps, _, ⟨v, vs', e, h1, h2⟩, 0, q, eq => by subst e; simp at eq; subst eq; exact ⟨v, rfl, h1⟩
 | p :: ps, _, ⟨v, vs', e, h1, h2⟩, i + 1, q, eq => by subst e; simp at eq; simpa using IsOds.get h2 eq
noncomputable def odLf : Lf → List Od
 | .arb => [.ways .arb]
 | .bal => [.ways .bal]
 | .chars y => if (y == "") = true then [] else [.one (.chars y)]
 | l => [.one l]
theorem odLf.k1 : odLf (.arb) = [.ways .arb] := rfl
theorem odLf.k2 : odLf (.bal) = [.ways .bal] := rfl
theorem odLf.k3 {y} : odLf (.chars y) = if (y == "") = true then [] else [.one (.chars y)] := rfl
theorem odLf.k4 {q0} : odLf (.len q0) = [.one (.len q0)] := rfl
theorem odLf.k5 {q0} : odLf (.any q0) = [.one (.any q0)] := rfl
theorem odLf.k6 {q0} : odLf (.pos q0) = [.one (.pos q0)] := rfl
theorem odLf.k7 {q0} : odLf (.tab q0) = [.one (.tab q0)] := rfl
theorem odLf.k8 {q0} : odLf (.span q0) = [.one (.span q0)] := rfl
theorem odLf.k9 : odLf (.rem) = [.one (.rem)] := rfl
noncomputable def lenT : Tr → Nat
 | .leaf _ lf => (odLf lf).length + 1
 | .cat _ l r => lenT l + lenT r + 1
 | .alt _ l r => lenT l + lenT r + 3
 | .arb _ t => lenT t + 6
theorem lenT.k1 {z1 lf} : lenT (.leaf z1 lf) = (odLf lf).length + 1 := rfl
theorem lenT.k2 {z1 l r} : lenT (.cat z1 l r) = lenT l + lenT r + 1 := rfl
theorem lenT.k3 {z1 l r} : lenT (.alt z1 l r) = lenT l + lenT r + 3 := rfl
theorem lenT.k4 {z1 t} : lenT (.arb z1 t) = lenT t + 6 := rfl
noncomputable def code : Tr → Nat → List Od
 | .leaf n lf, p => odLf lf ++ [.place n]
 | .cat n l r, p => code l p ++ code r (p + lenT l) ++ [.place n]
 | .alt n l r, p => [.split (p + 2 + lenT l)] ++ code l (p + 1) ++ [.jump (p + 2 + lenT l + lenT r)] ++ code r (p + 2 + lenT l) ++ [.place n]
 | .arb n t, p => [.split (p + 2), .jump (p + 5 + lenT t), .mark] ++ code t (p + 3) ++ [.gain, .jump p] ++ [.place n]
theorem code.k1 {n lf p} : code (.leaf n lf) p = odLf lf ++ [.place n] := rfl
theorem code.k2 {n l r p} : code (.cat n l r) p = code l p ++ code r (p + lenT l) ++ [.place n] := rfl
theorem code.k3 {n l r p} : code (.alt n l r) p = [.split (p + 2 + lenT l)] ++ code l (p + 1) ++ [.jump (p + 2 + lenT l + lenT r)] ++ code r (p + 2 + lenT l) ++ [.place n] := rfl
theorem code.k4 {n t p} : code (.arb n t) p = [.split (p + 2), .jump (p + 5 + lenT t), .mark] ++ code t (p + 3) ++ [.gain, .jump p] ++ [.place n] := rfl
theorem code_len : ∀ (T : Tr) (p : Nat), (code T p).length = lenT T
 | .leaf n lf, p => by simp [code.k1, lenT.k1]
 | .cat n l r, p => by simp [code.k2, lenT.k2, code_len l, code_len r, Nat.add_assoc]
 | .alt n l r, p => by simp [code.k3, lenT.k3, code_len l, code_len r]; lia
 | .arb n t, p => by simp [code.k4, lenT.k4, code_len t]
noncomputable def pcode : Pt → Nat → List Od
 | .lf l, _ => odLf l
 | .alt l r, p => [.split (p + 2 + lenT l)] ++ code l (p + 1) ++ [.jump (p + 2 + lenT l + lenT r)] ++ code r (p + 2 + lenT l)
 | .arb t, p => [.split (p + 2), .jump (p + 5 + lenT t), .mark] ++ code t (p + 3) ++ [.gain, .jump p]
 | .cur n, _ => [.place n]
 | .fail, _ => [.fail]
theorem pcode.k1 {l z1} : pcode (.lf l) z1 = odLf l := rfl
theorem pcode.k2 {l r p} : pcode (.alt l r) p = [.split (p + 2 + lenT l)] ++ code l (p + 1) ++ [.jump (p + 2 + lenT l + lenT r)] ++ code r (p + 2 + lenT l) := rfl
theorem pcode.k3 {t p} : pcode (.arb t) p = [.split (p + 2), .jump (p + 5 + lenT t), .mark] ++ code t (p + 3) ++ [.gain, .jump p] := rfl
theorem pcode.k4 {n z1} : pcode (.cur n) z1 = [.place n] := rfl
theorem pcode.k5 {z1} : pcode (.fail) z1 = [.fail] := rfl
noncomputable def pcodes : List Pt → Nat → List Od
 | [], _ => []
 | q :: qs, p => pcode q p ++ pcodes qs (p + (pcode q p).length)
theorem pcodes.k1 {z1} : pcodes [] z1 = [] := rfl
theorem pcodes.k2 {q qs p} : pcodes (q :: qs) p = pcode q p ++ pcodes qs (p + (pcode q p).length) := rfl
theorem pcodes_pts : ∀ (T : Tr) (rest : List Pt) (p : Nat), pcodes ((pts T).filter Pt.keep ++ rest) p = code T p ++ pcodes rest (p + lenT T)
 | .leaf n lf, rest, p => by
  have : ∀ b, [Pt.lf lf, Pt.cur n].filter Pt.keep ++ b = (if Pt.keep (.lf lf) = true then [Pt.lf lf] else []) ++ Pt.cur n :: b := by
   intro b; by_cases h : Pt.keep (.lf lf) = true <;> simp [h, show Pt.keep (.cur n) = true from rfl]
  rw [pts.k1, this]
  cases lf with
  | chars y =>
   by_cases h : (y == "") = true
   ·simp [Pt.keep, h, code.k1, pcodes.k2, pcode.k4, odLf.k3, lenT.k1]
   ·simp [Pt.keep, h, code.k1, pcodes.k2, pcode.k1, pcode.k4, odLf.k3, lenT.k1, Nat.add_assoc]
  | _ => simp [Pt.keep, code.k1, pcodes.k2, pcode.k1, pcode.k4, odLf.k1, odLf.k2, odLf.k4, odLf.k5, odLf.k6, odLf.k7, odLf.k8, odLf.k9, lenT.k1, Nat.add_assoc]
 | .cat n l r, rest, p => by
  rw [pts.k2, List.filter_append, List.filter_append, List.append_assoc, List.append_assoc, pcodes_pts l, pcodes_pts r, show List.filter Pt.keep [Pt.cur n] = [Pt.cur n] from rfl]
  simp [code.k2, pcodes.k2, pcode.k4, lenT.k2, Nat.add_assoc]
 | .alt n l r, rest, p => by
  rw [show List.filter Pt.keep (pts (.alt n l r)) = [Pt.alt l r, Pt.cur n] from rfl]
  simp [code.k1, code.k2, code.k3, code.k4, pcodes.k1, pcodes.k2, pcode.k1, pcode.k2, pcode.k3, pcode.k4, pcode.k5, lenT.k1, lenT.k2, lenT.k3, lenT.k4, code_len]
  congr 1
 | .arb n t, rest, p => by
  rw [show List.filter Pt.keep (pts (.arb n t)) = [Pt.arb t, Pt.cur n] from rfl]
  simp [code.k1, code.k2, code.k3, code.k4, pcodes.k1, pcodes.k2, pcode.k1, pcode.k2, pcode.k3, pcode.k4, pcode.k5, lenT.k1, lenT.k2, lenT.k3, lenT.k4, code_len]
  congr 1
end
section
theorem IsPt.head {B : Bm} {p : Pt} {v : Value} (h : IsPt B p v) : ∃ a t us, v = .ref a ∧ B a = some (.tup (.str p.kind t :: us)) ∧ (p.isC = true → ∃ y u, us = [.str y u] ∧ p = .lf (.chars y)) := by
 cases p with
 | lf l =>
  cases l with
  | chars y => refine cutP fun G up => ?_; obtain ⟨t, u, ⟨tu, rfl⟩, a, rfl, h⟩ := h; exact up (⟨a, t, _, rfl, h, fun _ => ⟨y, tu, rfl, rfl⟩⟩)
  | arb => refine cutP fun G up => ?_; obtain ⟨t, a, rfl, h⟩ := h; exact up (⟨a, t, _, rfl, h, fun z => by cases z⟩)
  | bal => refine cutP fun G up => ?_; obtain ⟨t, a, rfl, h⟩ := h; exact up (⟨a, t, _, rfl, h, fun z => by cases z⟩)
  | rem => refine cutP fun G up => ?_; obtain ⟨t, a, rfl, h⟩ := h; exact up (⟨a, t, _, rfl, h, fun z => by cases z⟩)
  | _ => refine cutP fun G up => ?_; obtain ⟨t, u, hu, a, rfl, h⟩ := h; exact up (⟨a, t, _, rfl, h, fun z => by cases z⟩)
 | alt l r => refine cutP fun G up => ?_; obtain ⟨t, y, z, ⟨a, rfl, h⟩, _⟩ := h; exact up (⟨a, t, _, rfl, h, fun z => by cases z⟩)
 | arb u => refine cutP fun G up => ?_; obtain ⟨t, y, ⟨a, rfl, h⟩, _⟩ := h; exact up (⟨a, t, _, rfl, h, fun z => by cases z⟩)
 | cur n => refine cutP fun G up => ?_; obtain ⟨r, t, _, a, rfl, h⟩ := h; exact up (⟨a, t, _, rfl, h, fun z => by cases z⟩)
 | fail => refine cutP fun G up => ?_; obtain ⟨t, a, rfl, h⟩ := h; exact up (⟨a, t, _, rfl, h, fun z => by cases z⟩)
theorem IsPts.app' {B : Bm} {ps qs : List Pt} {vs us : List Value} (h : IsPts B ps vs) (g : IsPts B qs us) : IsPts B (ps ++ qs) (vs ++ us) := IsPts.app g h
theorem IsNode.first {B : Bm} {T : Tr} {v : Value} (h : IsNode B T v) : ∃ t us, Tup B v (.str "cat" t :: us) := by
 cases T with
 | leaf n lf => refine cutP fun G up => ?_; obtain ⟨t, i, c, h, _⟩ := h; exact up (⟨t, _, h⟩)
 | cat n l r => refine cutP fun G up => ?_; obtain ⟨t, i, c, h, _⟩ := h; exact up (⟨t, _, h⟩)
 | alt n l r => refine cutP fun G up => ?_; obtain ⟨t, i, c, h, _⟩ := h; exact up (⟨t, _, h⟩)
 | arb n u => refine cutP fun G up => ?_; obtain ⟨t, i, c, h, _⟩ := h; exact up (⟨t, _, h⟩)
theorem kind_chars {p : Pt} : (p.kind == Str.ofString "chars") = p.isC := by
 cases p with
 | lf l => cases l <;> rfl
 | _ => rfl
theorem kind_cat {p : Pt} : (p.kind == Str.ofString "cat") = false := by
 cases p with
 | lf l => cases l <;> rfl
 | _ => rfl
section
variable {w : World} {A : Around} {B : Bm} {N : Nm} {d : Nat}
theorem s_is_plain_text {p : Pt} {v : Value} (K : KB w B) (rm : Rm A 1) (hp : IsPt B p v) :
  Wc w A (.call (.ref 30) ⟨[v], []⟩) (fun v B' N' => v = .bool p.isC ∧ B = B' ∧ N = N') B N := by
 refine cutP fun G1 up1 => ?_
 obtain ⟨a, t, us, rfl, h, hc⟩ := hp.head
 refine up1 ?_
 refine c_is_plain_text K rm ?_
 intro L env A' ev rm' hg
 refine W_cons ?_
 k_extra "1"
 refine W_And2 ?_
 k_extra "go"
 rw [kind_chars]
 refine ite_b (fun e => ?_) fun e => ?_
 ·refine cutP fun G2 up2 => ?_
  obtain ⟨y, u, rfl, rfl⟩ := hc e
  refine up2 ?_
  k_extra "go"
  exact ⟨rfl, rfl, rfl⟩
 ·exact ⟨by rw [e]; rfl, rfl, rfl⟩
structure RowSys (B : Bm) (kind : Str) (Row : List Value → List Value → Prop) : Prop where
 leaf : ∀ {W F v k t us}, W.length ≤ 1000 → F.length ≤ 1000 → Tup B v (.str k t :: us) → (k == kind) = false → Row W (F ++ [v]) → Row (W ++ [v]) F
 node : ∀ {W F v t y z}, W.length ≤ 1000 → F.length ≤ 1000 → Tup B v [.str kind t, y, z] → Row (W ++ [z, y]) F → Row (W ++ [v]) F
theorem RowSys.part {B : Bm} {Row : List Value → List Value → Prop} (S : RowSys B (Str.ofString "cat") Row) {p : Pt} {v : Value} (hp : IsPt B p v) {W F : List Value} (hW : W.length ≤ 1000) (hF : F.length ≤ 1000) (h : Row W (F ++ [v])) : Row (W ++ [v]) F := by
 refine cutP fun G3 up3 => ?_
 obtain ⟨a, t, us, rfl, ha, _⟩ := hp.head
 refine up3 ?_
 exact S.leaf hW hF ⟨_, rfl, ha⟩ kind_cat h
theorem RowSys.tree {B : Bm} {Row : List Value → List Value → Prop} (S : RowSys B (Str.ofString "cat") Row) : ∀ (T : Tr) {v : Value} {W F : List Value}, IsNode B T v → W.length + F.length + T.sz ≤ 1000 → (∀ vs, IsPts B (pts T) vs → Row W (F ++ vs)) → Row (W ++ [v]) F := by
 intro T
 induction T with
 | leaf n lf =>
  intro v W F hn hz h
  refine cutP fun G up => ?_
  obtain ⟨t, i, c, h1, h2, h3⟩ := hn
  refine up ?_
  simp only [Tr.sz.k1, Tr.sz.k2, Tr.sz.k3, Tr.sz.k4] at hz
  refine S.node (by lia) (by lia) h1 ?_
  rw [show W ++ [c, i] = (W ++ [c]) ++ [i] by simp]
  refine S.part (p := .lf lf) h3 (by simp; lia) (by lia) (S.part (p := .cur n) h2 (by lia) (by simp; lia) ?_)
  rw [List.append_assoc]
  exact h _ ⟨i, _, rfl, h3, IsPts.one (p := .cur n) h2⟩
 | alt n l r il ir =>
  intro v W F hn hz h
  refine cutP fun G up => ?_
  obtain ⟨t, i, c, h1, h2, t', y, z, h3, h4, h5⟩ := hn
  refine up ?_
  simp only [Tr.sz.k1, Tr.sz.k2, Tr.sz.k3, Tr.sz.k4] at hz
  refine S.node (by lia) (by lia) h1 ?_
  rw [show W ++ [c, i] = (W ++ [c]) ++ [i] by simp]
  have h3' : IsPt B (.alt l r) i := ⟨t', y, z, h3, h4, h5⟩
  refine S.part h3' (by simp; lia) (by lia) (S.part (p := .cur n) h2 (by lia) (by simp; lia) ?_)
  rw [List.append_assoc]
  exact h _ ⟨i, _, rfl, h3', IsPts.one (p := .cur n) h2⟩
 | arb n u iu =>
  intro v W F hn hz h
  refine cutP fun G up => ?_
  obtain ⟨t, i, c, h1, h2, t', y, h3, h4⟩ := hn
  refine up ?_
  simp only [Tr.sz.k1, Tr.sz.k2, Tr.sz.k3, Tr.sz.k4] at hz
  refine S.node (by lia) (by lia) h1 ?_
  rw [show W ++ [c, i] = (W ++ [c]) ++ [i] by simp]
  have h3' : IsPt B (.arb u) i := ⟨t', y, h3, h4⟩
  refine S.part h3' (by simp; lia) (by lia) (S.part (p := .cur n) h2 (by lia) (by simp; lia) ?_)
  rw [List.append_assoc]
  exact h _ ⟨i, _, rfl, h3', IsPts.one (p := .cur n) h2⟩
 | cat n l r il ir =>
  intro v W F hn hz h
  refine cutP fun G up => ?_
  obtain ⟨t, i, c, h1, h2, t', y, z, h3, h4, h5⟩ := hn
  refine up ?_
  simp only [Tr.sz.k1, Tr.sz.k2, Tr.sz.k3, Tr.sz.k4] at hz
  refine S.node (by lia) (by lia) h1 ?_
  rw [show W ++ [c, i] = (W ++ [c]) ++ [i] by simp]
  refine S.node (by simp; lia) (by lia) h3 ?_
  rw [show W ++ [c] ++ [z, y] = (W ++ [c] ++ [z]) ++ [y] by simp]
  refine il h4 (by simp; lia) fun vs hv => ?_
  have l1 := hv.len
  have l2 := pts_len l
  refine ir h5 (by simp; lia) fun us hu => ?_
  have l3 := hu.len
  have l4 := pts_len r
  refine S.part (p := .cur n) h2 (by lia) (by simp; lia) ?_
  rw [List.append_assoc, List.append_assoc]
  have := h _ ((hv.app' hu).app' (IsPts.one (p := .cur n) h2))
  rw [List.append_assoc] at this
  exact this
noncomputable def IsRow (B : Bm) (v : Value) (ps : List Pt) : Prop := (∃ T, IsNode B T v ∧ T.sz ≤ 900 ∧ ps = pts T) ∨ ∃ T t n f, T.sz ≤ 900 ∧ Tup B v [.str "cat" t, n, f] ∧ IsNode B T n ∧ IsPt B .fail f ∧ ps = pts T ++ [.fail]
theorem RowSys.row {B : Bm} {Row : List Value → List Value → Prop} (S : RowSys B (Str.ofString "cat") Row) {v : Value} {ps : List Pt} (hr : IsRow B v ps) (h : ∀ vs, IsPts B ps vs → Row [] vs) : Row [v] [] := by
 rcases hr with ⟨T, hn, hz, rfl⟩ | ⟨T, t, n, f, hz, h1, h2, h3, rfl⟩
 ·exact S.tree T (W := []) (F := []) hn (by simp; lia) fun vs hv => h _ hv
 ·refine S.node (W := []) (F := []) (by simp) (by simp) h1 ?_
  refine S.tree T (W := [f]) (F := []) h2 (by simp; lia) fun vs hv => ?_
  have l1 := hv.len
  have l2 := pts_len T
  exact S.part (W := []) h3 (by simp) (by simp; lia) (h _ (hv.app' (IsPts.one h3)))
theorem IsRow.noAdj {B : Bm} {v : Value} {ps : List Pt} (hr : IsRow B v ps) : SJ.noAdj false ps = true ∧ ps.length ≤ 1000 := by
 rcases hr with ⟨T, hn, hz, rfl⟩ | ⟨T, t, n, f, hz, h1, h2, h3, rfl⟩
 ·have := noAdj_pts T []
  rw [List.append_nil] at this
  exact ⟨this, by have := pts_len T; lia⟩
 ·rw [noAdj_pts]; exact ⟨rfl, by have := pts_len T; simp; lia⟩
theorem row_sys {L : Addr} {env : Env} {Q : Flow → Bm → Vs → Nm → Prop} {fnd wt : Addr} {kind : Str} {tk : Tok} {node : Value} {ns gs : List Str} (hns : ns = [Str.ofString "node", Str.ofString "kind", Str.ofString "found", Str.ofString "waiting", Str.ofString "part"]) (hgs : gs = [Str.ofString "len"])
  (ev : Ev env ns gs [] L) (K : KB w B) (rm : Rm A 0) : RowSys B kind (fun W F => ∀ vp, WL w A ns L (wLoop (nth (dBody (st 23)) 1) env) Q B [some node, some (.str kind tk), some (.ref fnd), some (.ref wt), vp] ((fnd, .lst F) :: (wt, .lst W) :: N)) := by
 subst hns hgs
 refine ⟨?_, ?_⟩
 ·intro W F v k t us hW hF hv hk h vp
  refine cutP fun G4 up4 => ?_
  obtain ⟨va, rfl, hv⟩ := hv
  refine up4 ?_
  refine WL_while ?_
  refine W_tCompare ?_
  k_extra "go"
  refine W_lenLst (Rd.n (by k_extra "mem")) (by simp; lia) fun u => ?_
  k_extra "go"
  refine ite_t (by simp) ?_
  refine W_cons ?_
  k_extra "go"
  k_extra "pop"
  ·k_extra "sz"
  k_extra "go"
  refine ite_f hk ?_
  k_extra "go"
  k_extra "append"
  ·k_extra "sz"
  refine ⟨fun _ z => (nomatch z), ?_⟩
  k_extra "go"
  exact h _
 ·intro W F v t y z hW hF hv h vp
  refine cutP fun G5 up5 => ?_
  obtain ⟨va, rfl, hv⟩ := hv
  refine up5 ?_
  refine WL_while ?_
  refine W_tCompare ?_
  k_extra "go"
  refine W_lenLst (Rd.n (by k_extra "mem")) (by simp; lia) fun u => ?_
  k_extra "go"
  refine ite_t (by simp) ?_
  refine W_cons ?_
  k_extra "go"
  k_extra "pop"
  ·k_extra "sz"
  k_extra "go"
  refine ite_t (by simp) ?_
  k_extra "go"
  refine ⟨by k_extra "sz", fun l => ?_⟩
  k_extra "go"
  k_extra "extend"
  ·rw [sizeLine_eq]; simp; lia
  refine ⟨fun _ z => (nomatch z), ?_⟩
  k_extra "go"
  refine WL_less (List.sublist_cons_self _ _) ?_
  exact h _
inductive R_row_of (B : Bm) (N : Nm) (ps : List Pt) (v : Value) (B' : Bm) (N' : Nm) : Prop
 | mk : ∀ l vs, v = .ref l → IsPts B ps vs → B = B' → N' = (l, .lst vs) :: N → R_row_of B N ps v B' N'
theorem s_row_of {node : Value} {tk : Tok} {ps : List Pt} (K : KB w B) (rm : Rm A 1) (hr : IsRow B node ps) :
  Wc w A (.call (.ref 23) ⟨[node, .str "cat" tk], []⟩) (R_row_of B N ps) B N := by
 refine Wc_drop ?_
 refine c_row_of K rm ?_
 intro L env A' ev rm' hg
 refine W_cons ?_
 k_extra "as2"
 k_extra "go"
 refine ⟨by k_extra "sz", fun fnd => ?_⟩
 k_extra "go"
 refine ⟨by k_extra "sz", fun wt => ?_⟩
 k_extra "goW"
 refine W_consW (WL_perm (List.Perm.swap _ _ _) ?_)
 refine (row_sys (N := N) rfl rfl ev K (rm'.le (by decide))).row hr (fun vs hv vp => ?_) none
 refine WL_while ?_
 refine W_tCompare ?_
 k_extra "go"
 refine W_lenLst (Rd.n (by k_extra "mem")) (by decide) fun u => ?_
 k_extra "go"
 k_extra "tf"
 refine W_nil ?_
 refine W_cons ?_
 k_extra "go"
 exact ⟨_, List.Sublist.cons_cons _ (List.sublist_cons_self _ _), fnd, vs, rfl, hv, rfl, rfl⟩
noncomputable abbrev R_row_of_alt (B : Bm) (N : Nm) (y : Value) (z : Value) (l : Tr) : Value → Bm → Nm → Prop := fun v B' N' => ∃ l, v = .ref l ∧ B = B' ∧ N' = (l, .lst [y, z]) :: N
theorem s_row_of_alt {node y z : Value} {t tk : Tok} {l r : Tr} (K : KB w B) (rm : Rm A 1) (hr : Tup B node [.str "alt" t, y, z]) (hl : IsNode B l y) (hr' : IsNode B r z) :
  Wc w A (.call (.ref 23) ⟨[node, .str "alt" tk], []⟩) (R_row_of_alt B N y z l) B N := by
 refine Wc_drop ?_
 refine c_row_of K rm ?_
 intro L env A' ev rm' hg
 refine W_cons ?_
 k_extra "as2"
 k_extra "go"
 refine ⟨by k_extra "sz", fun fnd => ?_⟩
 k_extra "go"
 refine ⟨by k_extra "sz", fun wt => ?_⟩
 k_extra "goW"
 refine W_consW (WL_perm (List.Perm.swap _ _ _) ?_)
 have S := fun Q => row_sys (A := A') (Q := Q) (fnd := fnd) (wt := wt) (kind := "alt") (tk := tk) (node := node) (N := N) rfl rfl ev K (rm'.le (by decide))
 obtain ⟨t1, h1⟩ := hl.first
 obtain ⟨t2, h2⟩ := hr'.first
 obtain ⟨us1, h1⟩ := h1
 obtain ⟨us2, h2⟩ := h2
 refine (S _).node (W := []) (F := []) (by simp) (by simp) hr ((S _).leaf (W := [z]) (F := []) (by simp) (by simp) h1 (by decide) ((S _).leaf (W := []) (F := [y]) (by simp) (by simp) h2 (by decide) ?_)) none
 intro vp
 refine WL_while ?_
 refine W_tCompare ?_
 k_extra "go"
 refine W_lenLst (Rd.n (by k_extra "mem")) (by decide) fun u => ?_
 k_extra "go"
 k_extra "tf"
 refine W_nil ?_
 refine W_cons ?_
 k_extra "go"
 exact ⟨_, List.Sublist.cons_cons _ (List.sublist_cons_self _ _), fnd, rfl, rfl, rfl⟩
end
end
section
section
variable {w : World} {A : Around} {B : Bm} {N : Nm} {d : Nat}
noncomputable def LastNo (B : Bm) (F : List Value) : Prop := F = [] ∨ ∃ F' v p, F = F' ++ [v] ∧ IsPt B p v ∧ p.isC = false
noncomputable def fTarget : Stmt → Expr | .For t _ _ _ _ => t | _ => .Constant .none 0 ⟨0, 0, 0, 0⟩
noncomputable def fBody : Stmt → List Stmt | .For _ _ b _ _ => b | _ => []
noncomputable def fElse : Stmt → List Stmt | .For _ _ _ e _ => e | _ => []
noncomputable def fLoop (s : Stmt) (it : Value) (env : Env) : Code := .forLoop (fTarget s) it (fBody s) (fElse s) env
theorem keep_of {p : Pt} (h : p.isC = false) : p.keep = true := by
 cases p with
 | lf l => cases l <;> first | rfl | cases h
 | _ => rfl
theorem join_loop {L : Addr} {env : Env} {Q : Flow → Bm → Vs → Nm → Prop} {ns gs : List Str} (hns : ns = [Str.ofString "parts", Str.ofString "found", Str.ofString "part"]) (hgs : gs = [Str.ofString "is_plain_text", Str.ofString "len"])
  (ev : Ev env ns gs [] L) (K : KB w B) (rm : Rm A 1) {l it fnd : Addr} {vs : List Value} (hl : vs.length ≤ 1000) :
  ∀ (ps : List Pt) (us pre F : List Value) (b : Bool) (vp : Option Value), vs = pre ++ us → IsPts B ps us → noAdj b ps = true → (b = false → LastNo B F) → F.length ≤ pre.length →
   (∀ us' vp, IsPts B (ps.filter Pt.keep) us' → W w A ns L (execs [] env) Q B [some (.ref l), some (.ref fnd), vp] ((fnd, .lst (F ++ us')) :: (l, .lst vs) :: N)) →
   WL w A ns L (fLoop (nth (dBody (st 25)) 1) (.ref it) env) Q B [some (.ref l), some (.ref fnd), vp] ((it, .itr (.lst l vs) pre.length) :: (fnd, .lst F) :: (l, .lst vs) :: N) := by
 subst hns hgs
 intro ps
 induction ps with
 | nil =>
  intro us pre F b vp e hp hn hF hlen h
  cases hp
  refine WL_for ?_
  refine W_nextEnd (k := .lst l vs) (i := pre.length) rm.2.2 Dl.here (show Rd _ _ l (.lst vs) from Rd.n (by k_extra "mem")) (by subst e; simp [Itk.item]) ?_
  have := h [] vp rfl
  rw [List.append_nil] at this
  exact this
 | cons p ps ih =>
  intro us pre F b vp e hp hn hF hlen h
  refine cutP fun G1 up1 => ?_
  obtain ⟨v, us, rfl, hv, hp⟩ := hp
  refine up1 ?_
  simp only [noAdj.k2, Bool.and_eq_true, Bool.not_eq_true'] at hn
  have hpl : pre.length + 1 + us.length ≤ 1000 := by
   have := hl; rw [e] at this; simp at this; lia
  have e' : vs = (pre ++ [v]) ++ us := by rw [e]; simp
  have el : (pre ++ [v]).length = pre.length + 1 := by simp
  refine WL_for ?_
  refine W_nextItem (k := .lst l vs) (i := pre.length) (f := fun _ => v) Up.here (show Rd _ _ l (.lst vs) from Rd.n (by k_extra "mem")) (by subst e; simp [Itk.item]) fun _ => ?_
  refine cutP fun G2 up2 => ?_
  obtain ⟨va, t, xs, rfl, ha, hc⟩ := hv.head
  refine up2 ?_
  k_extra "1"
  refine W_cons ?_
  k_extra "go"
  refine W_codeK (s_is_plain_text K rm hv) fun G3 up3 => ?_
  rintro v B' N' - ⟨rfl, rfl, rfl⟩
  refine up3 _ _ _ ?_
  k_extra "go"
  refine ite_b (fun hC => ?_) fun hC => ?_
  ·refine cutP fun G4 up4 => ?_
   obtain ⟨y, u, rfl, rfl⟩ := hc hC
   refine up4 ?_
   k_extra "go"
   have hb : b = false := by have := hn.1; rw [hC] at this; simpa using this
   refine ite_b (fun hy => ?_) fun hy => ?_
   ·k_extra "go"
    have := ih us (pre ++ [.ref va]) F true (some (.ref va)) e' hp (by rw [← hC]; exact hn.2) (fun z => by cases z) (by lia) (fun us' vp' hu => h us' vp' (by
     rw [List.filter_cons_of_neg (by simp only [Pt.keep]; rw [show (y == ("" : Str)) = true from hy]; decide)]; exact hu))
    rw [el] at this
    exact this
   ·k_extra "go"
    refine W_lenLst (Rd.n (by k_extra "mem")) (by lia) fun u => ?_
    k_extra "go"
    have fin : ∀ vp, WL w A _ L (fLoop (nth (dBody (st 25)) 1) (.ref it) env) Q B [some (.ref l), some (.ref fnd), vp] ((it, .itr (.lst l vs) (pre.length + 1)) :: (fnd, .lst (F ++ [.ref va])) :: (l, .lst vs) :: N) := fun vp => by
     have := ih us (pre ++ [.ref va]) (F ++ [.ref va]) true vp e' hp (by rw [← hC]; exact hn.2) (fun z => by cases z) (by simp; lia) (fun us' vp' hu => by
      have := h (.ref va :: us') vp' (by
       rw [List.filter_cons_of_pos (by simp only [Pt.keep]; rw [show (y == ("" : Str)) = false from hy]; decide)]; exact ⟨_, _, rfl, hv, hu⟩)
      rw [List.append_assoc]; exact this)
     rw [el] at this
     exact this
    rcases hF hb with rfl | ⟨F', v', p', rfl, hv', hp'⟩
    ·k_extra "tf"
     k_extra "tf"
     k_extra "go"
     k_extra "append"
     ·k_extra "sz"
     refine ⟨fun _ z => (nomatch z), ?_⟩
     k_extra "go"
     exact fin _
    ·refine ite_t (by simp) ?_
     k_extra "go"
     refine W_lenLst (Rd.n (by k_extra "mem")) (by lia) fun u => ?_
     k_extra "go"
     have e3 : ((F' ++ [v']).length : Int) - 1 = (F'.length : Int) := by simp
     rw [e3]
     refine W_item_lst (v := v') (Rd.n (by k_extra "mem")) (by lia) (by simp at hlen; lia) (by simp) ?_
     k_extra "go"
     refine W_codeK (s_is_plain_text K rm hv') fun G5 up5 => ?_
     rintro v B2 N2 - ⟨rfl, rfl, rfl⟩
     refine up5 _ _ _ ?_
     k_extra "go"
     refine ite_f hp' ?_
     k_extra "tf"
     k_extra "go"
     k_extra "append"
     ·k_extra "sz"
     refine ⟨fun _ z => (nomatch z), ?_⟩
     k_extra "go"
     exact fin _
  ·k_extra "go"
   k_extra "append"
   ·k_extra "sz"
   refine ⟨fun _ z => (nomatch z), ?_⟩
   k_extra "go"
   have := ih us (pre ++ [.ref va]) (F ++ [.ref va]) false (some (.ref va)) e' hp (by rw [← hC]; exact hn.2) (fun _ => .inr ⟨F, _, p, rfl, hv, hC⟩) (by simp; lia) (fun us' vp' hu => by
    have := h (.ref va :: us') vp' (by
     rw [List.filter_cons_of_pos (keep_of hC)]; exact ⟨_, _, rfl, hv, hu⟩)
    rw [List.append_assoc]; exact this)
   rw [el] at this
   exact this
inductive R_joined (B : Bm) (N : Nm) (ps : List Pt) (v : Value) (B' : Bm) (N' : Nm) : Prop
 | mk : ∀ l' us, v = .ref l' → IsPts B (ps.filter Pt.keep) us → B = B' → N' = (l', .lst us) :: N → R_joined B N ps v B' N'
theorem s_joined {l : Addr} {vs : List Value} {ps : List Pt} (K : KB w B) (rm : Rm A 2) (hp : IsPts B ps vs) (hn : noAdj false ps = true) (hl : ps.length ≤ 1000) :
  Wc w A (.call (.ref 37) ⟨[.ref l], []⟩) (R_joined B N ps) B ((l, .lst vs) :: N) := by
 refine Wc_drop ?_
 refine c_with_texts_joined K rm ?_
 intro L env A' ev rm' hg
 refine W_cons ?_
 k_extra "go"
 refine ⟨by k_extra "sz", fun fnd => ?_⟩
 k_extra "goF"
 refine W_consF ?_
 refine W_For ?_
 k_extra "go"
 refine W_iterLst (Rd.n (by k_extra "mem")) fun it => ?_
 refine join_loop (N := N) rfl rfl ev K rm' (by rw [hp.len]; exact hl) ps vs [] [] false none rfl hp hn (fun _ => .inl rfl) (Nat.le_refl _) fun us vp hu => ?_
 refine W_nil ?_
 refine W_cons ?_
 k_extra "go"
 exact ⟨_, List.Sublist.cons_cons _ (List.sublist_cons_self _ _), fnd, us, rfl, hu, rfl, rfl⟩
end
end
section
structure CoOk (B : Bm) (sf od : Addr) : Prop where
 mk' ::
 is : ∃ sd, B sf = some (.inst 94 sd) ∧ B sd = some (.att cNs [some (.ref od)])
theorem CoOk.mono {B B' : Bm} {sf od : Addr} (h : CoOk B sf od) (le : leB B B') : CoOk B' sf od := let ⟨sd, h1, h2⟩ := h.is; ⟨sd, le _ _ h1, le _ _ h2⟩
section
variable {w : World} {A : Around} {B : Bm} {N : Nm} {d : Nat}
noncomputable abbrev R_emit (B : Bm) (N : Nm) (od : Addr) (v : Value) (O : List Value) : Value → Bm → Nm → Prop := fun r B' N' => ∃ t, r = .int O.length t ∧ B = B' ∧ N' = (od, .lst (O ++ [v])) :: N
theorem s_emit {sf od : Addr} {v : Value} {O : List Value} (K : KB w B) (rm : Rm A 1) (co : CoOk B sf od) (hO : O.length ≤ 10000) :
  Wc w A (.call (.ref 58) ⟨[.ref sf, v], []⟩) (R_emit B N od v O) B ((od, .lst O) :: N) := by
 refine cutP fun G1 up1 => ?_
 obtain ⟨sd, h1, h2⟩ := co.is
 refine up1 ?_
 refine c_PatternCode_emit K rm ?_
 intro L env A' ev rm' hg
 refine W_cons ?_
 k_extra "go"
 k_extra "append"
 ·k_extra "sz"
 refine ⟨fun _ z => (nomatch z), ?_⟩
 k_extra "go"
 refine W_lenLst (Rd.n (by k_extra "mem")) (by simp; lia) fun u => ?_
 k_extra "go"
 exact ⟨_, by simp; rfl, rfl, rfl⟩
end
end
section
noncomputable def Items (B : Bm) : List Pt → List Value → Prop
 | [], vs => vs = []
 | p :: ps, vs => ∃ i t v vs', vs = i :: vs' ∧ Tup B i [.str "put" t, v] ∧ IsPt B p v ∧ Items B ps vs'
theorem Items.mono {B B' : Bm} (le : leB B B') : ∀ {ps : List Pt} {vs : List Value}, Items B ps vs → Items B' ps vs
 | [], _, h => h
 | p :: ps, _, ⟨i, t, v, vs', e, h1, h2, h3⟩ => ⟨i, t, v, vs', e, h1.mono le, h2.mono le, Items.mono le h3⟩
theorem Items.snoc {B : Bm} {p : Pt} {i v : Value} {t : Tok} (h1 : Tup B i [.str "put" t, v]) (h2 : IsPt B p v) : ∀ {ps : List Pt} {vs : List Value}, Items B ps vs → Items B (ps ++ [p]) (vs ++ [i])
 | [], _, h => by cases h; exact ⟨i, t, v, [], rfl, h1, h2, rfl⟩
 | q :: ps, _, ⟨i', t', v', vs', e, h3, h4, h5⟩ => by subst e; exact ⟨i', t', v', _, rfl, h3, h4, Items.snoc h1 h2 h5⟩
theorem Items.len {B : Bm} : ∀ {ps : List Pt} {vs : List Value}, Items B ps vs → vs.length = ps.length
 | [], _, h => by cases h; rfl
 | q :: ps, _, ⟨i', t', v', vs', e, h3, h4, h5⟩ => by subst e; simp [Items.len h5]
theorem IsPts.get {B : Bm} : ∀ {ps : List Pt} {vs : List Value}, IsPts B ps vs → ∀ (i : Nat), (∀ p, ps[i]? = some p → ∃ v, vs[i]? = some v ∧ IsPt B p v) ∧ (ps[i]? = none → vs[i]? = none)
 | [], _, h, i => by cases h; exact ⟨fun p e => by simp at e, fun _ => by simp⟩
 | p :: ps, _, ⟨v, vs', e, h1, h2⟩, 0 => by subst e; exact ⟨fun q eq => by simp at eq; subst eq; exact ⟨v, rfl, h1⟩, fun e => by simp at e⟩
 | p :: ps, _, ⟨v, vs', e, h1, h2⟩, i + 1 => by subst e; simpa using IsPts.get h2 i
section
variable {w : World} {A : Around} {B : Bm} {N : Nm} {d : Nat}
theorem s_begun_cat {sf od : Addr} {v : Value} {ps : List Pt} (K : KB w B) (rm : Rm A 4) (hr : IsRow B v ps) :
  Wc w A (.call (.ref 70) ⟨[.ref sf, v], []⟩) (fun r B' N' => leB B B' ∧ ∃ l its, r = .ref l ∧ Items B' (ps.filter Pt.keep) its ∧ N' = (l, .lst its) :: N) B N := by
 obtain ⟨a, t, us, rfl, ha⟩ : ∃ a t us, v = .ref a ∧ B a = some (.tup (.str "cat" t :: us)) := by
  rcases hr with ⟨T, hn, _⟩ | ⟨T, t, n, f, _, ⟨a, rfl, ha⟩, _⟩
  ·obtain ⟨t, us, a, rfl, ha⟩ := hn.first; exact ⟨a, t, us, rfl, ha⟩
  ·exact ⟨a, t, _, rfl, ha⟩
 refine Wc_drop ?_
 refine c_PatternCode_begun K rm ?_
 intro L env A' ev rm' hg
 refine W_cons ?_
 k_extra "go"
 k_extra "tf"
 k_extra "go"
 refine W_LC [Str.ofString "part"] [Str.ofString "PUT"] ev (by decide +kernel) ?_
 k_extra "go"
 refine W_codeK (s_row_of K (rm'.le (by decide)) hr) fun G1 up1 => ?_
 rintro v B' N' - ⟨l, vs, rfl, hv, rfl, rfl⟩
 refine up1 _ _ _ ?_
 obtain ⟨hna, hle⟩ := hr.noAdj
 k_extra "go"
 refine W_codeK (s_joined K (rm'.le (by decide)) hv hna hle) fun G2 up2 => ?_
 rintro v B' N' - ⟨l', us, rfl, hu, rfl, rfl⟩
 refine up2 _ _ _ ?_
 refine W_iterLst (Rd.n (by k_extra "mem")) fun it => ?_
 refine ⟨it, _, rfl, by k_extra "mem", fun D C cenv evc => ?_⟩
 have hul : us.length ≤ 1000 := by rw [hu.len]; exact Nat.le_trans (List.length_filter_le _ _) hle
 generalize hpk : ps.filter Pt.keep = pk at hu ⊢
 refine WL_rec (fun (s : (Bm × List Value) × Nat × Option Value) => s.1.1) (fun s => [s.2.2]) (fun s => (D, .lst s.1.2) :: (it, .itr (.lst l' us) s.2.1) :: (l', .lst us) :: N) (fun s => us.length + 1 - s.2.1)
  (fun s => leB B s.1.1 ∧ s.2.1 ≤ pk.length ∧ Items s.1.1 (pk.take s.2.1) s.1.2) ?_ ((B, []), 0, none) ⟨leB.refl _, Nat.zero_le _, rfl⟩
 intro ⟨⟨B2, acc⟩, i, vp⟩ ⟨le, hi', hw⟩ ih
 dsimp only at le hi' hw ih ⊢
 have K := K.mono le
 have hlen := hu.len
 have hacc : acc.length ≤ 1000 := by rw [hw.len, List.length_take]; lia
 refine WL_comp ?_
 cases q : pk[i]? with
 | none =>
  refine W_nextEnd (k := .lst l' us) (i := i) rm'.2.2 (.there .here) (show Rd _ _ l' (.lst us) from Rd.n (by k_extra "mem")) (by simp [Itk.item, (hu.get i).2 q]) ?_
  have hfi : i = pk.length := by
   rcases Nat.lt_or_ge i pk.length with h | h
   ·rw [List.getElem?_eq_getElem h] at q; cases q
   ·lia
  rw [hfi, List.take_length] at hw
  exact ⟨rfl, _, List.Sublist.cons_cons _ (List.sublist_cons_self _ _), le, D, acc, rfl, hw, rfl⟩
 | some p =>
  refine cutP fun G3 up3 => ?_
  obtain ⟨v, hv1, hv2⟩ := (hu.get i).1 p q
  refine up3 ?_
  refine W_nextItem (k := .lst l' us) (i := i) (f := fun _ => v) (.there .here) (show Rd _ _ l' (.lst us) from Rd.n (by k_extra "mem")) (by simp [Itk.item, hv1]) fun _ => ?_
  k_extra "go"
  refine W_forNil ?_
  k_extra "tf"
  have hlt : i < pk.length := (List.getElem?_eq_some_iff.mp q).1
  k_extra "go"
  refine ⟨by k_extra "sz", fun e1 B3 le3 he3 => ?_⟩
  have K := K.mono le3
  k_extra "append"
  ·k_extra "sz"
  refine ih ((B3, acc ++ [.ref e1]), i + 1, some v) (by dsimp only; lia) ⟨le.trans le3, hlt, ?_⟩
  have e2 : pk.take (i + 1) = pk.take i ++ [p] := by rw [List.take_add_one, q]; rfl
  dsimp only
  rw [e2]
  exact Items.snoc ⟨_, rfl, he3⟩ (hv2.mono (le.trans le3)) (hw.mono le3)
theorem kind_single (lf : Lf) : ([Str.ofString "chars", Str.ofString "len", Str.ofString "pos", Str.ofString "rpos", Str.ofString "tab", Str.ofString "rtab", Str.ofString "any", Str.ofString "notany", Str.ofString "span", Str.ofString "break", Str.ofString "rem"].any fun x => x == lf.kind) = lf.single := by cases lf <;> kernel_rfl
theorem s_begun_arb {sf od : Addr} {v : Value} {O : List Value} {lf : Lf} (K : KB w B) (rm : Rm A 2) (co : CoOk B sf od) (hO : O.length ≤ 10000) (hl : IsLf B lf v) (hk : (Pt.lf lf).keep = true) :
  Wc w A (.call (.ref 70) ⟨[.ref sf, v], []⟩) (fun r B' N' => leB B B' ∧ ∃ l os, r = .ref l ∧ IsOds B' (odLf lf) os ∧ N' = (l, .lst []) :: (od, .lst (O ++ os)) :: N) B ((od, .lst O) :: N) := by
 obtain ⟨a, t, us, rfl, ha, hus⟩ : ∃ a t us, v = .ref a ∧ B a = some (.tup (.str lf.kind t :: us)) ∧ (us = [] ∧ (lf = .rem ∨ lf = .arb ∨ lf = .bal) ∨ ∃ u, us = [u] ∧ lf.told u ∧ lf ≠ .arb ∧ lf ≠ .bal) := by
  cases lf with
  | rem => obtain ⟨t, a, rfl, ha⟩ := hl; exact ⟨a, t, _, rfl, ha, .inl ⟨rfl, .inl rfl⟩⟩
  | arb => obtain ⟨t, a, rfl, ha⟩ := hl; exact ⟨a, t, _, rfl, ha, .inl ⟨rfl, .inr (.inl rfl)⟩⟩
  | bal => obtain ⟨t, a, rfl, ha⟩ := hl; exact ⟨a, t, _, rfl, ha, .inl ⟨rfl, .inr (.inr rfl)⟩⟩
  | _ => obtain ⟨t, u, hu, a, rfl, ha⟩ := hl; exact ⟨a, t, _, rfl, ha, .inr ⟨u, rfl, hu, (by intro z; cases z), (by intro z; cases z)⟩⟩
 refine cutP fun G4 up4 => ?_
 obtain ⟨sd, co1, co2⟩ := co.is
 refine up4 ?_
 refine c_PatternCode_begun K rm ?_
 intro L env A' ev rm' hg
 refine W_cons ?_
 k_extra "go"
 refine ite_f (by cases lf <;> rfl) ?_
 k_extra "go"
 refine ite_f (by cases lf <;> rfl) ?_
 k_extra "go"
 refine ite_f (by cases lf <;> rfl) ?_
 k_extra "go"
 refine ite_f (by cases lf <;> rfl) ?_
 k_extra "go"
 refine ite_f (by cases lf <;> rfl) ?_
 k_extra "go"
 k_extra "tf"
 k_extra "go"
 rw [kind_single]
 refine ite_b (fun hs => ?_) fun hs => ?_
 ·k_extra "go"
  refine W_lenTup (Rd.b ha) (by rcases hus with ⟨rfl, _⟩ | ⟨u, rfl, _⟩ <;> simp) fun _ => ?_
  k_extra "go"
  rcases hus with ⟨rfl, h⟩ | ⟨u, rfl, hu, n1, n2⟩
  ·have e : lf = .rem := by rcases h with rfl | rfl | rfl <;> first | rfl | cases hs
   subst e
   k_extra "tf"
   k_extra "go"
   refine ⟨by k_extra "sz", fun e1 B1 le1 he1 => ?_⟩
   have K := K.mono le1
   k_extra "go"
   refine W_codeK (s_emit K rm' (co.mono le1) hO) fun G5 up5 => ?_
   rintro v B' N' - ⟨t, rfl, rfl, rfl⟩
   refine up5 _ _ _ ?_
   refine ⟨fun _ z => (nomatch z), ?_⟩
   k_extra "go"
   refine ⟨by k_extra "sz", fun l => ?_⟩
   exact ⟨le1, l, _, rfl, IsOds.one ⟨_, _, _, ⟨_, rfl, he1⟩, rfl⟩, rfl⟩
  ·k_extra "tf"
   k_extra "go"
   refine ⟨by k_extra "sz", fun e1 B1 le1 he1 => ?_⟩
   have K := K.mono le1
   k_extra "go"
   refine W_codeK (s_emit K rm' (co.mono le1) hO) fun G6 up6 => ?_
   rintro v B' N' - ⟨t, rfl, rfl, rfl⟩
   refine up6 _ _ _ ?_
   refine ⟨fun _ z => (nomatch z), ?_⟩
   k_extra "go"
   refine ⟨by k_extra "sz", fun l => ?_⟩
   refine ⟨le1, l, [.ref e1], rfl, ?_, rfl⟩
   have e : odLf lf = [.one lf] := by
    cases lf with
    | arb => exact absurd rfl n1
    | bal => exact absurd rfl n2
    | chars y =>
     have : (y == "") = false := by simpa [Pt.keep] using hk
     simp [odLf.k3, this]
    | _ => rfl
   rw [e]
   exact IsOds.one ⟨_, _, _, ⟨_, rfl, he1⟩, hu⟩
 ·k_extra "go"
  have e : odLf lf = [.ways lf] := by cases lf <;> first | rfl | cases hs
  refine ite_b (fun _ => ?_) fun hs' => ?_
  ·k_extra "tf"
   k_extra "go"
   refine ⟨by k_extra "sz", fun e1 B1 le1 he1 => ?_⟩
   have K := K.mono le1
   k_extra "go"
   refine W_codeK (s_emit K rm' (co.mono le1) hO) fun G7 up7 => ?_
   rintro v B' N' - ⟨t, rfl, rfl, rfl⟩
   refine up7 _ _ _ ?_
   refine ⟨fun _ z => (nomatch z), ?_⟩
   k_extra "go"
   refine ⟨by k_extra "sz", fun l => ?_⟩
   rw [e]
   exact ⟨le1, l, _, rfl, IsOds.one ⟨_, _, ⟨_, rfl, he1⟩⟩, rfl⟩
  ·k_extra "go"
   have e2 : lf = .bal := by cases lf <;> first | rfl | exact absurd hs' (by decide +kernel) | cases hs
   subst e2
   k_extra "tf"
   k_extra "tf"
   k_extra "go"
   refine ⟨by k_extra "sz", fun e1 B1 le1 he1 => ?_⟩
   have K := K.mono le1
   k_extra "go"
   refine W_codeK (s_emit K rm' (co.mono le1) hO) fun G8 up8 => ?_
   rintro v B' N' - ⟨t, rfl, rfl, rfl⟩
   refine up8 _ _ _ ?_
   refine ⟨fun _ z => (nomatch z), ?_⟩
   k_extra "go"
   refine ⟨by k_extra "sz", fun l => ?_⟩
   exact ⟨le1, l, _, rfl, IsOds.one ⟨_, _, ⟨_, rfl, he1⟩⟩, rfl⟩
end
end
section
section
variable {w : World} {A : Around} {B : Bm} {N : Nm} {d : Nat}
inductive R_begun_cur (B : Bm) (N : Nm) (od : Addr) (O : List Value) (n : Str) (r : Value) (B' : Bm) (N' : Nm) : Prop
 | mk : leB B B' → ∀ l o, r = .ref l → IsOd B' (.place n) o → N' = (l, .lst []) :: (od, .lst (O ++ [o])) :: N → R_begun_cur B N od O n r B' N'
theorem s_begun_cur {sf od : Addr} {v : Value} {O : List Value} {n : Str} (K : KB w B) (rm : Rm A 2) (co : CoOk B sf od) (hO : O.length ≤ 10000) (hl : IsCur B n v) :
  Wc w A (.call (.ref 70) ⟨[.ref sf, v], []⟩) (R_begun_cur B N od O n) B ((od, .lst O) :: N) := by
 refine cutP fun G1 up1 => ?_
 obtain ⟨r, t, hr, a, rfl, ha⟩ := hl
 refine up1 ?_
 refine cutP fun G2 up2 => ?_
 obtain ⟨sd, co1, co2⟩ := co.is
 refine up2 ?_
 refine c_PatternCode_begun K rm ?_
 intro L env A' ev rm' hg
 refine W_cons ?_
 k_extra "run"
 refine ⟨by k_extra "sz", fun e1 B1 le1 he1 => ?_⟩
 have K := K.mono le1
 k_extra "go"
 refine W_codeK (s_emit K rm' (co.mono le1) hO) fun G3 up3 => ?_
 rintro v B' N' - ⟨t, rfl, rfl, rfl⟩
 refine up3 _ _ _ ?_
 refine ⟨fun _ z => (nomatch z), ?_⟩
 k_extra "go"
 refine ⟨by k_extra "sz", fun l => ?_⟩
 exact ⟨le1, l, _, rfl, ⟨_, r, ⟨_, rfl, he1⟩, hr.mono le1⟩, rfl⟩
inductive R_begun_fail (B : Bm) (N : Nm) (od : Addr) (O : List Value) (r : Value) (B' : Bm) (N' : Nm) : Prop
 | mk : leB B B' → ∀ l o, r = .ref l → IsOd B' .fail o → N' = (l, .lst []) :: (od, .lst (O ++ [o])) :: N → R_begun_fail B N od O r B' N'
theorem s_begun_fail {sf od : Addr} {v : Value} {O : List Value} (K : KB w B) (rm : Rm A 2) (co : CoOk B sf od) (hO : O.length ≤ 10000) (hl : IsPt B .fail v) :
  Wc w A (.call (.ref 70) ⟨[.ref sf, v], []⟩) (R_begun_fail B N od O) B ((od, .lst O) :: N) := by
 refine cutP fun G4 up4 => ?_
 obtain ⟨t, a, rfl, ha⟩ := hl
 refine up4 ?_
 refine cutP fun G5 up5 => ?_
 obtain ⟨sd, co1, co2⟩ := co.is
 refine up5 ?_
 refine c_PatternCode_begun K rm ?_
 intro L env A' ev rm' hg
 refine W_cons ?_
 k_extra "run"
 refine ⟨by k_extra "sz", fun e1 B1 le1 he1 => ?_⟩
 have K := K.mono le1
 k_extra "go"
 refine W_codeK (s_emit K rm' (co.mono le1) hO) fun G6 up6 => ?_
 rintro v B' N' - ⟨t, rfl, rfl, rfl⟩
 refine up6 _ _ _ ?_
 refine ⟨fun _ z => (nomatch z), ?_⟩
 k_extra "go"
 refine ⟨by k_extra "sz", fun l => ?_⟩
 exact ⟨le1, l, _, rfl, ⟨_, _, rfl, he1⟩, rfl⟩
end
end
section
section
variable {w : World} {A : Around} {B : Bm} {N : Nm} {d : Nat}
noncomputable abbrev R_choice (B : Bm) (N : Nm) (y : Value) (z : Value) : Value → Bm → Nm → Prop := fun r B' N' => leB B B' ∧ ∃ rl e i i1 i2 i3 i4 i5 t t1 t2 t3 t4 t5, r = .ref rl ∧ Tup B' i1 [.str "open" t1, .ref e] ∧ Tup B' i2 [.str "put" t2, y] ∧ Tup B' i3 [.str "shut" t3, .ref e] ∧ Tup B' i4 [.str "put" t4, z] ∧ Tup B' i5 [.str "meet" t5, .ref e] ∧
   N' = (rl, .lst [i1, i2, i3, i4, i5]) :: (e, .lst [.int (-1) t, .ref i]) :: (i, .lst []) :: N
theorem s_choice {sf : Addr} {y z : Value} {l : Addr} (K : KB w B) (rm : Rm A 1) :
  Wc w A (.call (.ref 77) ⟨[.ref sf, .ref l], []⟩) (R_choice B N y z) B ((l, .lst [y, z]) :: N) := by
 refine Wc_drop ?_
 refine c_PatternCode_choice K rm ?_
 intro L env A' ev rm' hg
 refine W_cons ?_
 k_extra "as2"
 k_extra "go"
 refine ⟨by k_extra "sz", fun fnd => ?_⟩
 k_extra "go"
 refine ⟨by k_extra "sz", fun i => ?_⟩
 k_extra "go"
 rename_i tm
 refine ⟨by k_extra "sz", fun e => ?_⟩
 k_extra "goF"
 refine W_consF ?_
 refine W_For ?_
 refine W_lstSlice ?_
 k_extra "go"
 refine W_lenLst (Rd.n (by k_extra "mem")) (by simp) fun u => ?_
 k_extra "go"
 refine ⟨l, [y, z], none, _, none, rfl, Rd.n (by k_extra "mem"), .none, .int _ _, .none, by decide, by k_extra "sz", fun b => ?_⟩
 rw [show (slicePick [y, z].toArray none (some ((([y, z].length : Nat) : Int) - 1)) none).toList = [y] from by kernel_rfl]
 refine W_iterLst (Rd.n (by k_extra "mem")) fun it => ?_
 refine WL_for ?_
 refine W_nextItem (k := .lst b [y]) (i := 0) (f := fun _ => y) Up.here (show Rd _ _ b (.lst [y]) from Rd.n (by k_extra "mem")) rfl fun _ => ?_
 k_extra "go"
 refine ⟨by k_extra "sz", fun e1 B1 le1 he1 => ?_⟩
 have K := K.mono le1
 k_extra "go"
 refine ⟨by k_extra "sz", fun e2 B2 le2 he2 => ?_⟩
 have K := K.mono le2
 k_extra "go"
 refine ⟨by k_extra "sz", fun e3 B3 le3 he3 => ?_⟩
 have K := K.mono le3
 k_extra "go"
 refine ⟨by k_extra "sz", fun l3 => ?_⟩
 k_extra "go"
 k_extra "extend"
 ·k_extra "sz"
 refine ⟨fun _ z => (nomatch z), ?_⟩
 k_extra "go"
 refine WL_for ?_
 refine W_nextEnd (k := .lst b [y]) (i := 1) rm'.2.2 (.there .here) (show Rd _ _ b (.lst [y]) from Rd.n (by k_extra "mem")) rfl ?_
 refine W_nil ?_
 refine W_cons ?_
 k_extra "go"
 refine W_lenLst (Rd.n (by k_extra "mem")) (by simp) fun u => ?_
 k_extra "go"
 refine W_item_lst (v := z) (Rd.n (by k_extra "mem")) (by simp) (by simp) rfl ?_
 k_extra "go"
 refine ⟨by k_extra "sz", fun e4 B4 le4 he4 => ?_⟩
 have K := K.mono le4
 k_extra "go"
 refine ⟨by k_extra "sz", fun e5 B5 le5 he5 => ?_⟩
 have K := K.mono le5
 k_extra "go"
 refine ⟨by k_extra "sz", fun l5 => ?_⟩
 k_extra "go"
 refine W_addLst (Rd.n (by k_extra "mem")) (Rd.n (by k_extra "mem")) (by k_extra "sz") fun rl => ?_
 refine ⟨(rl, .lst [.ref e1, .ref e2, .ref e3, .ref e4, .ref e5]) :: (e, .lst [.int (-1) tm, .ref i]) :: (i, .lst []) :: N, .cons_cons _ (.cons _ (.cons _ (.cons _ (.cons_cons _ (.cons_cons _ (.cons _ (.cons _ (List.Sublist.refl _)))))))), fun a o h => le5 _ _ (le4 _ _ (le3 _ _ (le2 _ _ (le1 _ _ h)))), rl, e, i, .ref e1, .ref e2, .ref e3, .ref e4, .ref e5, _, _, _, _, _, _, rfl, ⟨_, rfl, le5 _ _ (le4 _ _ (le3 _ _ (le2 _ _ he1)))⟩, ⟨_, rfl, le5 _ _ (le4 _ _ (le3 _ _ he2))⟩, ⟨_, rfl, le5 _ _ (le4 _ _ he3)⟩, ⟨_, rfl, le5 _ _ he4⟩, ⟨_, rfl, he5⟩, rfl⟩
end
end
section
section
variable {w : World} {A : Around} {B : Bm} {N : Nm} {d : Nat}
noncomputable abbrev R_begun_alt (B : Bm) (N : Nm) (y : Value) (z : Value) (t : Tok) : Value → Bm → Nm → Prop := fun r B' N' => leB B B' ∧ ∃ rl e i i1 i2 i3 i4 i5 t t1 t2 t3 t4 t5, r = .ref rl ∧ Tup B' i1 [.str "open" t1, .ref e] ∧ Tup B' i2 [.str "put" t2, y] ∧ Tup B' i3 [.str "shut" t3, .ref e] ∧ Tup B' i4 [.str "put" t4, z] ∧ Tup B' i5 [.str "meet" t5, .ref e] ∧
   N' = (rl, .lst [i1, i2, i3, i4, i5]) :: (e, .lst [.int (-1) t, .ref i]) :: (i, .lst []) :: N
theorem s_begun_alt {sf od : Addr} {v y z : Value} {t : Tok} {l r : Tr} (K : KB w B) (rm : Rm A 2) (co : CoOk B sf od) (hv : Tup B v [.str "alt" t, y, z]) (hl : IsNode B l y) (hr : IsNode B r z) :
  Wc w A (.call (.ref 70) ⟨[.ref sf, v], []⟩) (R_begun_alt B N y z t) B N := by
 refine cutP fun G1 up1 => ?_
 obtain ⟨a, rfl, ha⟩ := hv
 refine up1 ?_
 refine cutP fun G2 up2 => ?_
 obtain ⟨sd, co1, co2⟩ := co.is
 refine up2 ?_
 refine c_PatternCode_begun K rm ?_
 intro L env A' ev rm' hg
 refine W_cons ?_
 k_extra "run"
 refine W_codeK (s_row_of_alt K rm' ⟨_, rfl, ha⟩ hl hr) fun G3 up3 => ?_
 rintro v B' N' - ⟨l, rfl, rfl, rfl⟩
 refine up3 _ _ _ ?_
 k_extra "go"
 exact W_code (s_choice K rm') fun v B' N' _ q => q
noncomputable abbrev R_repeat (B : Bm) (N : Nm) (od : Addr) (y : Value) (O : List Value) : Value → Bm → Nm → Prop := fun r B' N' => leB B B' ∧ ∃ rl e i i1 i2 i3 i4 o1 o2 og oj t t' t1 t2 t3 t4, r = .ref rl ∧ Tup B' i1 [.str "put" t1, y] ∧ Tup B' i2 [.str "emit" t2, og] ∧ Tup B' i3 [.str "emit" t3, oj] ∧ Tup B' i4 [.str "meet" t4, .ref e] ∧
   IsOd B' (.split (O.length + 2)) o1 ∧ IsOd B' .mark o2 ∧ IsOd B' .gain og ∧ IsOd B' (.jump O.length) oj ∧
   N' = (rl, .lst [i1, i2, i3, i4]) :: (e, .lst [.int O.length t, .ref i]) :: (i, .lst [.int ((O.length + 1 : Nat) : Int) t']) :: (od, .lst (O ++ [o1, .none, o2])) :: N
theorem s_repeat {sf od : Addr} {y : Value} {O : List Value} (K : KB w B) (rm : Rm A 2) (co : CoOk B sf od) (hO : O.length ≤ 9000) :
  Wc w A (.call (.ref 84) ⟨[.ref sf, y], []⟩) (R_repeat B N od y O) B ((od, .lst O) :: N) := by
 refine cutP fun G4 up4 => ?_
 obtain ⟨sd, co1, co2⟩ := co.is
 refine up4 ?_
 refine c_PatternCode_repeat K rm ?_
 intro L env A' ev rm' hg
 refine W_cons ?_
 k_extra "go"
 refine W_codeK (s_emit K rm' co (by lia)) fun G5 up5 => ?_
 rintro v Ba N' - ⟨t, rfl, rfl, rfl⟩
 refine up5 _ _ _ ?_
 k_extra "go"
 refine W_codeK (s_emit K rm' co (by simp; lia)) fun G6 up6 => ?_
 rintro v Bb N' - ⟨t', rfl, rfl, rfl⟩
 refine up6 _ _ _ ?_
 k_extra "go"
 refine W_lenLst (Rd.n (by k_extra "mem")) (by simp; lia) fun u => ?_
 k_extra "go"
 refine ⟨by k_extra "sz", fun e1 B1 le1 he1 => ?_⟩
 have K := K.mono le1
 have co := co.mono le1
 have co1 := le1 _ _ co1
 have co2 := le1 _ _ co2
 k_extra "go"
 refine W_setLst Up.here (by lia) (by lia) (by simp; lia) ?_
 k_extra "go"
 refine ⟨by k_extra "sz", fun e2 B2 le2 he2 => ?_⟩
 have K := K.mono le2
 have co := co.mono le2
 have co1 := le2 _ _ co1
 have co2 := le2 _ _ co2
 k_extra "go"
 refine W_codeK (s_emit K rm' co (by simp; lia)) fun G7 up7 => ?_
 rintro v Bc N' - ⟨t3, rfl, rfl, rfl⟩
 refine up7 _ _ _ ?_
 refine ⟨fun _ z => (nomatch z), ?_⟩
 k_extra "go"
 refine ⟨by k_extra "sz", fun e3 B3 le3 he3 => ?_⟩
 have K := K.mono le3
 k_extra "go"
 refine ⟨by k_extra "sz", fun e4 B4 le4 he4 => ?_⟩
 have K := K.mono le4
 k_extra "go"
 refine ⟨by k_extra "sz", fun e5 B5 le5 he5 => ?_⟩
 have K := K.mono le5
 k_extra "go"
 refine ⟨by k_extra "sz", fun e6 B6 le6 he6 => ?_⟩
 have K := K.mono le6
 k_extra "go"
 refine ⟨by k_extra "sz", fun e7 B7 le7 he7 => ?_⟩
 have K := K.mono le7
 k_extra "go"
 refine ⟨by k_extra "sz", fun i => ?_⟩
 k_extra "go"
 refine ⟨by k_extra "sz", fun e => ?_⟩
 k_extra "go"
 refine ⟨by k_extra "sz", fun e8 B8 le8 he8 => ?_⟩
 k_extra "go"
 refine ⟨by k_extra "sz", fun rl => ?_⟩
 have l7 : leB B7 B8 := le8
 have l6 : leB B6 B8 := leB.trans le7 l7
 have l5 : leB B5 B8 := leB.trans le6 l6
 have l4 : leB B4 B8 := leB.trans le5 l5
 have l3 : leB B3 B8 := leB.trans le4 l4
 have l2 : leB B2 B8 := leB.trans le3 l3
 have l1 : leB B1 B8 := leB.trans le2 l2
 have l0 : leB B B8 := leB.trans le1 l1
 have he1 := l1 _ _ he1
 rw [show ((O ++ [Value.none] ++ [Value.none]).length : Int) = ((O.length + 2 : Nat) : Int) by simp] at he1
 refine ⟨l0, rl, e, i, .ref e3, .ref e5, .ref e7, .ref e8, .ref e1, .ref e2, .ref e4, .ref e6, t, t', _, _, _, _, rfl, ⟨_, rfl, l3 _ _ he3⟩, ⟨_, rfl, l5 _ _ he5⟩, ⟨_, rfl, l7 _ _ he7⟩, ⟨_, rfl, he8⟩, ⟨_, _, _, rfl, he1⟩, ⟨_, _, rfl, l2 _ _ he2⟩, ⟨_, _, rfl, l4 _ _ he4⟩, ⟨_, _, _, rfl, l6 _ _ he6⟩, ?_⟩
 simp
noncomputable abbrev R_begun_arbno (B : Bm) (N : Nm) (od : Addr) (y : Value) (t : Tok) (O : List Value) : Value → Bm → Nm → Prop := fun r B' N' => leB B B' ∧ ∃ rl e i i1 i2 i3 i4 o1 o2 og oj t t' t1 t2 t3 t4, r = .ref rl ∧ Tup B' i1 [.str "put" t1, y] ∧ Tup B' i2 [.str "emit" t2, og] ∧ Tup B' i3 [.str "emit" t3, oj] ∧ Tup B' i4 [.str "meet" t4, .ref e] ∧
   IsOd B' (.split (O.length + 2)) o1 ∧ IsOd B' .mark o2 ∧ IsOd B' .gain og ∧ IsOd B' (.jump O.length) oj ∧
   N' = (rl, .lst [i1, i2, i3, i4]) :: (e, .lst [.int O.length t, .ref i]) :: (i, .lst [.int ((O.length + 1 : Nat) : Int) t']) :: (od, .lst (O ++ [o1, .none, o2])) :: N
theorem s_begun_arbno {sf od : Addr} {v y : Value} {t : Tok} {O : List Value} (K : KB w B) (rm : Rm A 3) (co : CoOk B sf od) (hO : O.length ≤ 9000) (hv : Tup B v [.str "arbno" t, y]) :
  Wc w A (.call (.ref 70) ⟨[.ref sf, v], []⟩) (R_begun_arbno B N od y t O) B ((od, .lst O) :: N) := by
 refine cutP fun G8 up8 => ?_
 obtain ⟨a, rfl, ha⟩ := hv
 refine up8 ?_
 refine cutP fun G9 up9 => ?_
 obtain ⟨sd, co1, co2⟩ := co.is
 refine up9 ?_
 refine c_PatternCode_begun K rm ?_
 intro L env A' ev rm' hg
 refine W_cons ?_
 k_extra "run"
 exact W_code (s_repeat K rm' co hO) fun v B' N' _ q => q
end
end
section
structure PutSys (Put : Bm → List Value → List Value → Nm → Prop) : Prop where
 row : ∀ {B W O R it v t ps}, W.length ≤ 5000 → O.length ≤ 5000 → Tup B it [.str "put" t, v] → IsRow B v ps → (∀ B' its, leB B B' → Items B' (ps.filter Pt.keep) its → Put B' (W ++ its.reverse) O R) → Put B (W ++ [it]) O R
 lf : ∀ {B W O R it v t lf}, W.length ≤ 5000 → O.length ≤ 5000 → Tup B it [.str "put" t, v] → IsLf B lf v → (Pt.lf lf).keep = true → (∀ B' os, leB B B' → IsOds B' (odLf lf) os → Put B' W (O ++ os) R) → Put B (W ++ [it]) O R
 cur : ∀ {B W O R it v t n}, W.length ≤ 5000 → O.length ≤ 5000 → Tup B it [.str "put" t, v] → IsCur B n v → (∀ B' o, leB B B' → IsOd B' (.place n) o → Put B' W (O ++ [o]) R) → Put B (W ++ [it]) O R
 fail : ∀ {B W O R it v t}, W.length ≤ 5000 → O.length ≤ 5000 → Tup B it [.str "put" t, v] → IsPt B .fail v → (∀ B' o, leB B B' → IsOd B' .fail o → Put B' W (O ++ [o]) R) → Put B (W ++ [it]) O R
 alt : ∀ {B W O R it v t t' y z l r}, W.length ≤ 5000 → O.length ≤ 5000 → Tup B it [.str "put" t, v] → Tup B v [.str "alt" t', y, z] → IsNode B l y → IsNode B r z →
  (∀ B' e i i1 i2 i3 i4 i5 t t1 t2 t3 t4 t5, leB B B' → Tup B' i1 [.str "open" t1, .ref e] → Tup B' i2 [.str "put" t2, y] → Tup B' i3 [.str "shut" t3, .ref e] → Tup B' i4 [.str "put" t4, z] → Tup B' i5 [.str "meet" t5, .ref e] →
   Put B' (W ++ [i5, i4, i3, i2, i1]) O ((e, .lst [.int (-1) t, .ref i]) :: (i, .lst []) :: R)) → Put B (W ++ [it]) O R
 arb : ∀ {B W O R it v t t' y}, W.length ≤ 5000 → O.length ≤ 5000 → Tup B it [.str "put" t, v] → Tup B v [.str "arbno" t', y] →
  (∀ B' e i i1 i2 i3 i4 o1 o2 og oj t t' t1 t2 t3 t4, leB B B' → Tup B' i1 [.str "put" t1, y] → Tup B' i2 [.str "emit" t2, og] → Tup B' i3 [.str "emit" t3, oj] → Tup B' i4 [.str "meet" t4, .ref e] →
   IsOd B' (.split (O.length + 2)) o1 → IsOd B' .mark o2 → IsOd B' .gain og → IsOd B' (.jump O.length) oj →
   Put B' (W ++ [i4, i3, i2, i1]) (O ++ [o1, .none, o2]) ((e, .lst [.int O.length t, .ref i]) :: (i, .lst [.int ((O.length + 1 : Nat) : Int) t']) :: R)) → Put B (W ++ [it]) O R
 opn : ∀ {B W O R it t t' e i}, W.length ≤ 5000 → O.length ≤ 5000 → Tup B it [.str "open" t, .ref e] → (∀ t', Put B W (O ++ [.none]) ((e, .lst [.int O.length t', .ref i]) :: (i, .lst []) :: R)) → Put B (W ++ [it]) O ((e, .lst [.int (-1) t', .ref i]) :: (i, .lst []) :: R)
 shut : ∀ {B W O R it t t' e i} {k : Nat}, W.length ≤ 5000 → O.length ≤ 5000 → k < O.length → Tup B it [.str "shut" t, .ref e] → (∀ B' t2 v, leB B B' → IsOd B' (.split (O.length + 1)) v → Put B' W ((O ++ [.none]).set k v) ((e, .lst [.int k t', .ref i]) :: (i, .lst [.int O.length t2]) :: R)) → Put B (W ++ [it]) O ((e, .lst [.int k t', .ref i]) :: (i, .lst []) :: R)
 meet : ∀ {B W O R it t e i t'} {x0 : Value} {k : Nat}, W.length ≤ 5000 → O.length ≤ 5000 → k < O.length → Tup B it [.str "meet" t, .ref e] → (∀ B' v, leB B B' → IsOd B' (.jump O.length) v → Put B' W (O.set k v) R) → Put B (W ++ [it]) O ((e, .lst [x0, .ref i]) :: (i, .lst [.int k t']) :: R)
 emit : ∀ {B W O R it t o}, W.length ≤ 5000 → O.length ≤ 5000 → Tup B it [.str "emit" t, o] → Put B W (O ++ [o]) R → Put B (W ++ [it]) O R
noncomputable def wz : Tr → Nat
 | .leaf _ _ => 2
 | .cat _ l r => wz l + wz r + 1
 | .alt _ l r => wz l + wz r + 6
 | .arb _ t => wz t + 5
theorem wz.k2 {z1 l r} : wz (.cat z1 l r) = wz l + wz r + 1 := rfl
theorem wz.k3 {z1 l r} : wz (.alt z1 l r) = wz l + wz r + 6 := rfl
theorem wz.k4 {z1 t} : wz (.arb z1 t) = wz t + 5 := rfl
noncomputable def wzP : Pt → Nat
 | .alt l r => wz l + wz r + 5
 | .arb t => wz t + 4
 | _ => 1
theorem wzP.k1 {l r} : wzP (.alt l r) = wz l + wz r + 5 := rfl
theorem wzP.k2 {t} : wzP (.arb t) = wz t + 4 := rfl
theorem wzP.k3 {q0} : wzP (.lf q0) = 1 := rfl
theorem wzP.k4 {q0} : wzP (.cur q0) = 1 := rfl
theorem wzP.k5 : wzP (.fail) = 1 := rfl
noncomputable def wzs : List Pt → Nat
 | [] => 0
 | p :: ps => wzP p + wzs ps
theorem wzs.k1 : wzs [] = 0 := rfl
theorem wzs.k2 {p ps} : wzs (p :: ps) = wzP p + wzs ps := rfl
theorem wzs_app : ∀ ps qs : List Pt, wzs (ps ++ qs) = wzs ps + wzs qs
 | [], qs => by simp [wzs.k1]
 | p :: ps, qs => by simp [wzs.k2, wzs_app ps, Nat.add_assoc]
theorem wzs_pts : ∀ T : Tr, wzs (pts T) = wz T
 | .leaf n lf => rfl
 | .cat n l r => by simp [pts.k2, wzs_app, wzs_pts l, wzs_pts r, wz.k2, wzs.k1, wzs.k2, wzP.k4, Nat.add_assoc]
 | .alt n l r => by simp [pts.k3, wz.k3, wzs.k1, wzs.k2, wzP.k1, wzP.k4]
 | .arb n t => by simp [pts.k4, wz.k4, wzs.k1, wzs.k2, wzP.k2, wzP.k4]
theorem wzP_pos (p : Pt) : 1 ≤ wzP p := by cases p <;> simp [wzP.k1, wzP.k2, wzP.k3, wzP.k4, wzP.k5]
theorem wzs_len : ∀ ps : List Pt, ps.length ≤ wzs ps
 | [] => Nat.le_refl _
 | p :: ps => by have := wzs_len ps; have := wzP_pos p; simp [wzs.k2]; lia
theorem wzs_filter : ∀ ps : List Pt, wzs (ps.filter Pt.keep) ≤ wzs ps
 | [] => Nat.le_refl _
 | p :: ps => by
  have := wzs_filter ps
  by_cases h : p.keep = true
  ·rw [List.filter_cons_of_pos h]; simp [wzs.k2]; lia
  ·rw [List.filter_cons_of_neg h]; simp [wzs.k2]; lia
section
variable {Put : Bm → List Value → List Value → Nm → Prop}
noncomputable def PtOK (Put : Bm → List Value → List Value → Nm → Prop) (p : Pt) : Prop := ∀ {B : Bm} {W O : List Value} {R : Nm} {it v : Value} {t : Tok}, Tup B it [.str "put" t, v] → IsPt B p v → p.keep = true → W.length + wzP p ≤ 5000 → O.length + (pcode p O.length).length ≤ 5000 →
 (∀ B' cs, leB B B' → IsOds B' (pcode p O.length) cs → Put B' W (O ++ cs) R) → Put B (W ++ [it]) O R
theorem parts_put : ∀ (ps : List Pt) {B : Bm} {W O : List Value} {R : Nm} {its : List Value}, (∀ p ∈ ps, PtOK Put p) → (∀ p ∈ ps, p.keep = true) → Items B ps its → W.length + wzs ps ≤ 5000 → O.length + (pcodes ps O.length).length ≤ 5000 →
  (∀ B' cs, leB B B' → IsOds B' (pcodes ps O.length) cs → Put B' W (O ++ cs) R) → Put B (W ++ its.reverse) O R
 | [], B, W, O, R, its, _, _, hi, _, _, h => by
  cases hi
  have := h B [] (leB.refl _) rfl
  simpa using this
 | p :: ps, B, W, O, R, its, ho, hk, ⟨i, t, v, vs', e, h1, h2, h3⟩, hW, hO, h => by
  subst e
  simp only [wzs.k2, pcodes.k2, List.length_append] at hW hO
  have hl := h3.len
  have hl2 := wzs_len ps
  rw [List.reverse_cons, ← List.append_assoc]
  refine ho p (.head _) h1 h2 (hk p (.head _)) (by simp <;> lia) (by lia) fun B' cs le hc => ?_
  have hcl := hc.len
  refine parts_put ps (fun p hp => ho p (.tail _ hp)) (fun p hp => hk p (.tail _ hp)) (h3.mono le) (by lia) (by rw [List.length_append, hcl]; lia) fun B2 cs2 le2 hc2 => ?_
  rw [List.length_append, hcl] at hc2
  rw [List.append_assoc]
  exact h B2 _ (le.trans le2) (IsOds.app hc2 (hc.mono le2))
theorem node_put (S : PutSys Put) {T : Tr} (ho : ∀ p ∈ pts T, PtOK Put p) (hz : T.sz ≤ 900) {B : Bm} {W O : List Value} {R : Nm} {it v : Value} {t : Tok} (h1 : Tup B it [.str "put" t, v]) (h2 : IsNode B T v) (hW : W.length + wz T ≤ 5000) (hO : O.length + lenT T ≤ 5000)
  (h : ∀ B' cs, leB B B' → IsOds B' (code T O.length) cs → Put B' W (O ++ cs) R) : Put B (W ++ [it]) O R := by
 refine S.row (by lia) (by lia) h1 (.inl ⟨T, h2, hz, rfl⟩) fun B' its le hi => ?_
 have e := pcodes_pts T [] O.length
 rw [List.append_nil, show pcodes [] (O.length + lenT T) = [] from rfl, List.append_nil] at e
 refine parts_put _ (fun p hp => ho p ((List.mem_filter.mp hp).1)) (fun p hp => (List.mem_filter.mp hp).2) hi (by have := wzs_filter (pts T); rw [wzs_pts] at this; lia) (by rw [e, code_len]; exact hO) fun B2 cs le2 hc => ?_
 rw [e] at hc
 exact h B2 cs (le.trans le2) hc
theorem alt_ok (S : PutSys Put) {l r : Tr} (hl : ∀ p ∈ pts l, PtOK Put p) (hr : ∀ p ∈ pts r, PtOK Put p) (zl : l.sz ≤ 900) (zr : r.sz ≤ 900) : PtOK Put (.alt l r) := by
 intro B W O R it v t h1 ⟨t', y, z, h2, h3, h4⟩ hk hW hO h
 simp only [wzP.k1, pcode.k2, List.length_append, code_len, List.length_singleton] at hW hO
 refine S.alt (by lia) (by lia) h1 h2 h3 h4 fun B' e i i1 i2 i3 i4 i5 t t1 t2 t3 t4 t5 le g1 g2 g3 g4 g5 => ?_
 rw [show W ++ [i5, i4, i3, i2, i1] = (W ++ [i5, i4, i3, i2]) ++ [i1] by simp]
 refine S.opn (by simp <;> lia) (by lia) g1 fun t' => ?_
 rw [show W ++ [i5, i4, i3, i2] = (W ++ [i5, i4, i3]) ++ [i2] by simp]
 refine node_put S hl zl g2 (h3.mono le) (by simp <;> lia) (by simp <;> lia) fun B2 cl le2 hcl => ?_
 have ll := hcl.len
 rw [code_len] at ll
 rw [show W ++ [i5, i4, i3] = (W ++ [i5, i4]) ++ [i3] by simp]
 refine S.shut (by simp <;> lia) (by simp <;> lia) (by simp <;> lia) (g3.mono le2) fun B3 t2' v1 le3 hv1 => ?_
 rw [show ((O ++ [Value.none] ++ cl ++ [Value.none]).set O.length v1) = O ++ [v1] ++ cl ++ [Value.none] by simp]
 rw [show W ++ [i5, i4] = (W ++ [i5]) ++ [i4] by simp]
 have le13 := le2.trans le3
 refine node_put S hr zr (g4.mono le13) ((h4.mono le).mono le13) (by simp <;> lia) (by simp <;> lia) fun B4 cr le4 hcr => ?_
 have lr := hcr.len
 rw [code_len] at lr
 rw [show ((O ++ [Value.none] ++ cl).length : Int) = ((O.length + 1 + cl.length : Nat) : Int) by simp; lia]
 refine S.meet (by lia) (by simp <;> lia) (by simp <;> lia) (g5.mono (le13.trans le4)) fun B5 v2 le5 hv2 => ?_
 rw [show (O ++ [v1] ++ cl ++ [Value.none] ++ cr).set (O.length + 1 + cl.length) v2 = O ++ ([v1] ++ cl ++ [v2] ++ cr) by
  rw [show O ++ [v1] ++ cl ++ [Value.none] ++ cr = (O ++ [v1] ++ cl) ++ Value.none :: cr by simp, set_mid (by simp <;> lia)]; simp]
 refine h B5 _ (le.trans (le13.trans (le4.trans le5))) ?_
 have e1 : (O ++ [Value.none] ++ cl).length + 1 = O.length + 2 + lenT l := by simp; lia
 have e2 : (O ++ [v1] ++ cl ++ [Value.none] ++ cr).length = O.length + 2 + lenT l + lenT r := by simp; lia
 rw [e1] at hv1
 rw [e2] at hv2
 have e3 : (O ++ [Value.none]).length = O.length + 1 := by simp
 rw [e3] at hcl
 have e4 : (O ++ [v1] ++ cl ++ [Value.none]).length = O.length + 2 + lenT l := by simp; lia
 rw [e4] at hcr
 have l45 := le4.trans le5
 exact IsOds.app (hcr.mono le5) (IsOds.app (IsOds.one hv2) (IsOds.app (hcl.mono (le3.trans l45)) (IsOds.one (hv1.mono l45))))
theorem arb_ok (S : PutSys Put) {u : Tr} (hu : ∀ p ∈ pts u, PtOK Put p) (zu : u.sz ≤ 900) : PtOK Put (.arb u) := by
 intro B W O R it v t h1 ⟨t', y, h2, h3⟩ hk hW hO h
 simp only [wzP.k2, pcode.k3, List.length_append, code_len, List.length_cons, List.length_nil] at hW hO
 refine S.arb (by lia) (by lia) h1 h2 fun B' e i i1 i2 i3 i4 o1 o2 og oj t t' t1 t2 t3 t4 le g1 g2 g3 g4 p1 p2 pg pj => ?_
 rw [show W ++ [i4, i3, i2, i1] = (W ++ [i4, i3, i2]) ++ [i1] by simp]
 refine node_put S hu zu g1 (h3.mono le) (by simp <;> lia) (by simp <;> lia) fun B2 cu le2 hcu => ?_
 have lu := hcu.len
 rw [code_len] at lu
 rw [show W ++ [i4, i3, i2] = (W ++ [i4, i3]) ++ [i2] by simp]
 refine S.emit (by simp <;> lia) (by simp <;> lia) (g2.mono le2) ?_
 rw [show W ++ [i4, i3] = (W ++ [i4]) ++ [i3] by simp]
 refine S.emit (by simp <;> lia) (by simp <;> lia) (g3.mono le2) ?_
 refine S.meet (by lia) (by simp <;> lia) (by simp <;> lia) (g4.mono le2) fun B3 v le3 hv => ?_
 rw [show (O ++ [o1, Value.none, o2] ++ cu ++ [og] ++ [oj]).set (O.length + 1) v = O ++ ([o1, v, o2] ++ cu ++ [og, oj]) by
  rw [show O ++ [o1, Value.none, o2] ++ cu ++ [og] ++ [oj] = (O ++ [o1]) ++ Value.none :: ([o2] ++ cu ++ [og, oj]) by simp, set_mid (by simp)]; simp]
 refine h B3 _ (le.trans (le2.trans le3)) ?_
 have e1 : (O ++ [o1, Value.none, o2] ++ cu ++ [og] ++ [oj]).length = O.length + 5 + lenT u := by simp; lia
 rw [e1] at hv
 have e2 : (O ++ [o1, Value.none, o2]).length = O.length + 3 := by simp
 rw [e2] at hcu
 have l23 := le2.trans le3
 exact IsOds.app (qs := [.gain, .jump O.length]) (us := [og, oj]) ⟨og, _, rfl, pg.mono l23, IsOds.one (pj.mono l23)⟩ (IsOds.app (hcu.mono le3) (ps := [.split (O.length + 2), .jump (O.length + 5 + lenT u), .mark]) (vs := [o1, v, o2]) ⟨o1, _, rfl, p1.mono l23, ⟨v, _, rfl, hv, IsOds.one (p2.mono l23)⟩⟩)
theorem lf_ok (S : PutSys Put) (lf : Lf) : PtOK Put (.lf lf) := fun h1 h2 hk hW hO h => S.lf (by simp [wzP.k3] at hW; lia) (by lia) h1 h2 hk h
theorem cur_ok (S : PutSys Put) (n : Str) : PtOK Put (.cur n) := fun h1 h2 hk hW hO h => S.cur (by simp [wzP.k4] at hW; lia) (by lia) h1 h2 fun B' o le ho => h B' [o] le (IsOds.one ho)
theorem fail_ok (S : PutSys Put) : PtOK Put .fail := fun h1 h2 hk hW hO h => S.fail (by simp [wzP.k5] at hW; lia) (by lia) h1 h2 fun B' o le ho => h B' [o] le (IsOds.one ho)
theorem all_ok (S : PutSys Put) : ∀ T : Tr, T.sz ≤ 900 → ∀ p ∈ pts T, PtOK Put p
 | .leaf n lf, hz, p, hp => by
  simp only [pts.k1, pts.k2, pts.k3, pts.k4, List.mem_cons, List.not_mem_nil, or_false] at hp
  rcases hp with rfl | rfl
  ·exact lf_ok S lf
  ·exact cur_ok S n
 | .cat n l r, hz, p, hp => by
  simp only [Tr.sz.k1, Tr.sz.k2, Tr.sz.k3, Tr.sz.k4] at hz
  simp only [pts.k2, List.mem_append, List.mem_singleton] at hp
  rcases hp with (hp | hp) | rfl
  ·exact all_ok S l (by lia) p hp
  ·exact all_ok S r (by lia) p hp
  ·exact cur_ok S n
 | .alt n l r, hz, p, hp => by
  simp only [Tr.sz.k1, Tr.sz.k2, Tr.sz.k3, Tr.sz.k4] at hz
  simp only [pts.k1, pts.k2, pts.k3, pts.k4, List.mem_cons, List.not_mem_nil, or_false] at hp
  rcases hp with rfl | rfl
  ·exact alt_ok S (all_ok S l (by lia)) (all_ok S r (by lia)) (by lia) (by lia)
  ·exact cur_ok S n
 | .arb n t, hz, p, hp => by
  simp only [Tr.sz.k1, Tr.sz.k2, Tr.sz.k3, Tr.sz.k4] at hz
  simp only [pts.k1, pts.k2, pts.k3, pts.k4, List.mem_cons, List.not_mem_nil, or_false] at hp
  rcases hp with rfl | rfl
  ·exact arb_ok S (all_ok S t (by lia)) (by lia)
  ·exact cur_ok S n
theorem whole_put (S : PutSys Put) {T : Tr} (hz : T.sz ≤ 900) {B : Bm} {R : Nm} {it v n f : Value} {t t' : Tok} (h1 : Tup B it [.str "put" t, v]) (h2 : Tup B v [.str "cat" t', n, f]) (h3 : IsNode B T n) (h4 : IsPt B .fail f) (hW : wz T ≤ 4000) (hO : lenT T ≤ 4000)
  (h : ∀ B' cs, leB B B' → IsOds B' (code T 0 ++ [.fail]) cs → Put B' [] cs R) : Put B [it] [] R := by
 refine S.row (W := []) (by simp) (by simp) h1 (.inr ⟨T, t', n, f, hz, h2, h3, h4, rfl⟩) fun B' its le hi => ?_
 have e := pcodes_pts T [.fail] 0
 rw [show (pts T ++ [Pt.fail]).filter Pt.keep = (pts T).filter Pt.keep ++ [Pt.fail] by rw [List.filter_append]; rfl] at hi
 refine parts_put (W := []) (O := []) _ (fun p hp => ?_) (fun p hp => ?_) hi ?_ ?_ fun B2 cs le2 hc => ?_
 ·rcases List.mem_append.mp hp with hp | hp
  ·exact all_ok S T hz p ((List.mem_filter.mp hp).1)
  ·rw [List.mem_singleton.mp hp]; exact fail_ok S
 ·rcases List.mem_append.mp hp with hp | hp
  ·exact (List.mem_filter.mp hp).2
  ·rw [List.mem_singleton.mp hp]; rfl
 ·have := wzs_filter (pts T); rw [wzs_pts] at this; rw [wzs_app]; simp [wzs.k1, wzs.k2, wzP.k5]; lia
 ·rw [show ([] : List Value).length = 0 from rfl, e]; simp [code_len, pcodes.k1, pcodes.k2, pcode.k5]; lia
 ·rw [show ([] : List Value).length = 0 from rfl, e] at hc
  simp only [pcodes.k1, pcodes.k2, pcode.k5, List.append_nil] at hc
  exact h B2 cs (le.trans le2) hc
end
end
section
section
variable {w : World} {A : Around} {B : Bm} {N : Nm} {d : Nat}
noncomputable abbrev R_bound_open (B : Bm) (N : Nm) (od : Addr) (e : Addr) (i : Addr) (O : List Value) : Value → Bm → Nm → Prop := fun r B' N' => B = B' ∧ r = Value.none ∧ ∃ t', N' = (od, .lst (O ++ [.none])) :: (e, .lst [.int O.length t', .ref i]) :: (i, .lst []) :: N
theorem s_bound_open {sf od e i : Addr} {x0 : Value} {O : List Value} {t : Tok} (K : KB w B) (rm : Rm A 2) (co : CoOk B sf od) (hO : O.length ≤ 9000) :
  Wc w A (.call (.ref 91) ⟨[.ref sf, .str "open" t, .ref e], []⟩) (R_bound_open B N od e i O) B ((od, .lst O) :: (e, .lst [x0, .ref i]) :: (i, .lst []) :: N) := by
 refine cutP fun G1 up1 => ?_
 obtain ⟨sd, co1, co2⟩ := co.is
 refine up1 ?_
 refine c_PatternCode_bound K rm ?_
 intro L env A' ev rm' hg
 refine W_cons ?_
 k_extra "run"
 refine W_codeK (s_emit K rm' co (by lia)) fun G2 up2 => ?_
 rintro v Ba N' - ⟨t', rfl, rfl, rfl⟩
 refine up2 _ _ _ ?_
 k_extra "go"
 refine W_setLst (.there .here) (by decide) (by decide) (by simp) ?_
 k_extra "go"
 exact ⟨rfl, rfl, t', rfl⟩
inductive R_bound_shut (B : Bm) (N : Nm) (od : Addr) (e : Addr) (i : Addr) (k : Nat) (O : List Value) (tk : Tok) (r : Value) (B' : Bm) (N' : Nm) : Prop
 | mk : leB B B' → r = Value.none → ∀ t' v, IsOd B' (.split (O.length + 1)) v → N' = (od, .lst ((O ++ [Value.none]).set k v)) :: (e, .lst [.int k tk, .ref i]) :: (i, .lst [.int O.length t']) :: N → R_bound_shut B N od e i k O tk r B' N'
theorem s_bound_shut {sf od e i : Addr} {k : Nat} {O : List Value} {t tk : Tok} (K : KB w B) (rm : Rm A 2) (co : CoOk B sf od) (hO : O.length ≤ 9000) (hk : k < O.length) :
  Wc w A (.call (.ref 91) ⟨[.ref sf, .str "shut" t, .ref e], []⟩) (R_bound_shut B N od e i k O tk) B ((od, .lst O) :: (e, .lst [.int k tk, .ref i]) :: (i, .lst []) :: N) := by
 refine cutP fun G3 up3 => ?_
 obtain ⟨sd, co1, co2⟩ := co.is
 refine up3 ?_
 refine c_PatternCode_bound K rm ?_
 intro L env A' ev rm' hg
 refine W_cons ?_
 k_extra "run"
 refine W_codeK (s_emit K rm' co (by lia)) fun G4 up4 => ?_
 rintro v Ba N' - ⟨t', rfl, rfl, rfl⟩
 refine up4 _ _ _ ?_
 k_extra "go"
 k_extra "append"
 ·k_extra "sz"
 refine ⟨fun _ z => (nomatch z), ?_⟩
 k_extra "go"
 refine W_lenLst (Rd.n (by k_extra "mem")) (by simp; lia) fun u => ?_
 k_extra "go"
 refine ⟨by k_extra "sz", fun e1 B1 le1 he1 => ?_⟩
 have co1 := le1 _ _ co1
 have co2 := le1 _ _ co2
 have K := K.mono le1
 k_extra "go"
 refine W_setLst Up.here (by lia) (by lia) (by simp; lia) ?_
 k_extra "go"
 rw [show ((O ++ [Value.none]).length : Int) = ((O.length + 1 : Nat) : Int) by simp] at he1
 exact ⟨le1, rfl, t', .ref e1, ⟨_, _, _, rfl, he1⟩, rfl⟩
noncomputable abbrev R_bound_meet (B : Bm) (N : Nm) (od : Addr) (k : Nat) (O : List Value) : Value → Bm → Nm → Prop := fun r B' N' => leB B B' ∧ r = Value.none ∧ ∃ v, IsOd B' (.jump O.length) v ∧ N' = (od, .lst (O.set k v)) :: N
theorem s_bound_meet {sf od e i : Addr} {k : Nat} {x0 : Value} {O : List Value} {t tk : Tok} (K : KB w B) (rm : Rm A 2) (co : CoOk B sf od) (hO : O.length ≤ 9000) (hk : k < O.length) :
  Wc w A (.call (.ref 91) ⟨[.ref sf, .str "meet" t, .ref e], []⟩) (R_bound_meet B N od k O) B ((od, .lst O) :: (e, .lst [x0, .ref i]) :: (i, .lst [.int k tk]) :: N) := by
 refine cutP fun G5 up5 => ?_
 obtain ⟨sd, co1, co2⟩ := co.is
 refine up5 ?_
 refine Wc_drop ?_
 refine c_PatternCode_bound K rm ?_
 intro L env A' ev rm' hg
 refine W_cons ?_
 k_extra "run"
 refine W_iterLst (Rd.n (by k_extra "mem")) fun it => ?_
 refine WL_for ?_
 refine W_nextItem (k := .lst i [.int k tk]) (i := 0) (f := fun _ => .int k tk) Up.here (show Rd _ _ i (.lst [.int k tk]) from Rd.n (by k_extra "mem")) rfl fun _ => ?_
 k_extra "go"
 refine W_lenLst (Rd.n (by k_extra "mem")) (by lia) fun u => ?_
 k_extra "go"
 refine ⟨by k_extra "sz", fun e1 B1 le1 he1 => ?_⟩
 have co1 := le1 _ _ co1
 have co2 := le1 _ _ co2
 have K := K.mono le1
 k_extra "go"
 refine W_setLst (.there .here) (by lia) (by lia) (by lia) ?_
 k_extra "go"
 refine WL_for ?_
 refine W_nextEnd (k := .lst i [.int k tk]) (i := 1) rm'.2.2 Dl.here (show Rd _ _ i (.lst [.int k tk]) from Rd.n (by k_extra "mem")) rfl ?_
 k_extra "go"
 exact ⟨(od, .lst (O.set k (.ref e1))) :: N, .cons_cons _ (.cons _ (.cons _ (List.Sublist.refl _))), le1, rfl, .ref e1, ⟨_, _, _, rfl, he1⟩, rfl⟩
noncomputable abbrev pNs : List Str := [Str.ofString "self", Str.ofString "node", Str.ofString "waiting", Str.ofString "word", Str.ofString "told"]
noncomputable abbrev pGs : List Str := [Str.ofString "PUT", Str.ofString "len", Str.ofString "EMIT"]
noncomputable def pLoop (env : Env) : Code := wLoop (nth (dBody (mt 26 2)) 1) env
noncomputable def PPut (w : World) (A : Around) (L : Addr) (env : Env) (Q : Flow → Bm → Vs → Nm → Prop) (sf od wt : Addr) (node : Value) (N : Nm) (B : Bm) (W O : List Value) (R : Nm) : Prop :=
 ∀ vw vt, KB w B → CoOk B sf od → WL w A pNs L (pLoop env) Q B [some (.ref sf), some node, some (.ref wt), vw, vt] ((od, .lst O) :: (wt, .lst W) :: (R ++ N))
theorem p_turn {L : Addr} {env : Env} {Q : Flow → Bm → Vs → Nm → Prop} {sf od wt : Addr} {node : Value} {W O : List Value} {it v : Value} {t : Tok} {vw vt : Option Value} (ev : Ev env pNs pGs [] L) (K : KB w B) (rm : Rm A 4) (co : CoOk B sf od) (hW : W.length ≤ 5000) (hi : Tup B it [.str "put" t, v])
  (hc : Wc w A (.call (.ref 70) ⟨[.ref sf, v], []⟩) (fun r B' N' => ∃ rl its N2, r = .ref rl ∧ leB B B' ∧ its.length ≤ 2000 ∧ N'.Perm ((rl, .lst its) :: (wt, .lst W) :: N2) ∧ ∀ vw vt, KB w B' → WL w A pNs L (pLoop env) Q B' [some (.ref sf), some node, some (.ref wt), vw, vt] ((wt, .lst (W ++ its.reverse)) :: N2)) B ((od, .lst O) :: (wt, .lst W) :: N)) :
  WL w A pNs L (pLoop env) Q B [some (.ref sf), some node, some (.ref wt), vw, vt] ((od, .lst O) :: (wt, .lst (W ++ [it])) :: N) := by
 refine cutP fun G6 up6 => ?_
 obtain ⟨ia, rfl, hi⟩ := hi
 refine up6 ?_
 refine cutP fun G7 up7 => ?_
 obtain ⟨sd, co1, co2⟩ := co.is
 refine up7 ?_
 refine WL_while ?_
 refine W_tCompare ?_
 k_extra "go"
 refine W_lenLst (Rd.n (by k_extra "mem")) (by simp; lia) fun u => ?_
 k_extra "go"
 refine ite_t (by simp) ?_
 refine W_cons ?_
 k_extra "go"
 k_extra "pop"
 ·k_extra "sz"
 k_extra "go"
 k_extra "tf"
 repeat ((fail_if_success with_reducible refine W_lstSlice ?_); k_extra "1")
 refine W_lstSlice ?_
 k_extra "go"
 refine W_code hc ?_
 rintro r B' N' - ⟨rl, its, N2, rfl, le, hl, hp, h⟩
 refine W_perm hp ?_
 k_extra "go"
 refine SlL.rev (Rd.n (by k_extra "mem")) (by k_extra "sz") fun b => ?_
 k_extra "go"
 k_extra "extend"
 ·rw [sizeLine_eq, List.length_reverse]; lia
 refine ⟨fun _ z => (nomatch z), ?_⟩
 k_extra "go"
 refine WL_less (.cons _ (.cons _ (List.Sublist.refl _))) ?_
 exact h _ _ (K.mono le)
theorem b_turn {L : Addr} {env : Env} {Q : Flow → Bm → Vs → Nm → Prop} {sf od wt : Addr} {node : Value} {W O : List Value} {it v : Value} {t : Tok} {word : Str} {vw vt : Option Value} (ev : Ev env pNs pGs [] L) (K : KB w B) (rm : Rm A 4) (co : CoOk B sf od) (hW : W.length ≤ 5000) (hi : Tup B it [.str word t, v])
  (w1 : (word == Str.ofString "put") = false) (w2 : (word == Str.ofString "emit") = false)
  (hc : Wc w A (.call (.ref 91) ⟨[.ref sf, .str word t, v], []⟩) (fun r B' N' => ∃ N2, r = Value.none ∧ leB B B' ∧ N'.Perm N2 ∧ ∀ vw vt, KB w B' → WL w A pNs L (pLoop env) Q B' [some (.ref sf), some node, some (.ref wt), vw, vt] N2) B ((od, .lst O) :: (wt, .lst W) :: N)) :
  WL w A pNs L (pLoop env) Q B [some (.ref sf), some node, some (.ref wt), vw, vt] ((od, .lst O) :: (wt, .lst (W ++ [it])) :: N) := by
 refine cutP fun G8 up8 => ?_
 obtain ⟨ia, rfl, hi⟩ := hi
 refine up8 ?_
 refine cutP fun G9 up9 => ?_
 obtain ⟨sd, co1, co2⟩ := co.is
 refine up9 ?_
 refine WL_while ?_
 refine W_tCompare ?_
 k_extra "go"
 refine W_lenLst (Rd.n (by k_extra "mem")) (by simp; lia) fun u => ?_
 k_extra "go"
 refine ite_t (by simp) ?_
 refine W_cons ?_
 k_extra "go"
 k_extra "pop"
 ·k_extra "sz"
 k_extra "go"
 refine ite_f w1 ?_
 k_extra "go"
 refine ite_f w2 ?_
 k_extra "go"
 refine W_code hc ?_
 rintro r B' N' - ⟨N2, rfl, le, hp, h⟩
 refine ⟨fun _ z => (nomatch z), ?_⟩
 k_extra "go"
 exact WL_perm hp (h _ _ (K.mono le))
theorem e_turn {L : Addr} {env : Env} {Q : Flow → Bm → Vs → Nm → Prop} {sf od wt : Addr} {node : Value} {W O : List Value} {it v : Value} {t : Tok} {vw vt : Option Value} (ev : Ev env pNs pGs [] L) (K : KB w B) (rm : Rm A 4) (co : CoOk B sf od) (hW : W.length ≤ 5000) (hO : O.length ≤ 5000) (hi : Tup B it [.str "emit" t, v])
  (h : ∀ vw vt, WL w A pNs L (pLoop env) Q B [some (.ref sf), some node, some (.ref wt), vw, vt] ((od, .lst (O ++ [v])) :: (wt, .lst W) :: N)) :
  WL w A pNs L (pLoop env) Q B [some (.ref sf), some node, some (.ref wt), vw, vt] ((od, .lst O) :: (wt, .lst (W ++ [it])) :: N) := by
 refine cutP fun G10 up10 => ?_
 obtain ⟨ia, rfl, hi⟩ := hi
 refine up10 ?_
 refine cutP fun G11 up11 => ?_
 obtain ⟨sd, co1, co2⟩ := co.is
 refine up11 ?_
 refine WL_while ?_
 refine W_tCompare ?_
 k_extra "go"
 refine W_lenLst (Rd.n (by k_extra "mem")) (by simp; lia) fun u => ?_
 k_extra "go"
 refine ite_t (by simp) ?_
 refine W_cons ?_
 k_extra "go"
 k_extra "pop"
 ·k_extra "sz"
 k_extra "run"
 refine W_codeK (s_emit K (rm.le (by decide)) co (by lia)) fun G12 up12 => ?_
 rintro r B' N' - ⟨t', rfl, rfl, rfl⟩
 refine up12 _ _ _ ?_
 refine ⟨fun _ z => (nomatch z), ?_⟩
 k_extra "go"
 exact h _ _
end
end
section
noncomputable def tO : Stmt := nth (dBody (st 87)) 1
noncomputable def tI : Stmt := nth (wBody tO) 3
noncomputable def tRest : List Stmt := (wBody tO).drop 4
noncomputable abbrev tNs : List Str := [Str.ofString "node", Str.ofString "subject", Str.ofString "begin", Str.ofString "host", Str.ofString "pile", Str.ofString "way", Str.ofString "chain", Str.ofString "at", Str.ofString "named"]
noncomputable abbrev tGs : List Str := [Str.ofString "len", Str.ofString "LOST", Str.ofString "advanced", Str.ofString "list"]
noncomputable def Evs (B : Bm) : List Evt → List Value → Prop
 | [], vs => vs = []
 | (n, e) :: es, vs => ∃ v t t' vs', vs = v :: vs' ∧ Tup B v [.str n t, .int e t'] ∧ Evs B es vs'
theorem Evs.mono {B B' : Bm} (le : leB B B') : ∀ {es : List Evt} {ls : List Value}, Evs B es ls → Evs B' es ls
 | [], _, h => h
 | (n, e) :: es, _, ⟨v, t, t', vs', h1, h2, h3⟩ => ⟨v, t, t', vs', h1, h2.mono le, Evs.mono le h3⟩
theorem Evs.snoc {B : Bm} {n : Str} {e : Int} {v : Value} {t t' : Tok} (h : Tup B v [.str n t, .int e t']) : ∀ {es : List Evt} {ls : List Value}, Evs B es ls → Evs B (es ++ [(n, e)]) (ls ++ [v])
 | [], _, hl => by cases hl; exact ⟨v, t, t', [], rfl, h, rfl⟩
 | (n, e) :: es, _, ⟨v', u, u', vs', h1, h2, h3⟩ => by subst h1; exact ⟨v', u, u', _, rfl, h2, Evs.snoc h h3⟩
theorem Evs.len {B : Bm} : ∀ {es : List Evt} {ls : List Value}, Evs B es ls → ls.length = es.length
 | [], _, h => by cases h; rfl
 | (n, e) :: es, _, ⟨v', u, u', vs', h1, h2, h3⟩ => by subst h1; simp [Evs.len h3]
noncomputable abbrev HS (hd vd lg : Addr) (lim rf wid : Value) (ts : Tok) (s : Nat) (ls : List Value) (N : Nm) : Nm := HB hd vd lg lim rf wid (.int s ts) ls.length ls N
structure HostOk (B : Bm) (h hd rf : Addr) : Prop where
 inst : B h = some (.inst 589 hd)
 ref : B rf = some (.lst [])
theorem HostOk.mono {B B' : Bm} {h hd rf : Addr} (o : HostOk B h hd rf) (le : leB B B') : HostOk B' h hd rf := ⟨le _ _ o.inst, le _ _ o.ref⟩
section
variable {w : World} {A : Around} {L : Addr} {env : Env}
structure TSt (B0 B : Bm) (h hd rf : Addr) (P ls : List Value) (es : List Evt) (s : Nat) : Prop where
 le : leB B0 B
 K : ∀ w : World, True
 ho : HostOk B h hd rf
 ev : Evs B es ls
 pl : P.length ≤ 3 * s + 3
 el : es.length ≤ s
 sl : s ≤ 99999
noncomputable def TPop (w : World) (A : Around) (L : Addr) (c : Code) (Q : Flow → Bm → Vs → Nm → Prop) (xn xb : Value) (x : Str) (tx tl : Tok) (h pl hd vd lg rf : Addr) (wid : Value) (N : Nm) (B : Bm) (P : List Value) (es : List Evt) (s : Nat) : Prop :=
 ∀ B' ls vw vc va vn ts, KB w B' → TSt B B' h hd rf P ls es s →
  WL w A tNs L c Q B' [some xn, some (.str x tx), some xb, some (.ref h), some (.ref pl), vw, vc, va, vn] ((pl, .lst P) :: HS hd vd lg (.int 99999 tl) (.ref rf) wid ts s ls N)
noncomputable def TRun (w : World) (A : Around) (L : Addr) (c : Code) (Q : Flow → Bm → Vs → Nm → Prop) (xn xb : Value) (x : Str) (tx tl : Tok) (h pl hd vd lg rf : Addr) (wid nm : Value) (N : Nm) (B : Bm) (ch : Value) (a : Int) (P : List Value) (es : List Evt) (s : Nat) : Prop :=
 ∀ B' ls vw ta ts, KB w B' → TSt B B' h hd rf P ls es s →
  WL w A tNs L c Q B' [some xn, some (.str x tx), some xb, some (.ref h), some (.ref pl), vw, some ch, some (.int a ta), some nm] ((pl, .lst P) :: HS hd vd lg (.int 99999 tl) (.ref rf) wid ts s ls N)
theorem turn {B : Bm} {Q QI : Flow → Bm → Vs → Nm → Prop} {xn xb : Value} {x : Str} {tx tl ta ts : Tok} {h pl hd vd lg rf : Addr} {wid nm : Value} {N : Nm} {c : Addr} {a : Int} {P ls : List Value} {s : Nat} {vw : Option Value}
  (ev : Ev env tNs tGs [] L) (K : KB w B) (rm : Rm A 7) (ho : HostOk B h hd rf) (hs : s < 99999)
  (hQ : ∀ B vs N, W w A tNs L (execs tRest env) (Lp (WL w A tNs L (wLoop tO env) Q) Q) B vs N → QI .next B vs N)
  (hc : ∀ ts, Wc w A (.call (.ref 621) ⟨[.ref c, .int a ta, nm, .str x tx, .ref pl, .ref h], []⟩) (fun v B' N' => leB B B' ∧ ((v = .none ∧ ∀ vw, WL w A tNs L (wLoop tO env) Q B' [some xn, some (.str x tx), some xb, some (.ref h), some (.ref pl), vw, some (.ref c), some (.int a ta), some nm] N') ∨
   ∃ c' e t, Tup B' v [c', .int e t, nm] ∧ ∀ vw, WL w A tNs L (wLoop tI env) QI B' [some xn, some (.str x tx), some xb, some (.ref h), some (.ref pl), vw, some c', some (.int e t), some nm] N')) B ((pl, .lst P) :: HS hd vd lg (.int 99999 tl) (.ref rf) wid ts (s + 1) ls N)) :
  WL w A tNs L (wLoop tI env) QI B [some xn, some (.str x tx), some xb, some (.ref h), some (.ref pl), vw, some (.ref c), some (.int a ta), some nm] ((pl, .lst P) :: HS hd vd lg (.int 99999 tl) (.ref rf) wid ts s ls N) := by
 have hi := ho.inst
 refine WL_while ?_
 refine W_tCompare ?_
 k_extra "go"
 k_extra "tf"
 refine W_cons ?_
 k_extra "go"
 refine W_perm (List.Perm.swap _ _ _) (W_codeK (s_step (lim := .none) K (rm.le (by decide)) ho.inst (show ((s : Nat) : Int) < 99999 by lia)) fun G1 up1 => ?_)
 rintro v B' N' - ⟨rfl, rfl, t, rfl⟩
 refine up1 _ _ _ ?_
 refine ⟨fun _ z => (nomatch z), ?_⟩
 refine W_perm (List.Perm.swap _ _ _) ?_
 k_extra "go"
 refine W_code (hc t) ?_
 rintro v B' N' - ⟨le, h | ⟨c', e, te, hv, h⟩⟩
 ·obtain ⟨rfl, h⟩ := h
  have K := K.mono le
  k_extra "go"
  k_extra "tf"
  k_extra "go"
  refine hQ _ _ _ ?_
  refine W_cons ?_
  k_extra "go"
  k_extra "tf"
  k_extra "go"
  exact h _
 ·refine cutP fun G2 up2 => ?_
  obtain ⟨va, rfl, hv⟩ := hv
  refine up2 ?_
  have K := K.mono le
  k_extra "go"
  k_extra "tf"
  k_extra "go"
  refine W_eqTS rm (Rd.b hv) ?_
  k_extra "go"
  k_extra "tf"
  k_extra "go"
  exact h _
theorem TSt.up {B0 B B' : Bm} {h hd rf : Addr} {P ls : List Value} {es : List Evt} {s : Nat} (st : TSt B0 B h hd rf P ls es s) (le : leB B B') {P' : List Value} (hP : P'.length ≤ P.length + 3) (hs : s < 99999) : TSt B' B' h hd rf P' ls es (s + 1) :=
 ⟨leB.refl _, fun _ => trivial, st.ho.mono le, st.ev.mono le, by have := st.pl; lia, by have := st.el; lia, hs⟩
theorem t_sys {Q QI : Flow → Bm → Vs → Nm → Prop} {xn xb : Value} {x : Str} {tx tl : Tok} {h pl hd vd lg rf : Addr} {wid nm : Value} {N : Nm}
  (ev : Ev env tNs tGs [] L) (rm : Rm A 7) (hx : x.length ≤ 2) (hn : handedIn nm = true)
  (hQ : QI = Nx (W w A tNs L (execs tRest env) (Lp (WL w A tNs L (wLoop tO env) Q) Q)) (Lp (WL w A tNs L (wLoop tO env) Q) Q)) :
  TrSys x nm (TPop w A L (wLoop tO env) Q xn xb x tx tl h pl hd vd lg rf wid N) (TRun w A L (wLoop tI env) QI xn xb x tx tl h pl hd vd lg rf wid nm N) := by
 have hQ' : ∀ B vs N, W w A tNs L (execs tRest env) (Lp (WL w A tNs L (wLoop tO env) Q) Q) B vs N → QI .next B vs N := fun B vs N q => by rw [hQ]; exact q
 refine ⟨?_, ?_, ?_, ?_, ?_, ?_, ?_, ?_, ?_, ?_, ?_⟩
 ·intro B B' P es s le hP B1 ls vw vc va vn ts K st
  exact hP B1 ls vw vc va vn ts K ⟨le.trans st.le, st.K, st.ho, st.ev, st.pl, st.el, st.sl⟩
 ·intro B w' c a t P es s hw hR B1 ls vw vc va vn ts K st
  refine cutP fun G3 up3 => ?_
  obtain ⟨wa, rfl, hw⟩ := hw.mono st.le
  refine up3 ?_
  have hpl := st.pl
  have hsl := st.sl
  rw [List.length_append, List.length_singleton] at hpl
  refine WL_while ?_
  refine W_tCompare ?_
  k_extra "go"
  refine W_lenLst (Rd.n (by k_extra "mem")) (by rw [List.length_append, List.length_singleton]; lia) fun u => ?_
  k_extra "go"
  refine ite_t (by simp) ?_
  refine W_cons ?_
  k_extra "go"
  k_extra "pop"
  ·k_extra "sz"
  k_extra "goW"
  k_extra "tf"
  k_extra "goW"
  refine W_consW ?_
  have := hR B1 ls (some (.ref wa)) t ts K ⟨st.le, st.K, st.ho, st.ev, by lia, st.el, st.sl⟩
  rw [hQ] at this
  exact this
 ·intro B ch p rest t y z a P es s hs hc hp hR B1 ls vw ta ts K st
  refine cutP fun G4 up4 => ?_
  obtain ⟨c, rfl, hc1⟩ := hc.mono st.le
  refine up4 ?_
  refine cutP fun G5 up5 => ?_
  obtain ⟨p, rfl, hp1⟩ := hp.mono st.le
  refine up5 ?_
  exact turn ev K rm st.ho hs hQ' fun ts => Wc_mono (s_advanced_cat K (rm.le (by decide)) hc1 hp1 hn) fun v B' N' ⟨le, hN, c', r, h1, h2, h3⟩ => ⟨le, .inr ⟨c', a, _, h1, fun vw => hN ▸ hR B' c' r (st.le.trans le) h2 h3 B' ls vw _ _ (K.mono le) (st.up le (by lia) hs)⟩⟩
 ·intro B ch p rest t y z a P es s hs hc hp hR B1 ls vw ta ts K st
  refine cutP fun G6 up6 => ?_
  obtain ⟨c, rfl, hc1⟩ := hc.mono st.le
  refine up6 ?_
  refine cutP fun G7 up7 => ?_
  obtain ⟨p, rfl, hp1⟩ := hp.mono st.le
  refine up7 ?_
  exact turn ev K rm st.ho hs hQ' fun ts => Wc_mono (s_advanced_alt K (rm.le (by decide)) hc1 hp1 hn (by have := st.pl; lia)) fun v B' N' ⟨le, w', c', c2, hN, h1, h2, h3, h4⟩ => ⟨le, .inr ⟨c2, a, _, h3, fun vw => hN ▸ hR B' w' c' c2 _ (st.le.trans le) h1 h2 h4 B' ls vw _ _ (K.mono le) (st.up le (by simp) hs)⟩⟩
 ·intro B ch p rest t y a P es s hs hc hp hR B1 ls vw ta ts K st
  refine cutP fun G8 up8 => ?_
  obtain ⟨c, rfl, hc1⟩ := hc.mono st.le
  refine up8 ?_
  refine cutP fun G9 up9 => ?_
  obtain ⟨p, rfl, hp1⟩ := hp.mono st.le
  refine up9 ?_
  exact turn ev K rm st.ho hs hQ' fun ts => Wc_mono (s_advanced_arbno K (rm.le (by decide)) hc1 hp1 hn (by have := st.pl; lia)) fun v B' N' ⟨le, w', c', c2, r, tr, hN, h1, h2, h3, h4, h5⟩ => ⟨le, .inr ⟨rest, a, _, h5, fun vw => hN ▸ hR B' w' c' c2 r _ _ _ (st.le.trans le) h1 h2 h3 h4 B' ls vw _ _ (K.mono le) (st.up le (by simp) hs)⟩⟩
 ·intro B ch p rest t a P es s hs hc hp hR B1 ls vw ta ts K st
  refine cutP fun G10 up10 => ?_
  obtain ⟨c, rfl, hc1⟩ := hc.mono st.le
  refine up10 ?_
  refine cutP fun G11 up11 => ?_
  obtain ⟨p, rfl, hp1⟩ := hp.mono st.le
  refine up11 ?_
  exact turn ev K rm st.ho hs hQ' fun ts => Wc_mono (s_advanced_fail K (rm.le (by decide)) hc1 hp1 hn) fun v B' N' ⟨le, hN, hv⟩ => ⟨le, .inl ⟨hv, fun vw => hN ▸ hR B' ls vw _ _ _ _ (K.mono le) (by have := st.up le (P' := P) (by lia) hs; exact ⟨st.le.trans le, this.K, this.ho, this.ev, this.pl, this.el, this.sl⟩)⟩⟩
 ·intro B ch p rest n a P es s hs hc hp hR B1 ls vw ta ts K st
  refine cutP fun G12 up12 => ?_
  obtain ⟨c, rfl, hc1⟩ := hc.mono st.le
  refine up12 ?_
  refine cutP fun G13 up13 => ?_
  obtain ⟨r, t, ⟨rd, kd, ow, tk, hr, hrd⟩, p, rfl, hp1⟩ := hp.mono st.le
  refine up13 ?_
  have hl := st.ev.len
  have he := st.el
  refine turn ev K rm st.ho hs hQ' fun ts => Wc_perm (List.perm_middle (l₁ := [_, _, _])).symm (Wc_mono (s_advanced_cursor K (rm.le (by decide)) hc1 hp1 hn st.ho.inst st.ho.ref hr hrd (by lia) (by lia)) ?_)
  rintro v B' N' hq9
  refine cutP fun G14 up14 => ?_
  obtain ⟨le, e, he, rfl, hv⟩ := hq9
  refine up14 ?_
  refine ⟨_, List.perm_middle (l₁ := [(_, _), (_, _), (_, _)]), le, .inr ⟨rest, a, _, hv, fun vw => ?_⟩⟩
  have := hR B' (st.le.trans le) B' (ls ++ [.ref e]) vw ta ts (K.mono le) ⟨leB.refl _, fun _ => trivial, st.ho.mono le, Evs.snoc ⟨_, rfl, he⟩ (st.ev.mono le), by have := st.pl; lia, by simp; lia, by lia⟩
  unfold HS at this
  rw [List.length_append, List.length_singleton] at this
  exact this
 ·intro B ch p rest t told b t' a P es s hs hc hp hE hR B1 ls vw ta ts K st
  refine cutP fun G15 up15 => ?_
  obtain ⟨c, rfl, hc1⟩ := hc.mono st.le
  refine up15 ?_
  refine cutP fun G16 up16 => ?_
  obtain ⟨p, rfl, hp1⟩ := hp.mono st.le
  refine up16 ?_
  refine turn ev K rm st.ho hs hQ' fun ts => Wc_mono (s_advanced_round K (rm.le (by decide)) hc1 hp1 hn) fun v B' N' ⟨le, hN, hv, hv'⟩ => ⟨le, ?_⟩
  by_cases hab : a = b
  ·exact .inl ⟨hv hab, fun vw => hN ▸ hE hab B' ls vw _ _ _ _ (K.mono le) (by have := st.up le (P' := P) (by lia) hs; exact ⟨st.le.trans le, this.K, this.ho, this.ev, this.pl, this.el, this.sl⟩)⟩
  ·refine cutP fun G17 up17 => ?_
   obtain ⟨c', h1, h2⟩ := hv' hab
   refine up17 ?_
   exact .inr ⟨c', a, _, h1, fun vw => hN ▸ hR hab B' c' (st.le.trans le) h2 B' ls vw _ _ (K.mono le) (st.up le (by lia) hs)⟩
 ·intro B ch p rest lf a P es s hs h0 hc hp h1 hf hE hR B1 ls vw ta ts K st
  refine cutP fun G18 up18 => ?_
  obtain ⟨c, rfl, hc1⟩ := hc.mono st.le
  refine up18 ?_
  have hp := hp.mono st.le
  obtain ⟨p, vs, rfl, hp1, hv⟩ : ∃ p' vs, p = .ref p' ∧ B1 p' = some (.tup vs) ∧ LfN lf vs := by
   cases lf with
   | arb => cases h1
   | bal => cases h1
   | rem => obtain ⟨t, p', e, hp⟩ := hp; exact ⟨p', _, e, hp, ⟨t, rfl⟩, fun h => absurd rfl h⟩
   | _ => obtain ⟨t, u, hu, p', e, hp⟩ := hp; exact ⟨p', _, e, hp, ⟨t, rfl⟩, fun _ => ⟨u, rfl, hu⟩⟩
  obtain ⟨tk, hk⟩ := hv.1
  refine turn ev K rm st.ho hs hQ' fun ts => s_advanced_leaf (t := 0) (K := K) (rm.le (by decide)) hc1 hp1 hk hn fun A' rm' => Wc_mono (s_taken_one K rm' hx h0 h1 hf hp1 hv hn) ?_
  rintro v B' N' ⟨le, rfl, ho⟩
  refine ⟨le, ?_⟩
  unfold One at ho
  cases q : pEnd x a lf with
  | none =>
   rw [q] at ho
   exact .inl ⟨ho, fun vw => hE q B' ls vw _ _ _ _ (K.mono le) (by have := st.up le (P' := P) (by lia) hs; exact ⟨st.le.trans le, this.K, this.ho, this.ev, this.pl, this.el, this.sl⟩)⟩
  | some e =>
   rw [q] at ho
   obtain ⟨t, ht⟩ := ho
   exact .inr ⟨rest, e, t, ht, fun vw => hR e q B' (st.le.trans le) B' ls vw _ _ (K.mono le) (st.up le (by lia) hs)⟩
 ·intro B ch p rest a P es s hs h0 hc hp hR hR' B1 ls vw ta ts K st
  refine cutP fun G19 up19 => ?_
  obtain ⟨c, rfl, hc1⟩ := hc.mono st.le
  refine up19 ?_
  refine cutP fun G20 up20 => ?_
  obtain ⟨tk, p, rfl, hp1⟩ := hp.mono st.le
  refine up20 ?_
  refine turn ev K rm st.ho hs hQ' fun ts => s_advanced_leaf (t := 0) (lf := .arb) (K := K) (rm.le (by decide)) hc1 hp1 rfl hn fun A' rm' => Wc_mono (s_taken_arb K (rm'.le (by decide)) hx hp1 hn (by have := st.pl; lia)) ?_
  rintro v B' N' ⟨le, hv, h⟩
  refine ⟨le, .inr ⟨rest, a, _, hv, fun vw => ?_⟩⟩
  split at h
  ·rename_i hlt
   refine cutP fun G21 up21 => ?_
   obtain ⟨w', c', t2, rfl, hw, hc'⟩ := h
   refine up21 ?_
   exact hR hlt B' w' c' t2 (st.le.trans le) hw hc' B' ls vw _ _ (K.mono le) (st.up le (by simp) hs)
  ·rename_i hlt
   subst h
   exact hR' hlt B' (st.le.trans le) B' ls vw _ _ (K.mono le) (st.up le (by lia) hs)
 ·intro B ch p rest a P es s hs h0 hc hp hE hR B1 ls vw ta ts K st
  refine cutP fun G22 up22 => ?_
  obtain ⟨c, rfl, hc1⟩ := hc.mono st.le
  refine up22 ?_
  refine cutP fun G23 up23 => ?_
  obtain ⟨tk, p, rfl, hp1⟩ := hp.mono st.le
  refine up23 ?_
  have hl := balEs_len x 3 a
  refine turn ev K rm st.ho hs hQ' fun ts => s_advanced_leaf (t := 0) (lf := .bal) (K := K) (rm.le (by decide)) hc1 hp1 rfl hn fun A' rm' => Wc_mono (s_taken_bal K (rm'.le (by decide)) hx h0 hp1 hn (by have := st.pl; lia)) ?_
  rintro v B' N' ⟨le, h⟩
  refine ⟨le, ?_⟩
  cases q : balEs x 3 a with
  | nil =>
   rw [q] at h
   obtain ⟨hv, rfl⟩ := h
   exact .inl ⟨hv, fun vw => hE q B' ls vw _ _ _ _ (K.mono le) (by have := st.up le (P' := P) (by lia) hs; exact ⟨st.le.trans le, this.K, this.ho, this.ev, this.pl, this.el, this.sl⟩)⟩
  | cons e es' =>
   rw [q] at h hl
   refine cutP fun G24 up24 => ?_
   obtain ⟨ws, te, rfl, hw, hv⟩ := h
   refine up24 ?_
   exact .inr ⟨rest, e, te, hv, fun vw => hR e es' q B' ws (st.le.trans le) hw B' ls vw _ _ (K.mono le) (st.up le (by have := hw.len; rw [List.length_reverse] at this; simp at hl ⊢; lia) hs)⟩
end
end
section
section
variable {w : World} {A : Around} {B : Bm} {N : Nm} {d : Nat}
noncomputable def IsWhole (B : Bm) (T : Tr) (v : Value) : Prop := ∃ t n f tf, Tup B v [.str "cat" t, n, f] ∧ IsNode B T n ∧ Tup B f [.str "fail" tf]
theorem IsWhole.mono {B B' : Bm} {T : Tr} {v : Value} (h : IsWhole B T v) (le : leB B B') : IsWhole B' T v := let ⟨t, n, f, tf, h1, h2, h3⟩ := h; ⟨t, n, f, tf, h1.mono le, h2.mono le, h3.mono le⟩
noncomputable def EW (x : Str) (T : Tr) (a : Int) : List Evt := ET x T (fun _ => []) a
noncomputable def CW (x : Str) (T : Tr) (a : Int) : Nat := 1 + CT x T (fun _ => 1) a
theorem t_whole {L : Addr} {env : Env} {Q : Flow → Bm → Vs → Nm → Prop} {xn xb : Value} {x : Str} {tx tl : Tok} {h pl hd vd lg rf : Addr} {wid nm : Value} {N : Nm} {a : Int} {ta ts : Tok} {T : Tr} {es : List Evt} {ls : List Value} {s : Nat} {v3 v1 : Value} {vw vc va vn : Option Value}
  (ev : Ev env tNs tGs [] L) (K : KB w B) (rm : Rm A 7) (hx : x.length ≤ 2) (hT : T.all (Okl x)) (hq : handedIn nm = true) (hn : IsWhole B T xn) (h0 : 0 ≤ a) (h1 : a ≤ x.length) (ho : HostOk B h hd rf) (he : Evs B es ls) (hl : es.length ≤ s) (hs : s + CW x T a ≤ 99999)
  (h3 : Tup B v3 [v1, .int a ta, nm]) (h4 : Tup B v1 [xn, .none]) (fin : TPop w A L (wLoop tO env) Q xn xb x tx tl h pl hd vd lg rf wid N B [] (es ++ EW x T a) (s + CW x T a)) :
  WL w A tNs L (wLoop tO env) Q B [some xn, some (.str x tx), some xb, some (.ref h), some (.ref pl), vw, vc, va, vn] ((pl, .lst [v3]) :: HS hd vd lg (.int 99999 tl) (.ref rf) wid ts s ls N) := by
 have S := t_sys (w := w) (Q := Q) (xn := xn) (xb := xb) (tx := tx) (tl := tl) (h := h) (pl := pl) (hd := hd) (vd := vd) (lg := lg) (rf := rf) (wid := wid) (N := N) ev rm hx hq rfl
 refine cutP fun G1 up1 => ?_
 obtain ⟨t, n, f, tf, h5, h6, h7⟩ := hn
 refine up1 ?_
 unfold CW at hs
 refine S.pop (P := []) (es := es) (s := s) h3 (S.cat (by lia) h4 h5 fun B4 c r le4 hc hr =>
  trial S hx T hT (k := fun _ => []) (kc := fun _ => 1) (h6.mono le4) hc h0 h1 (by lia) (fun e B5 P5 es5 s5 _ _ le5 hs5 hP5 => S.fail (show s5 < 99999 from hs5) (hr.mono le5) (h7.mono (le4.trans le5)) (by simpa using hP5)) ?_) B ls vw vc va vn ts K ⟨leB.refl _, fun _ => trivial, ho, he, by simp, hl, by lia⟩
 have := S.mono le4 fin
 unfold EW CW at this
 rw [Nat.add_assoc]
 exact this
noncomputable abbrev R_tried (B : Bm) (N : Nm) (x : Str) (tl : Tok) (a : Int) (wid : Value) (hd : Addr) (vd : Addr) (lg : Addr) (rf : Addr) (T : Tr) (es : List Evt) (s : Nat) : Value → Bm → Nm → Prop := fun v B' N' => leB B B' ∧ v = .none ∧ ∃ ls' ts', Evs B' (es ++ EW x T a) ls' ∧ (es ++ EW x T a).length ≤ s + CW x T a ∧ N' = HS hd vd lg (.int 99999 tl) (.ref rf) wid ts' (s + CW x T a) ls' N
theorem s_tried {x : Str} {tx ta tl ts : Tok} {a : Int} {node wid : Value} {h hd vd lg rf : Addr} {T : Tr} {es : List Evt} {ls : List Value} {s : Nat} (K : KB w B) (rm : Rm A 8) (hx : x.length ≤ 2) (hT : T.all (Okl x)) (hn : IsWhole B T node) (h0 : 0 ≤ a) (h1 : a ≤ x.length)
  (ho : HostOk B h hd rf) (he : Evs B es ls) (hl : es.length ≤ s) (hs : s + CW x T a ≤ 99999) :
  Wc w A (.call (.ref 614) ⟨[node, .str x tx, .int a ta, .ref h], []⟩) (R_tried B N x tl a wid hd vd lg rf T es s) B (HS hd vd lg (.int 99999 tl) (.ref rf) wid ts s ls N) := by
 refine Wc_drop ?_
 refine c_tried K rm ?_
 intro L env A' ev rm' hg
 refine W_cons ?_
 k_extra "goW"
 refine ⟨by k_extra "sz", fun e1 B1 le1 he1 => ?_⟩
 k_extra "goW"
 refine ⟨by k_extra "sz", fun e2 B2 le2 he2 => ?_⟩
 k_extra "goW"
 refine ⟨by k_extra "sz", fun e3 B3 le3 he3 => ?_⟩
 k_extra "goW"
 refine ⟨by k_extra "sz", fun pl => ?_⟩
 k_extra "goW"
 have le : leB B B3 := leB.trans le1 (leB.trans le2 le3)
 have K := K.mono le
 have ho := ho.mono le
 refine W_consW ?_
 refine t_whole (nm := .ref e2) (v1 := .ref e1) (vw := none) (vc := none) (va := none) (vn := none) ev K rm' hx hT rfl (hn.mono le) h0 h1 ho (he.mono le) hl hs ⟨_, rfl, he3⟩ ⟨_, rfl, le3 _ _ (le2 _ _ he1)⟩ ?_
 intro B' ls vw vc va vn ts K st
 refine WL_while ?_
 refine W_tCompare ?_
 k_extra "go"
 refine W_lenLst (Rd.n (by k_extra "mem")) (by decide) fun u => ?_
 k_extra "go"
 k_extra "tf"
 refine W_nil ?_
 refine W_cons ?_
 k_extra "go"
 exact ⟨_, List.sublist_cons_self _ _, le.trans st.le, rfl, ls, _, st.ev, st.el, rfl⟩
end
end
section
section
variable {w : World} {A : Around} {B : Bm} {N : Nm} {d : Nat}
noncomputable def EA (x : Str) (T : Tr) : Nat → List Evt
 | 0 => []
 | n + 1 => EA x T n ++ EW x T n
theorem EA.k2 {x : Str} {T : Tr} {n} : EA x T (n + 1) = EA x T n ++ EW x T n := rfl
noncomputable def CA (x : Str) (T : Tr) : Nat → Nat
 | 0 => 0
 | n + 1 => CA x T n + CW x T n
theorem CA_le {x : Str} {T : Tr} : ∀ {n m : Nat}, n ≤ m → CA x T n ≤ CA x T m
 | n, 0, h => by rw [Nat.le_zero.mp h]; exact Nat.le_refl _
 | n, m + 1, h => by
  rcases Nat.lt_or_ge n (m + 1) with q | q
  ·exact Nat.le_trans (CA_le (Nat.le_of_lt_succ q)) (Nat.le_add_right _ _)
  ·rw [Nat.le_antisymm h q]; exact Nat.le_refl _
noncomputable abbrev R_match_at (B : Bm) (N : Nm) (x : Str) (tl : Tok) (a : Int) (wid : Value) (hd : Addr) (vd : Addr) (lg : Addr) (rf : Addr) (T : Tr) (es : List Evt) (s : Nat) : Value → Bm → Nm → Prop := fun v B' N' => leB B B' ∧ v = .none ∧ ∃ ls' ts', Evs B' (es ++ EW x T a) ls' ∧ (es ++ EW x T a).length ≤ s + CW x T a ∧ N' = HS hd vd lg (.int 99999 tl) (.ref rf) wid ts' (s + CW x T a) ls' N
theorem s_match_at {x : Str} {tx ta tl ts : Tok} {a : Int} {node wid : Value} {h hd vd lg rf : Addr} {T : Tr} {es : List Evt} {ls : List Value} {s : Nat} (K : KB w B) (rm : Rm A 9) (hx : x.length ≤ 2) (hT : T.all (Okl x)) (hn : IsWhole B T node) (h0 : 0 ≤ a) (h1 : a ≤ x.length)
  (ho : HostOk B h hd rf) (he : Evs B es ls) (hl : es.length ≤ s) (hs : s + CW x T a ≤ 99999) :
  Wc w A (.call (.ref 607) ⟨[node, .str x tx, .int a ta, .ref h], []⟩) (R_match_at B N x tl a wid hd vd lg rf T es s) B (HS hd vd lg (.int 99999 tl) (.ref rf) wid ts s ls N) := by
 refine c_match_at K rm ?_
 intro L env A' ev rm' hg
 refine W_cons ?_
 k_extra "go"
 refine W_codeK (s_tried K rm' hx hT hn h0 h1 ho he hl hs) fun G1 up1 => ?_
 rintro v B' N' - ⟨le, rfl, q⟩
 refine up1 _ _ _ ?_
 k_extra "run"
 exact ⟨le, rfl, q⟩
inductive R_match_plain (B : Bm) (N : Nm) (x : Str) (tl : Tok) (wid : Value) (hd : Addr) (vd : Addr) (lg : Addr) (rf : Addr) (T : Tr) (v : Value) (B' : Bm) (N' : Nm) : Prop
 | mk : leB B B' → v = .none → ∀ ls' ts', Evs B' (EA x T (x.length + 1)) ls' → N' = HS hd vd lg (.int 99999 tl) (.ref rf) wid ts' (CA x T (x.length + 1)) ls' N → R_match_plain B N x tl wid hd vd lg rf T v B' N'
theorem s_match_plain {x : Str} {tx tl ts : Tok} {node wid : Value} {h hd vd lg rf : Addr} {T : Tr} (K : KB w B) (rm : Rm A 10) (hx : x.length ≤ 2) (hT : T.all (Okl x)) (hn : IsWhole B T node)
  (ho : HostOk B h hd rf) (hs : CA x T (x.length + 1) ≤ 99999) :
  Wc w A (.call (.ref 600) ⟨[node, .str x tx, .bool false, .ref h], []⟩) (R_match_plain B N x tl wid hd vd lg rf T) B (HS hd vd lg (.int 99999 tl) (.ref rf) wid ts 0 [] N) := by
 refine Wc_drop ?_
 refine c_match_plain K rm ?_
 intro L env A' ev rm' hg
 refine W_cons ?_
 k_extra "go"
 k_extra "tf"
 k_extra "go"
 refine W_lenStr (by lia) fun u => ?_
 k_extra "go"
 refine W_range1 fun r u1 u2 => ?_
 k_extra "go"
 refine W_iterRng (Rd.n (by k_extra "mem")) (by decide) (by decide) (by lia) (by lia) fun it => ?_
 refine WL_less (N' := (it, .itr (.rng 0 (x.length + 1)) 0) :: HS hd vd lg (.int 99999 tl) (.ref rf) wid ts 0 [] N) (by
  rw [show ((x.length : Int) + 1 - 0).toNat = x.length + 1 by lia]; k_extra "sls") ?_
 refine WL_rec (fun (s : ((Bm × List Value × Tok) × Nat × Option Value × Option Value)) => s.1.1) (fun s => [some node, some (.str x tx), some (.bool false), some (.ref h), s.2.2.1, s.2.2.2])
  (fun s => (it, .itr (.rng 0 (x.length + 1)) s.2.1) :: HS hd vd lg (.int 99999 tl) (.ref rf) wid s.1.2.2 (CA x T s.2.1) s.1.2.1 N) (fun s => x.length + 2 - s.2.1)
  (fun s => leB B s.1.1 ∧ s.2.1 ≤ x.length + 1 ∧ Evs s.1.1 (EA x T s.2.1) s.1.2.1 ∧ (EA x T s.2.1).length ≤ CA x T s.2.1) ?_ ((B, [], ts), 0, none, none) ⟨leB.refl _, Nat.zero_le _, rfl, Nat.le_refl _⟩
 intro ⟨⟨B2, ls, ts2⟩, i, vb, vf⟩ ⟨le, hi', hev, hel⟩ ih
 dsimp only at le hi' hev hel ih ⊢
 have K := K.mono le
 have ho := ho.mono le
 refine WL_for ?_
 by_cases q : i < x.length + 1
 ·refine W_nextItem (k := .rng 0 (x.length + 1)) (i := i) (f := fun t => .int (0 + i) t) Up.here trivial (by simp [Itk.item, q]) fun t => ?_
  rw [Int.zero_add]
  k_extra "go"
  have hle : CA x T i + CW x T i ≤ CA x T (x.length + 1) := CA_le (x := x) (T := T) (n := i + 1) (by lia)
  refine W_perm (List.perm_middle (l₁ := [(_, _), (_, _), (_, _)])).symm (W_codeK (s_match_at K rm' hx hT (hn.mono le) (by lia) (by lia) ho hev hel (by lia)) fun G2 up2 => ?_)
  rintro v B' N' - ⟨le', rfl, ls', ts', he', hl', rfl⟩
  refine up2 _ _ _ ?_
  have K := K.mono le'
  k_extra "run"
  refine WL_perm (List.perm_middle (l₁ := [(_, _), (_, _), (_, _)])) ?_
  exact ih ((B', ls', ts'), i + 1, _, _) (by dsimp only; lia) ⟨le.trans le', by dsimp only; lia, he', hl'⟩
 ·have e : i = x.length + 1 := by lia
  subst e
  refine W_nextEnd (k := .rng 0 (x.length + 1)) (i := x.length + 1) rm'.2.2 Dl.here trivial (by simp [Itk.item]) ?_
  k_extra "go"
  exact ⟨_, List.Sublist.refl _, le, rfl, ls, _, hev, rfl⟩
end
end
section
theorem perm3 {α : Type} {a b c d : α} {N : List α} : (a :: b :: c :: d :: N).Perm (a :: d :: b :: c :: N) := .cons a ((List.perm_middle (l₁ := [b, c]) (a := d) (l₂ := N)))
section
variable {w : World} {A : Around} {B : Bm} {N : Nm} {d : Nat}
theorem put_sys {L : Addr} {env : Env} {Q : Flow → Bm → Vs → Nm → Prop} {sf od wt : Addr} {node : Value} (ev : Ev env pNs pGs [] L) (rm : Rm A 4) : PutSys (PPut w A L env Q sf od wt node N) := by
 refine ⟨?_, ?_, ?_, ?_, ?_, ?_, ?_, ?_, ?_, ?_⟩
 ·intro B W O R it v t ps hW hO h1 h2 h vw vt K co
  refine p_turn ev K rm co hW h1 (Wc_mono (s_begun_cat (od := od) K rm h2) ?_)
  rintro r B' N' hq9
  refine cutP fun G1 up1 => ?_
  obtain ⟨le, l, its, rfl, hi, rfl⟩ := hq9
  refine up1 ?_
  refine ⟨l, its, (od, .lst O) :: (R ++ N), rfl, le, ?_, .cons _ (.swap _ _ _), fun vw vt K' => WL_perm (.swap _ _ _) (h B' its le hi vw vt K' (co.mono le))⟩
  rw [hi.len]
  have := List.length_filter_le Pt.keep ps
  have := h2.noAdj.2
  lia
 ·intro B W O R it v t lf hW hO h1 h2 hk h vw vt K co
  refine p_turn ev K rm co hW h1 (Wc_mono (s_begun_arb K (rm.le (by decide)) co (by lia) h2 hk) ?_)
  rintro r B' N' hq9
  refine cutP fun G2 up2 => ?_
  obtain ⟨le, l, os, rfl, hi, rfl⟩ := hq9
  refine up2 ?_
  refine ⟨l, [], (od, .lst (O ++ os)) :: (R ++ N), rfl, le, by simp, .cons _ (.swap _ _ _), fun vw vt K' => WL_perm (.swap _ _ _) ?_⟩
  have := h B' os le hi vw vt K' (co.mono le)
  simpa using this
 ·intro B W O R it v t n hW hO h1 h2 h vw vt K co
  refine p_turn ev K rm co hW h1 (Wc_mono (s_begun_cur K (rm.le (by decide)) co (by lia) h2) ?_)
  rintro r B' N' hq9
  refine cutP fun G3 up3 => ?_
  obtain ⟨le, l, o, rfl, hi, rfl⟩ := hq9
  refine up3 ?_
  refine ⟨l, [], (od, .lst (O ++ [o])) :: (R ++ N), rfl, le, by simp, .cons _ (.swap _ _ _), fun vw vt K' => WL_perm (.swap _ _ _) ?_⟩
  have := h B' o le hi vw vt K' (co.mono le)
  simpa using this
 ·intro B W O R it v t hW hO h1 h2 h vw vt K co
  refine p_turn ev K rm co hW h1 (Wc_mono (s_begun_fail K (rm.le (by decide)) co (by lia) h2) ?_)
  rintro r B' N' hq9
  refine cutP fun G4 up4 => ?_
  obtain ⟨le, l, o, rfl, hi, rfl⟩ := hq9
  refine up4 ?_
  refine ⟨l, [], (od, .lst (O ++ [o])) :: (R ++ N), rfl, le, by simp, .cons _ (.swap _ _ _), fun vw vt K' => WL_perm (.swap _ _ _) ?_⟩
  have := h B' o le hi vw vt K' (co.mono le)
  simpa using this
 ·intro B W O R it v t t' y z l r hW hO h1 h2 h3 h4 h vw vt K co
  refine p_turn ev K rm co hW h1 (Wc_mono (s_begun_alt K (rm.le (by decide)) co h2 h3 h4) ?_)
  rintro r B' N' hq9
  refine cutP fun G5 up5 => ?_
  obtain ⟨le, rl, e, i, i1, i2, i3, i4, i5, t, t1, t2, t3, t4, t5, rfl, g1, g2, g3, g4, g5, rfl⟩ := hq9
  refine up5 ?_
  refine ⟨rl, [i1, i2, i3, i4, i5], (od, .lst O) :: (e, .lst [.int (-1) t, .ref i]) :: (i, .lst []) :: (R ++ N), rfl, le, by simp, ?_, fun vw vt K' => WL_perm (.swap _ _ _) (h B' e i i1 i2 i3 i4 i5 t t1 t2 t3 t4 t5 le g1 g2 g3 g4 g5 vw vt K' (co.mono le))⟩
  refine .cons _ ?_
  exact (List.perm_append_comm (l₁ := [(e, _), (i, _)]) (l₂ := [(od, _), (wt, _)]) |>.append_right (R ++ N)).trans (.swap _ _ _)
 ·intro B W O R it v t t' y hW hO h1 h2 h vw vt K co
  refine p_turn ev K rm co hW h1 (Wc_mono (s_begun_arbno K (rm.le (by decide)) co (by lia) h2) ?_)
  rintro r B' N' hq9
  refine cutP fun G6 up6 => ?_
  obtain ⟨le, rl, e, i, i1, i2, i3, i4, o1, o2, og, oj, t, t', t1, t2, t3, t4, rfl, g1, g2, g3, g4, p1, p2, pg, pj, rfl⟩ := hq9
  refine up6 ?_
  refine ⟨rl, [i1, i2, i3, i4], (od, .lst (O ++ [o1, .none, o2])) :: (e, .lst [.int O.length t, .ref i]) :: (i, .lst [.int ((O.length + 1 : Nat) : Int) t']) :: (R ++ N), rfl, le, by simp, ?_, fun vw vt K' => WL_perm (.swap _ _ _) (h B' e i i1 i2 i3 i4 o1 o2 og oj t t' t1 t2 t3 t4 le g1 g2 g3 g4 p1 p2 pg pj vw vt K' (co.mono le))⟩
  refine .cons _ ?_
  exact (List.perm_append_comm (l₁ := [(e, _), (i, _)]) (l₂ := [(od, _), (wt, _)]) |>.append_right (R ++ N)).trans (.swap _ _ _)
 ·intro B W O R it t t' e i hW hO h1 h vw vt K co
  refine b_turn (N := (e, .lst [.int (-1) t', .ref i]) :: (i, .lst []) :: (R ++ N)) ev K rm co hW h1 (by decide) (by decide) ?_
  refine Wc_perm perm3.symm (Wc_mono (s_bound_open (O := O) (N := (wt, .lst W) :: (R ++ N)) K (rm.le (by decide)) co (by lia)) ?_)
  rintro r B' N' hq9
  refine cutP fun G7 up7 => ?_
  obtain ⟨rfl, rfl, t', rfl⟩ := hq9
  refine up7 ?_
  exact ⟨_, perm3, _, rfl, leB.refl _, List.Perm.refl _, fun vw vt K' => h t' vw vt K' co⟩
 ·intro B W O R it t t' e i k hW hO hk h1 h vw vt K co
  refine b_turn (N := (e, .lst [.int k t', .ref i]) :: (i, .lst []) :: (R ++ N)) ev K rm co hW h1 (by decide) (by decide) ?_
  refine Wc_perm perm3.symm (Wc_mono (s_bound_shut (O := O) (N := (wt, .lst W) :: (R ++ N)) K (rm.le (by decide)) co (by lia) hk) ?_)
  rintro r B' N' hq9
  refine cutP fun G8 up8 => ?_
  obtain ⟨le, rfl, t2, v, hv, rfl⟩ := hq9
  refine up8 ?_
  exact ⟨_, perm3, _, rfl, le, List.Perm.refl _, fun vw vt K' => h B' t2 v le hv vw vt K' (co.mono le)⟩
 ·intro B W O R it t e i t' x0 k hW hO hk h1 h vw vt K co
  refine b_turn (N := (e, .lst [x0, .ref i]) :: (i, .lst [.int k t']) :: (R ++ N)) ev K rm co hW h1 (by decide) (by decide) ?_
  refine Wc_perm perm3.symm (Wc_mono (s_bound_meet (O := O) (N := (wt, .lst W) :: (R ++ N)) K (rm.le (by decide)) co (by lia) hk) ?_)
  rintro r B' N' hq9
  refine cutP fun G9 up9 => ?_
  obtain ⟨le, rfl, v, hv, rfl⟩ := hq9
  refine up9 ?_
  exact ⟨_, List.Perm.refl _, _, rfl, le, List.Perm.refl _, fun vw vt K' => h B' v le hv vw vt K' (co.mono le)⟩
 ·intro B W O R it t o hW hO h1 h vw vt K co
  exact e_turn (N := R ++ N) ev K rm co hW hO h1 fun vw vt => h vw vt K co
noncomputable abbrev R_put (B : Bm) (N : Nm) (od : Addr) (T : Tr) : Value → Bm → Nm → Prop := fun r B' N' => leB B B' ∧ r = Value.none ∧ ∃ cs, IsOds B' (code T 0 ++ [.fail]) cs ∧ N' = (od, .lst cs) :: N
theorem s_put {sf od : Addr} {T : Tr} {v : Value} (K : KB w B) (rm : Rm A 5) (co : CoOk B sf od) (hw : IsWhole B T v) (hz : T.sz ≤ 900) (h1 : wz T ≤ 4000) (h2 : lenT T ≤ 4000) :
  Wc w A (.call (.ref 65) ⟨[.ref sf, v], []⟩) (R_put B N od T) B ((od, .lst []) :: N) := by
 refine Wc_drop ?_
 refine c_PatternCode_put K rm ?_
 intro L env A' ev rm' hg
 refine W_cons ?_
 k_extra "go"
 refine ⟨by k_extra "sz", fun e1 B1 le1 he1 => ?_⟩
 have K := K.mono le1
 have co := co.mono le1
 refine cutP fun G10 up10 => ?_
 obtain ⟨t, n, f, tf, g1, g2, g3⟩ := hw.mono le1
 refine up10 ?_
 k_extra "go"
 refine ⟨by k_extra "sz", fun wt => ?_⟩
 k_extra "goW"
 refine W_consW (WL_perm (.swap _ _ _) ?_)
 refine whole_put (put_sys ev rm') (R := []) hz ⟨_, rfl, he1⟩ g1 g2 ⟨_, g3⟩ h1 h2 ?_ none none K co
 intro B2 cs le2 hc vw vt K co
 refine WL_while ?_
 refine W_tCompare ?_
 k_extra "go"
 refine W_lenLst (Rd.n (by k_extra "mem")) (by decide) fun u => ?_
 k_extra "go"
 k_extra "tf"
 refine W_nil ?_
 refine W_nil ?_
 exact ⟨_, .cons_cons _ (.cons _ (List.Sublist.refl _)), leB.trans le1 le2, rfl, cs, hc, rfl⟩
end
end
section
noncomputable def Od.kind : Od → Str
 | .one _ => "one" | .ways _ => "ways" | .place _ => "place" | .fail => "fail" | .split _ => "split" | .jump _ => "jump" | .mark => "mark" | .gain => "gain" | .done => "done"
theorem Od.kind.k2 {z1} : Od.kind (.ways z1) = "ways" := rfl
theorem Od.kind.k4 : Od.kind (.fail) = "fail" := rfl
noncomputable def Od.goal : Od → Option Nat
 | .split g => some g | .jump g => some g | _ => none
theorem Od.goal.k3 {q0} : Od.goal (.one q0) = none := rfl
theorem Od.goal.k4 {q0} : Od.goal (.ways q0) = none := rfl
noncomputable def Od.isJ : Od → Bool | .jump _ => true | _ => false
theorem Od.isJ.k2 {q0} : Od.isJ (.one q0) = false := rfl
theorem Od.isJ.k4 {q0} : Od.isJ (.place q0) = false := rfl
theorem IsOd.head {B : Bm} {o : Od} {v : Value} (h : IsOd B o v) : ∃ a t us, v = .ref a ∧ B a = some (.tup (.str o.kind t :: us)) ∧ (∀ g, o.goal = some g → ∃ t', us = [.int g t']) := by
 cases o with
 | one l => refine cutP fun G up => ?_; obtain ⟨t, t', u, ⟨a, rfl, h⟩, _⟩ := h; exact up (⟨a, t, _, rfl, h, fun g z => by cases z⟩)
 | place n => refine cutP fun G up => ?_; obtain ⟨t, r, ⟨a, rfl, h⟩, _⟩ := h; exact up (⟨a, t, _, rfl, h, fun g z => by cases z⟩)
 | ways l => refine cutP fun G up => ?_; obtain ⟨t, t', a, rfl, h⟩ := h; exact up (⟨a, t, _, rfl, h, fun g z => by cases z⟩)
 | split g => refine cutP fun G up => ?_; obtain ⟨t, t', a, rfl, h⟩ := h; exact up (⟨a, t, _, rfl, h, fun g z => by cases z; exact ⟨t', rfl⟩⟩)
 | jump g => refine cutP fun G up => ?_; obtain ⟨t, t', a, rfl, h⟩ := h; exact up (⟨a, t, _, rfl, h, fun g z => by cases z; exact ⟨t', rfl⟩⟩)
 | fail => refine cutP fun G up => ?_; obtain ⟨t, a, rfl, h⟩ := h; exact up (⟨a, t, _, rfl, h, fun g z => by cases z⟩)
 | mark => refine cutP fun G up => ?_; obtain ⟨t, a, rfl, h⟩ := h; exact up (⟨a, t, _, rfl, h, fun g z => by cases z⟩)
 | gain => refine cutP fun G up => ?_; obtain ⟨t, a, rfl, h⟩ := h; exact up (⟨a, t, _, rfl, h, fun g z => by cases z⟩)
 | done => refine cutP fun G up => ?_; obtain ⟨t, a, rfl, h⟩ := h; exact up (⟨a, t, _, rfl, h, fun g z => by cases z⟩)
theorem kind_jump {o : Od} : (o.kind == Str.ofString "jump") = o.isJ := by cases o <;> rfl
theorem kind_goal {o : Od} : ([Str.ofString "jump", Str.ofString "split"].any (· == o.kind)) = o.goal.isSome := by cases o <;> rfl
noncomputable def AtC (C : List Od) (p : Nat) (cs : List Od) : Prop := ∀ i o, cs[i]? = some o → C[p + i]? = some o
theorem AtC.left {C : List Od} {p : Nat} {xs ys : List Od} (h : AtC C p (xs ++ ys)) : AtC C p xs := fun i o e => h i o (by rw [List.getElem?_append_left (List.getElem?_eq_some_iff.mp e).1]; exact e)
theorem AtC.right {C : List Od} {p q : Nat} {xs ys : List Od} (h : AtC C p (xs ++ ys)) (hq : q = p + xs.length) : AtC C q ys := fun i o e => by
 subst hq
 rw [Nat.add_assoc]
 exact h (xs.length + i) o (by rw [List.getElem?_append_right (Nat.le_add_right _ _), Nat.add_sub_cancel_left]; exact e)
theorem AtC.head {C : List Od} {p : Nat} {o : Od} {xs : List Od} (h : AtC C p (o :: xs)) : C[p]? = some o := h 0 o rfl
theorem AtC.whole (C D : List Od) : AtC (C ++ D) 0 C := fun i o e => by rw [Nat.zero_add, List.getElem?_append_left (List.getElem?_eq_some_iff.mp e).1]; exact e
theorem code_first : ∀ (T : Tr) (p : Nat), ∃ o, (code T p)[0]? = some o ∧ o.isJ = false
 | .leaf n lf, p => by
  cases lf with
  | chars y => by_cases h : (y == "") = true <;> simp [code.k1, odLf.k3, h, Od.isJ.k2, Od.isJ.k4]
  | _ => exact ⟨_, rfl, rfl⟩
 | .cat n l r, p => by
  refine cutP fun G1 up1 => ?_
  obtain ⟨o, h1, h2⟩ := code_first l p
  refine up1 ?_
  refine ⟨o, ?_, h2⟩
  rw [code.k2, List.append_assoc, List.getElem?_append_left (List.getElem?_eq_some_iff.mp h1).1]; exact h1
 | .alt n l r, p => ⟨_, by simp [code.k3]; rfl, rfl⟩
 | .arb n t, p => ⟨_, by simp [code.k4]; rfl, rfl⟩
theorem goals {C : List Od} : ∀ (T : Tr) (p : Nat), AtC C p (code T p) → ∀ o ∈ code T p, ∀ g, o.goal = some g → ∃ o', C[g]? = some o' ∧ o'.isJ = false
 | .leaf n lf, p, h, o, ho, g, hg => by
  exfalso
  simp only [code.k1, code.k2, code.k3, code.k4, List.mem_append, List.mem_singleton] at ho
  rcases ho with ho | rfl
  ·have : ∀ o ∈ odLf lf, o.goal = none := by
    cases lf with
    | chars y => by_cases h : (y == "") = true <;> simp [odLf.k3, h, Od.goal.k3]
    | _ => simp [odLf.k1, odLf.k2, odLf.k4, odLf.k5, odLf.k6, odLf.k7, odLf.k8, odLf.k9, Od.goal.k3, Od.goal.k4]
   rw [this o ho] at hg; cases hg
  ·cases hg
 | .cat n l r, p, h, o, ho, g, hg => by
  simp only [code.k1, code.k2, code.k3, code.k4, List.mem_append, List.mem_singleton] at ho
  simp only [code.k1, code.k2, code.k3, code.k4] at h
  rcases ho with (ho | ho) | rfl
  ·exact goals l p h.left.left o ho g hg
  ·exact goals r _ (h.left.right (by rw [code_len])) o ho g hg
  ·cases hg
 | .alt n l r, p, h, o, ho, g, hg => by
  simp only [code.k1, code.k2, code.k3, code.k4, List.mem_append, List.mem_singleton] at ho
  simp only [code.k1, code.k2, code.k3, code.k4] at h
  have hl := h.left.left.left.right (q := p + 1) rfl
  have hr := h.left.right (q := p + 2 + lenT l) (by simp [code_len]; lia)
  have hp := h.right (q := p + 2 + lenT l + lenT r) (by simp [code_len]; lia)
  rcases ho with (((rfl | ho) | rfl) | ho) | rfl
  ·cases hg
   refine cutP fun G2 up2 => ?_
   obtain ⟨o, h1, h2⟩ := code_first r (p + 2 + lenT l)
   refine up2 ?_
   exact ⟨o, hr 0 o h1, h2⟩
  ·exact goals l _ hl o ho g hg
  ·cases hg
   exact ⟨_, hp 0 _ rfl, rfl⟩
  ·exact goals r _ hr o ho g hg
  ·cases hg
 | .arb n t, p, h, o, ho, g, hg => by
  simp only [code.k4, List.mem_append, List.mem_cons, List.not_mem_nil, or_false] at ho
  simp only [code.k1, code.k2, code.k3, code.k4] at h
  have h3 := h.left.left.left
  have ht := h.left.left.right (q := p + 3) rfl
  have hp := h.right (q := p + 5 + lenT t) (by simp [code_len]; lia)
  rcases ho with (((rfl | rfl | rfl) | ho) | (rfl | rfl)) | rfl
  ·cases hg; exact ⟨_, h3 2 _ rfl, rfl⟩
  ·cases hg; exact ⟨_, hp 0 _ rfl, rfl⟩
  ·cases hg
  ·exact goals t _ ht o ho g hg
  ·cases hg
  ·cases hg; exact ⟨_, h3 0 _ rfl, rfl⟩
  ·cases hg
noncomputable def codeW (T : Tr) : List Od := code T 0 ++ [.fail] ++ [.done]
theorem goalsW (T : Tr) : ∀ o ∈ codeW T, ∀ g, o.goal = some g → ∃ o', (codeW T)[g]? = some o' ∧ o'.isJ = false := fun o ho g hg => by
 have e : codeW T = code T 0 ++ [.fail, .done] := by simp [codeW]
 rw [e] at ho ⊢
 rcases List.mem_append.mp ho with ho | ho
 ·exact goals T 0 (AtC.whole _ _) o ho g hg
 ·simp at ho
  rcases ho with rfl | rfl <;> cases hg
end
section
section
variable {w : World} {A : Around} {B : Bm} {N : Nm} {d : Nat}
noncomputable abbrev R_init_PatternCode (B : Bm) (N : Nm) (x : Addr) (dx : Addr) : Value → Bm → Nm → Prop := fun v B' N' => v = Value.none ∧ B = B' ∧ ∃ od, N' = (od, .lst []) :: (x, .inst 94 dx) :: (dx, .att cNs [some (.ref od)]) :: N
theorem s_init_PatternCode {x dx : Addr} (K : KB w B) (rm : Rm A 1) :
  Wc w A (.call (.ref 51) ⟨[.ref x], []⟩) (R_init_PatternCode B N x dx) B ((x, .inst 94 dx) :: (dx, .att cNs [none]) :: N) := by
 refine c_PatternCode_init K rm ?_
 intro L env A' ev rm' hg
 refine W_cons ?_
 k_extra "go"
 refine ⟨by k_extra "sz", fun od => ?_⟩
 k_extra "go"
 exact ⟨rfl, rfl, od, rfl⟩
inductive R_new_PatternCode (B : Bm) (N : Nm) (v : Value) (B' : Bm) (N' : Nm) : Prop
 | mk : B = B' → ∀ x dx od, v = .ref x → N' = (x, .inst 94 dx) :: (dx, .att cNs [some (.ref od)]) :: (od, .lst []) :: N → R_new_PatternCode B N v B' N'
theorem s_new_PatternCode (K : KB w B) (rm : Rm A 2) :
  Wc w A (.call (.ref 94) ⟨[], []⟩) (R_new_PatternCode B N) B N := by
 refine Wc_make (xs := cNs) K rm (by kernel_rfl) (md_PatternCode_init _) fun x dx A' rm' => ?_
 refine Wc_perm (List.Perm.refl _) (Wc_mono (s_init_PatternCode K rm') ?_)
 rintro v B' N' hq9
 refine cutP fun G1 up1 => ?_
 obtain ⟨rfl, rfl, od, rfl⟩ := hq9
 refine up1 ?_
 exact ⟨_, (List.perm_middle (l₁ := [(x, _), (dx, _)])).symm, rfl, rfl, x, dx, od, rfl, rfl⟩
theorem IsOds.none {B : Bm} {ps : List Od} {vs : List Value} (h : IsOds B ps vs) {i : Nat} (e : ps[i]? = .none) : vs[i]? = .none := by
 rw [List.getElem?_eq_none_iff] at e ⊢; rw [h.len]; exact e
theorem IsOds.snoc {B : Bm} {o : Od} {v : Value} {ps : List Od} {vs : List Value} (h : IsOds B ps vs) (g : IsOd B o v) : IsOds B (ps ++ [o]) (vs ++ [v]) := IsOds.app (IsOds.one g) h
inductive R_straightened (B : Bm) (N : Nm) (C : List Od) (v : Value) (B' : Bm) (N' : Nm) : Prop
 | mk : leB B B' → ∀ l' cs', v = .ref l' → IsOds B' C cs' → N' = (l', .lst cs') :: N → R_straightened B N C v B' N'
theorem s_straightened {l : Addr} {cs : List Value} {C : List Od} (K : KB w B) (rm : Rm A 1) (hc : IsOds B C cs) (hl : C.length ≤ 9000) (hg : ∀ o ∈ C, ∀ g, o.goal = some g → ∃ o', C[g]? = some o' ∧ o'.isJ = false) :
  Wc w A (.call (.ref 105) ⟨[.ref l], []⟩) (R_straightened B N C) B ((l, .lst cs) :: N) := by
 refine Wc_drop ?_
 refine c_straightened K rm ?_
 intro L env A' ev rm' hgu
 refine W_cons ?_
 k_extra "go"
 refine ⟨by k_extra "sz", fun fnd => ?_⟩
 k_extra "go"
 refine W_iterLst (Rd.n (by k_extra "mem")) fun it => ?_
 have hcl := hc.len
 refine WL_rec (fun (s : (Bm × List Value) × Nat × Option Value × Option Value) => s.1.1) (fun s => [some (.ref l), some (.ref fnd), s.2.2.1, s.2.2.2]) (fun s => (it, .itr (.lst l cs) s.2.1) :: (fnd, .lst s.1.2) :: (l, .lst cs) :: N) (fun s => C.length + 1 - s.2.1)
  (fun s => leB B s.1.1 ∧ s.2.1 ≤ C.length ∧ IsOds s.1.1 (C.take s.2.1) s.1.2) ?_ ((B, []), 0, none, none) ⟨leB.refl _, Nat.zero_le _, rfl⟩
 intro ⟨⟨B2, acc⟩, i, vo, vg⟩ ⟨le, hi', hw⟩ ih
 dsimp only at le hi' hw ih ⊢
 have K := K.mono le
 have hc := hc.mono le
 have hacc : acc.length ≤ 9000 := by rw [hw.len, List.length_take]; lia
 refine WL_for ?_
 cases q : C[i]? with
 | none =>
  refine W_nextEnd (k := .lst l cs) (i := i) rm'.2.2 Dl.here (show Rd _ _ l (.lst cs) from Rd.n (by k_extra "mem")) (by simp [Itk.item, hc.none q]) ?_
  have hfi : i = C.length := by
   rcases Nat.lt_or_ge i C.length with h | h
   ·rw [List.getElem?_eq_getElem h] at q; cases q
   ·lia
  rw [hfi, List.take_length] at hw
  k_extra "go"
  exact ⟨_, .cons_cons _ (.cons _ (List.Sublist.refl _)), le, fnd, acc, rfl, hw, rfl⟩
 | some o =>
  refine cutP fun G2 up2 => ?_
  obtain ⟨v, hv1, hv2⟩ := hc.get q
  refine up2 ?_
  refine W_nextItem (k := .lst l cs) (i := i) (f := fun _ => v) Up.here (show Rd _ _ l (.lst cs) from Rd.n (by k_extra "mem")) (by simp [Itk.item, hv1]) fun _ => ?_
  refine cutP fun G3 up3 => ?_
  obtain ⟨va, t, us, rfl, hva, hgo⟩ := hv2.head
  refine up3 ?_
  have hlt : i < C.length := (List.getElem?_eq_some_iff.mp q).1
  have e2 : C.take (i + 1) = C.take i ++ [o] := by rw [List.take_add_one, q]; rfl
  k_extra "go"
  rw [kind_goal]
  refine ite_b (fun hg1 => ?_) fun hg1 => ?_
  ·obtain ⟨g, hg2⟩ := Option.isSome_iff_exists.mp hg1
   obtain ⟨t', rfl⟩ := hgo g hg2
   refine cutP fun G4 up4 => ?_
   obtain ⟨o', ho1, ho2⟩ := hg o (List.mem_of_getElem? q) g hg2
   refine up4 ?_
   refine cutP fun G5 up5 => ?_
   obtain ⟨v', hv3, hv4⟩ := hc.get ho1
   refine up5 ?_
   refine cutP fun G6 up6 => ?_
   obtain ⟨va', t2, us', rfl, hva', _⟩ := hv4.head
   refine up6 ?_
   have hgl : g < C.length := (List.getElem?_eq_some_iff.mp ho1).1
   k_extra "go"
   refine WL_while ?_
   k_extra "go"
   refine W_item_lst (v := .ref va') (Rd.n (by k_extra "mem")) (by lia) (by lia) (by simpa using hv3) ?_
   k_extra "go"
   rw [kind_jump]
   refine ite_f ho2 ?_
   k_extra "go"
   refine ⟨by k_extra "sz", fun e1 B3 le3 he3 => ?_⟩
   have K := K.mono le3
   k_extra "go"
   k_extra "append"
   ·k_extra "sz"
   refine ⟨fun _ z => (nomatch z), ?_⟩
   k_extra "go"
   refine ih ((B3, acc ++ [.ref e1]), i + 1, _, _) (by dsimp only; lia) ⟨le.trans le3, hlt, ?_⟩
   dsimp only
   rw [e2]
   refine (hw.mono le3).snoc ?_
   cases o with
   | split g' => cases hg2; exact ⟨_, _, _, rfl, he3⟩
   | jump g' => cases hg2; exact ⟨_, _, _, rfl, he3⟩
   | _ => cases hg2
  ·k_extra "go"
   k_extra "append"
   ·k_extra "sz"
   refine ⟨fun _ z => (nomatch z), ?_⟩
   k_extra "go"
   refine ih ((B2, acc ++ [.ref va]), i + 1, _, _) (by dsimp only; lia) ⟨le, hlt, ?_⟩
   dsimp only
   rw [e2]
   exact hw.snoc hv2
inductive R_compile (B : Bm) (N : Nm) (T : Tr) (r : Value) (B' : Bm) (N' : Nm) : Prop
 | mk : leB B B' → ∀ l cs, r = .ref l → IsOds B' (codeW T) cs → N' = (l, .lst cs) :: N → R_compile B N T r B' N'
theorem s_compile {T : Tr} {v : Value} (K : KB w B) (rm : Rm A 6) (hw : IsWhole B T v) (hz : T.sz ≤ 900) (h1 : wz T ≤ 4000) (h2 : lenT T ≤ 4000) :
  Wc w A (.call (.ref 112) ⟨[v], []⟩) (R_compile B N T) B N := by
 refine c_compile_pattern K rm ?_
 intro L env A' ev rm' hg
 refine W_cons ?_
 k_extra "go"
 refine W_cwCls0 K (kp_PatternCode _) ?_
 refine W_codeK (s_new_PatternCode K (rm'.le (by decide))) fun G7 up7 => ?_
 rintro v B' N' - ⟨rfl, sf, dx, od, rfl, rfl⟩
 refine up7 _ _ _ ?_
 refine W_frz fun B1 le1 hb1 => ?_
 refine W_frz fun B2 le2 hb2 => ?_
 have le : leB B B2 := leB.trans le1 le2
 have hb1 := le2 _ _ hb1
 have K := K.mono le
 have co : CoOk B2 sf od := ⟨dx, hb1, hb2⟩
 k_extra "go"
 refine W_codeK (s_put K rm' co (hw.mono le) hz h1 h2) fun G8 up8 => ?_
 rintro v B3 N3 - ⟨le3, rfl, cs, hcs, rfl⟩
 refine up8 _ _ _ ?_
 refine ⟨fun _ z => (nomatch z), ?_⟩
 have K := K.mono le3
 have hb1 := le3 _ _ hb1
 have hb2 := le3 _ _ hb2
 k_extra "go"
 refine ⟨by k_extra "sz", fun e1 B4 le4 he4 => ?_⟩
 have K := K.mono le4
 have hb1 := le4 _ _ hb1
 have hb2 := le4 _ _ hb2
 have hl := hcs.len
 rw [List.length_append, code_len, List.length_singleton] at hl
 k_extra "go"
 refine W_codeK (s_emit K (rm'.le (by decide)) ⟨dx, hb1, hb2⟩ (by lia)) fun G9 up9 => ?_
 rintro v B5 N5 - ⟨t, rfl, rfl, rfl⟩
 refine up9 _ _ _ ?_
 refine ⟨fun _ z => (nomatch z), ?_⟩
 k_extra "go"
 have hods : IsOds B4 (codeW T) (cs ++ [.ref e1]) := (hcs.mono le4).snoc ⟨_, _, rfl, he4⟩
 refine W_codeK (s_straightened K (rm'.le (by decide)) hods (by rw [← hods.len, List.length_append, hl]; simp; lia) (goalsW T)) fun G10 up10 => ?_
 rintro v B6 N6 - ⟨le6, l, cs', rfl, hcs', rfl⟩
 refine up10 _ _ _ ?_
 exact ⟨le.trans (leB.trans le3 (leB.trans le4 le6)), l, cs', rfl, hcs', rfl⟩
end
end
section
noncomputable abbrev Hst := Nat × Int × Value
structure MchSys (x : Str) (C : List Od) (Pop : Bm → List Hst → List Evt → Nat → Prop) (Run : Bm → Nat → Int → Value → List Hst → List Evt → Nat → Prop) : Prop where
 mono : ∀ {B B' P es s}, leB B B' → Pop B P es s → Pop B' P es s
 pop : ∀ {B pc a m P es s}, Run B pc a m P es s → Pop B (P ++ [(pc, a, m)]) es s
 one : ∀ {B pc} {a : Int} {m P es} {s : Nat} {lf}, s < 99999 → 0 ≤ a → C[pc]? = some (.one lf) → lf.single = true → lf.fits = true → (pEnd x a lf = none → Pop B P es (s + 1)) → (∀ e, pEnd x a lf = some e → Run B (pc + 1) e m P es (s + 1)) → Run B pc a m P es s
 ways : ∀ {B pc} {a : Int} {m P es} {s : Nat} {lf}, s < 99999 → 0 ≤ a → a ≤ x.length → C[pc]? = some (.ways lf) → lf.single = false → (pEnds x a lf = [] → Pop B P es (s + 1)) → (∀ e es', pEnds x a lf = e :: es' → Run B (pc + 1) e m (P ++ es'.reverse.map fun i => (pc + 1, i, m)) es (s + 1)) → Run B pc a m P es s
 place : ∀ {B pc} {a : Int} {m P es} {s : Nat} {n}, s < 99999 → C[pc]? = some (.place n) → (∀ B', leB B B' → Run B' (pc + 1) a m P (es ++ [(n, a)]) (s + 1)) → Run B pc a m P es s
 fail : ∀ {B pc} {a : Int} {m P es} {s : Nat}, s < 99999 → C[pc]? = some .fail → Pop B P es (s + 1) → Run B pc a m P es s
 split : ∀ {B pc} {a : Int} {m P es} {s g : Nat}, s < 99999 → C[pc]? = some (.split g) → Run B (pc + 1) a m (P ++ [(g, a, m)]) es (s + 1) → Run B pc a m P es s
 jump : ∀ {B pc} {a : Int} {m P es} {s g : Nat}, s < 99999 → C[pc]? = some (.jump g) → Run B g a m P es (s + 1) → Run B pc a m P es s
 mark : ∀ {B pc} {a : Int} {m P es} {s : Nat}, s < 99999 → C[pc]? = some .mark → (∀ B' m' t, leB B B' → Tup B' m' [m, .int a t] → Run B' (pc + 1) a m' P es (s + 1)) → Run B pc a m P es s
 gain : ∀ {B pc} {a b : Int} {m m0 t P es} {s : Nat}, s < 99999 → handedIn m0 = true → C[pc]? = some .gain → Tup B m [m0, .int b t] → (b < a → Run B (pc + 1) a m0 P es (s + 1)) → (¬ b < a → Pop B P es (s + 1)) → Run B pc a m P es s
noncomputable def rndM (F : (Int → Nat) → Int → Nat) (k : Int → Nat) : Nat → Int → Nat
 | 0, _ => 0
 | m + 1, a => 3 + (k a + F (fun e => 1 + (if e = a then 0 else 1 + rndM F k m e)) a)
theorem rndM.k2 {F : (Int → Nat) → Int → Nat} {k : Int → Nat} {m a} : rndM F k (m + 1) a = 3 + (k a + F (fun e => 1 + (if e = a then 0 else 1 + rndM F k m e)) a) := rfl
noncomputable def CM (x : Str) : Tr → (Int → Nat) → Int → Nat
 | .leaf n lf, k, a => (odLf lf).length + sumN (fun e => 1 + k e) (pEnds x a lf)
 | .cat n l r, k, a => CM x l (CM x r fun e => 1 + k e) a
 | .alt n l r, k, a => 1 + (CM x l (fun e => 1 + (1 + k e)) a + CM x r (fun e => 1 + k e) a)
 | .arb n t, k, a => rndM (CM x t) (fun e => 1 + k e) 3 a
theorem CM.k1 {x : Str} {n lf k a} : CM x (.leaf n lf) k a = (odLf lf).length + sumN (fun e => 1 + k e) (pEnds x a lf) := rfl
theorem CM.k2 {x : Str} {n l r k a} : CM x (.cat n l r) k a = CM x l (CM x r fun e => 1 + k e) a := rfl
theorem CM.k3 {x : Str} {n l r k a} : CM x (.alt n l r) k a = 1 + (CM x l (fun e => 1 + (1 + k e)) a + CM x r (fun e => 1 + k e) a) := rfl
theorem CM.k4 {x : Str} {n t k a} : CM x (.arb n t) k a = rndM (CM x t) (fun e => 1 + k e) 3 a := rfl
noncomputable def Okm (x : Str) (lf : Lf) : Prop := odLf lf = [] → ∀ a : Int, 0 ≤ a → a ≤ x.length → pEnds x a lf = [a]
section
variable {x : Str} {C : List Od} {Pop : Bm → List Hst → List Evt → Nat → Prop} {Run : Bm → Nat → Int → Value → List Hst → List Evt → Nat → Prop}
noncomputable def BehM (x : Str) (Pop : Bm → List Hst → List Evt → Nat → Prop) (Run : Bm → Nat → Int → Value → List Hst → List Evt → Nat → Prop) (B : Bm) (pc : Nat) (m : Value) (a : Int) (k : Int → List Evt) (kc : Int → Nat) : Prop :=
 ∀ e B' P es s, a ≤ e → e ≤ x.length → leB B B' → s + kc e ≤ 99999 → Pop B' P (es ++ k e) (s + kc e) → Run B' pc e m P es s
theorem BehM.later {B B' : Bm} {pc : Nat} {m : Value} {a b : Int} {k : Int → List Evt} {kc : Int → Nat} (h : BehM x Pop Run B pc m a k kc) (le : leB B B') (hab : a ≤ b) : BehM x Pop Run B' pc m b k kc :=
 fun e B'' P es s h1 h2 le' => h e B'' P es s (Int.le_trans hab h1) h2 (le.trans le')
theorem BehM.place (S : MchSys x C Pop Run) {B : Bm} {pc : Nat} {m : Value} {a : Int} {n : Str} {k : Int → List Evt} {kc : Int → Nat} (h : BehM x Pop Run B (pc + 1) m a k kc) (hc : C[pc]? = some (.place n)) :
  BehM x Pop Run B pc m a (fun e => (n, e) :: k e) (fun e => 1 + kc e) := fun e B' P es s h1 h2 le hs hp => by
 dsimp only at hs hp
 refine S.place (by lia) hc fun B'' le' => h e B'' P _ _ h1 h2 (le.trans le') (by lia) ?_
 rw [List.append_assoc]
 rw [show s + 1 + kc e = s + (1 + kc e) by lia]
 exact S.mono le' hp
theorem BehM.jump (S : MchSys x C Pop Run) {B : Bm} {pc g : Nat} {m : Value} {a : Int} {k : Int → List Evt} {kc : Int → Nat} (h : BehM x Pop Run B g m a k kc) (hc : C[pc]? = some (.jump g)) :
  BehM x Pop Run B pc m a k (fun e => 1 + kc e) := fun e B' P es s h1 h2 le hs hp => by
 dsimp only at hs hp
 refine S.jump (by lia) hc (h e B' P _ _ h1 h2 le (by lia) ?_)
 rw [show s + 1 + kc e = s + (1 + kc e) by lia]
 exact hp
theorem hist_pop (S : MchSys x C Pop Run) {B : Bm} {pc : Nat} {m : Value} {a : Int} {k : Int → List Evt} {kc : Int → Nat} (h : BehM x Pop Run B pc m a k kc) :
  ∀ (js : List Int) (P : List Hst) (es : List Evt) (s : Nat), (∀ e ∈ js, a ≤ e ∧ e ≤ x.length) → s + sumN kc js ≤ 99999 → Pop B P (es ++ js.flatMap k) (s + sumN kc js) → Pop B (P ++ js.reverse.map fun i => (pc, i, m)) es s
 | [], P, es, s, hi, hs, hp => by simpa [sumN.k1, sumN.k2] using hp
 | e :: js, P, es, s, hi, hs, hp => by
  simp only [sumN.k2] at hs hp
  rw [List.reverse_cons, List.map_append, List.map_cons, List.map_nil, ← List.append_assoc]
  refine S.pop (h e B _ es s (hi e (.head _)).1 (hi e (.head _)).2 (leB.refl _) (by lia) ?_)
  refine hist_pop S h js P _ _ (fun e he => hi e (.tail _ he)) (by lia) ?_
  rw [List.append_assoc, Nat.add_assoc]
  simpa using hp
theorem lf_mach (S : MchSys x C Pop Run) {lf : Lf} (ok : Okl x lf) (okm : Okm x lf) {B : Bm} {pc : Nat} {m : Value} {a : Int} {P : List Hst} {es : List Evt} {s : Nat} {k : Int → List Evt} {kc : Int → Nat} (hc : AtC C pc (odLf lf)) (h0 : 0 ≤ a) (h1 : a ≤ x.length)
  (hs : s + ((odLf lf).length + sumN kc (pEnds x a lf)) ≤ 99999) (hb : BehM x Pop Run B (pc + (odLf lf).length) m a k kc) (hP : Pop B P (es ++ (pEnds x a lf).flatMap k) (s + ((odLf lf).length + sumN kc (pEnds x a lf)))) : Run B pc a m P es s := by
 have he := ok.ends a h0 h1
 by_cases h : lf.single = true
 ·by_cases hn : odLf lf = []
  ·rw [okm hn a h0 h1] at hs hP
   rw [hn] at hs hP hb
   simp only [sumN.k1, sumN.k2, List.length_nil, Nat.zero_add, Nat.add_zero, List.flatMap_cons, List.flatMap_nil, List.append_nil] at hs hP hb
   exact hb a B P es s (Int.le_refl _) h1 (leB.refl _) hs hP
  ·have e1 : odLf lf = [.one lf] := by
    cases lf with
    | arb => cases h
    | bal => cases h
    | chars y =>
     by_cases hy : (y == "") = true
     ·exact absurd (by simp [odLf.k3, hy]) hn
     ·simp [odLf.k3, hy]
    | _ => rfl
   have e2 : pEnds x a lf = match pEnd x a lf with | none => [] | some e => [e] := by cases lf <;> first | rfl | cases h
   rw [e1] at hs hP hb hc
   simp only [List.length_singleton] at hs hP hb
   refine S.one (by lia) h0 (hc.head (xs := [])) h ok.fits (fun q => ?_) fun e q => ?_
   ·rw [e2, q] at hP
    simpa [sumN.k1, sumN.k2] using hP
   ·rw [e2, q] at hP hs he
    simp only [sumN.k1, sumN.k2, Nat.add_zero] at hP hs
    refine hb e B P es _ (he e (by simp)).1 (he e (by simp)).2 (leB.refl _) (by lia) ?_
    rw [Nat.add_assoc]
    simpa using hP
 ·have h' : lf.single = false := by simpa using h
  have e1 : odLf lf = [.ways lf] := by cases lf <;> first | rfl | cases h'
  rw [e1] at hs hP hb hc
  simp only [List.length_singleton] at hs hP hb
  refine S.ways (by lia) h0 h1 (hc.head (xs := [])) h' (fun q => ?_) fun e es' q => ?_
  ·rw [q] at hP
   simpa [sumN.k1, sumN.k2] using hP
  ·rw [q] at hP hs he
   simp only [sumN.k2, List.flatMap_cons] at hP hs
   refine hb e B _ es _ (he e (by simp)).1 (he e (by simp)).2 (leB.refl _) (by lia) ?_
   refine hist_pop S hb es' P _ _ (fun i hi => he i (by simp [hi])) (by lia) ?_
   rw [List.append_assoc, show s + 1 + kc e + sumN kc es' = s + (1 + (kc e + sumN kc es')) by lia]
   exact hP
theorem rnd_mach (S : MchSys x C Pop Run) {p : Nat} {u : Tr} {F : (Int → List Evt) → Int → List Evt} {D : (Int → Nat) → Int → Nat} {m : Value} (hm0 : handedIn m = true)
  (IH : ∀ {B : Bm} {m : Value} {a : Int} {P : List Hst} {es : List Evt} {s : Nat} {k : Int → List Evt} {kc : Int → Nat}, handedIn m = true → 0 ≤ a → a ≤ x.length → s + D kc a ≤ 99999 → BehM x Pop Run B (p + 3 + lenT u) m a k kc → Pop B P (es ++ F k a) (s + D kc a) → Run B (p + 3) a m P es s)
  (c0 : C[p]? = some (.split (p + 2))) (c1 : C[p + 1]? = some (.jump (p + 5 + lenT u))) (c2 : C[p + 2]? = some .mark) (c3 : C[p + 3 + lenT u]? = some .gain) (c4 : C[p + 4 + lenT u]? = some (.jump p))
  {k : Int → List Evt} {kc : Int → Nat} : ∀ (f : Nat) (B : Bm) (a : Int) (P : List Hst) (es : List Evt) (s : Nat), (x.length : Int) < a + f → 0 ≤ a → a ≤ x.length →
   s + rndM D kc f a ≤ 99999 → BehM x Pop Run B (p + 5 + lenT u) m a k kc → Pop B P (es ++ rndE F k f a) (s + rndM D kc f a) → Run B p a m P es s
 | 0, B, a, P, es, s, hm, _, h1, _, _, _ => by exfalso; lia
 | f + 1, B, a, P, es, s, hm, h0, h1, hs, hb, hP => by
  simp only [rndM.k2, rndE.k2] at hs hP
  refine S.split (by lia) c0 (S.jump (by lia) c1 (hb a B _ es _ (Int.le_refl _) h1 (leB.refl _) (by lia) (S.pop (S.mark (by lia) c2 fun B' m' t le hm' => ?_))))
  refine IH (show handedIn m' = true by obtain ⟨a, rfl, _⟩ := hm'; rfl) h0 h1 (k := fun e => if e = a then [] else rndE F k f e) (kc := fun e => 1 + (if e = a then 0 else 1 + rndM D kc f e)) (by lia) ?_ ?_
  ·intro e B2 P2 es2 s2 h5 h6 le2 hs2 hP2
   dsimp only at hs2 hP2
   refine S.gain (by lia) hm0 c3 (hm'.mono le2) (fun he => ?_) fun he => ?_
   ·have hne : ¬ e = a := by lia
    simp only [hne, if_false] at hP2 hs2
    rw [show p + 3 + lenT u + 1 = p + 4 + lenT u by lia]
    refine S.jump (by lia) c4 (rnd_mach S (u := u) (F := F) (D := D) hm0 IH c0 c1 c2 c3 c4 f B2 e P2 es2 _ (by lia) (by lia) h6 (by lia) (hb.later (le.trans le2) h5) ?_)
    rw [show s2 + 1 + 1 + rndM D kc f e = s2 + (1 + (1 + rndM D kc f e)) by lia]
    exact hP2
   ·have hne : e = a := by lia
    simp only [hne, if_true, List.append_nil, Nat.add_zero] at hP2
    exact hP2
  ·rw [List.append_assoc]
   have := S.mono le hP
   rw [show s + 1 + 1 + kc a + 1 + D (fun e => 1 + (if e = a then 0 else 1 + rndM D kc f e)) a = s + (3 + (kc a + D (fun e => 1 + (if e = a then 0 else 1 + rndM D kc f e)) a)) by lia]
   exact this
theorem mach (S : MchSys x C Pop Run) (hx : x.length ≤ 2) : ∀ (T : Tr), T.all (Okl x) → T.all (Okm x) → ∀ (p : Nat), AtC C p (code T p) → ∀ {B : Bm} {m : Value} {a : Int} {P : List Hst} {es : List Evt} {s : Nat} {k : Int → List Evt} {kc : Int → Nat}, handedIn m = true → 0 ≤ a → a ≤ x.length → s + CM x T kc a ≤ 99999 → BehM x Pop Run B (p + lenT T) m a k kc → Pop B P (es ++ ET x T k a) (s + CM x T kc a) → Run B p a m P es s
 | .leaf n lf, ok, okm, p, hc, B, m, a, P, es, s, k, kc, hm, h0, hl, hs, hb, hP => by
  simp only [CM.k1, CM.k2, CM.k3, CM.k4, ET.k1, ET.k2, ET.k3, ET.k4, code.k1, code.k2, code.k3, code.k4] at hs hP hc
  simp only [lenT.k1, lenT.k2, lenT.k3, lenT.k4] at hb
  exact lf_mach S ok okm hc.left h0 hl hs (BehM.place S hb (hc.right rfl).head) hP
 | .cat n l r, ok, okm, p, hc, B, m, a, P, es, s, k, kc, hm, h0, hl, hs, hb, hP => by
  simp only [CM.k1, CM.k2, CM.k3, CM.k4, ET.k1, ET.k2, ET.k3, ET.k4, code.k1, code.k2, code.k3, code.k4] at hs hP hc
  simp only [lenT.k1, lenT.k2, lenT.k3, lenT.k4] at hb
  refine mach S hx l ok.1 okm.1 p hc.left.left hm h0 hl hs ?_ hP
  intro e B2 P2 es2 s2 h1 h2 le2 hs2 hP2
  refine mach S hx r ok.2 okm.2 _ (hc.left.right (by rw [code_len])) hm (by lia) h2 hs2 (BehM.place S (n := n) ?_ (hc.right (by simp [code_len, Nat.add_assoc])).head) hP2
  rw [show p + lenT l + lenT r + 1 = p + (lenT l + lenT r + 1) by lia]
  exact hb.later le2 h1
 | .alt n l r, ok, okm, p, hc, B, m, a, P, es, s, k, kc, hm, h0, hl, hs, hb, hP => by
  simp only [CM.k1, CM.k2, CM.k3, CM.k4, ET.k1, ET.k2, ET.k3, ET.k4, code.k1, code.k2, code.k3, code.k4] at hs hP hc
  simp only [lenT.k1, lenT.k2, lenT.k3, lenT.k4] at hb
  have c0 := hc.left.left.left.left.head (xs := [])
  have cl := hc.left.left.left.right (q := p + 1) rfl
  have cj := (hc.left.left.right (q := p + 1 + lenT l) (by simp [code_len]; lia)).head (xs := [])
  have cr := hc.left.right (q := p + 2 + lenT l) (by simp [code_len]; lia)
  have cp := (hc.right (q := p + 2 + lenT l + lenT r) (by simp [code_len]; lia)).head (xs := [])
  have hb' : BehM x Pop Run B (p + 2 + lenT l + lenT r) m a (fun e => (n, e) :: k e) (fun e => 1 + kc e) := BehM.place S (by rw [show p + 2 + lenT l + lenT r + 1 = p + (lenT l + lenT r + 3) by lia]; exact hb) cp
  refine S.split (by lia) c0 (mach S hx l ok.1 okm.1 _ cl hm h0 hl (k := fun e => (n, e) :: k e) (kc := fun e => 1 + (1 + kc e)) (by lia) (BehM.jump S hb' cj) (S.pop (mach S hx r ok.2 okm.2 _ cr hm h0 hl (k := fun e => (n, e) :: k e) (kc := fun e => 1 + kc e) (by lia) hb' ?_)))
  rw [List.append_assoc, show s + 1 + CM x l (fun e => 1 + (1 + kc e)) a + CM x r (fun e => 1 + kc e) a = s + (1 + (CM x l (fun e => 1 + (1 + kc e)) a + CM x r (fun e => 1 + kc e) a)) by lia]
  exact hP
 | .arb n u, ok, okm, p, hc, B, m, a, P, es, s, k, kc, hm, h0, hl, hs, hb, hP => by
  simp only [CM.k1, CM.k2, CM.k3, CM.k4, ET.k1, ET.k2, ET.k3, ET.k4, code.k1, code.k2, code.k3, code.k4] at hs hP hc
  simp only [lenT.k1, lenT.k2, lenT.k3, lenT.k4] at hb
  have c0 := hc.left.left.left
  have cu := hc.left.left.right (q := p + 3) rfl
  have cg := hc.left.right (q := p + 3 + lenT u) (by simp [code_len]; lia)
  have cp := (hc.right (q := p + 5 + lenT u) (by simp [code_len]; lia)).head (xs := [])
  refine rnd_mach S (u := u) (F := ET x u) (D := CM x u) hm (fun hm h0 hl hs hb hP => mach S hx u ok okm _ cu hm h0 hl hs hb hP) (c0 0 _ rfl) (c0 1 _ rfl) (c0 2 _ rfl) (cg 0 _ rfl) (by have := cg 1 _ rfl; rw [show p + 3 + lenT u + 1 = p + 4 + lenT u by lia] at this; exact this) 3 B a P es s (by lia) h0 hl hs (BehM.place S (by rw [show p + 5 + lenT u + 1 = p + (lenT u + 6) by lia]; exact hb) cp) hP
end
end
section
noncomputable abbrev wV (ol : Addr) (pc : Nat) (tp : Tok) (a : Int) (ta : Tok) (m : Value) : Vs := [some (.ref ol), some (.int pc tp), some (.int a ta), some .none, some m, some .none]
section
variable {w : World} {A : Around} {B : Bm} {N : Nm} {d : Nat}
theorem Wc_frzE {c : Code} {Q : Value → Bm → Nm → Prop} (h : Wc w A c (fun v B' N' => ∃ a sl N'', N' = (a, sl) :: N'' ∧ ∀ B'', leB B' B'' → B'' a = some sl → Q v B'' N'') B N) : Wc w A c Q B N :=
 .mk fun s F => codeAny_mono (h.run s F) fun r s' ⟨v, B', N', e, F', X, a, sl, N'', hN, q⟩ => by
  subst hN
  have hm := F'.led (a, sl) (.head _)
  have nd := F'.nd
  rw [List.map_cons, List.nodup_cons] at nd
  refine ⟨v, frz B' a sl, N'', e, ⟨fun b o e => ?_, fun p hp => ?_, nd.2⟩, X.trans (Fx.frz hm.2), q _ (frz_le hm.2) (by unfold frz; rw [if_pos rfl])⟩
  ·unfold frz at e; split at e
   ·rename_i q; subst q; cases e; exact hm.1
   ·exact F'.keep b o e
  ·have := F'.led p (.tail _ hp)
   refine ⟨this.1, ?_⟩
   unfold frz; rw [if_neg fun e => nd.1 (List.mem_map.mpr ⟨p, hp, e⟩)]; exact this.2
noncomputable abbrev R_init_Way (B : Bm) (N : Nm) (x : Addr) (dx : Addr) (ol : Addr) (pc : Nat) (tp : Tok) (ta : Tok) (a : Int) (m : Value) : Value → Bm → Nm → Prop := fun v B' N' => v = Value.none ∧ B = B' ∧ N' = (x, .inst 449 dx) :: (dx, .att wNs (wV ol pc tp a ta m)) :: N
theorem s_init_Way {x dx ol : Addr} {pc : Nat} {tp ta : Tok} {a : Int} {m : Value} (K : KB w B) (rm : Rm A 1) :
  Wc w A (.call (.ref 439) ⟨[.ref x, .ref ol, .int pc tp, .int a ta, .none, m, .none], []⟩) (R_init_Way B N x dx ol pc tp ta a m) B ((x, .inst 449 dx) :: (dx, .att wNs [none, none, none, none, none, none]) :: N) := by
 refine c_Way_init K rm ?_
 intro L env A' ev rm' hg
 refine W_cons ?_
 k_extra "go"
 exact ⟨rfl, rfl, rfl⟩
noncomputable abbrev R_new_Way (B : Bm) (N : Nm) (ol : Addr) (pc : Nat) (tp : Tok) (ta : Tok) (a : Int) (m : Value) : Value → Bm → Nm → Prop := fun v B' N' => leB B B' ∧ ∃ x dx, v = .ref x ∧ B' x = some (.inst 449 dx) ∧ N' = (dx, .att wNs (wV ol pc tp a ta m)) :: N
theorem s_new_Way {ol : Addr} {pc : Nat} {tp ta : Tok} {a : Int} {m : Value} (K : KB w B) (rm : Rm A 2) :
  Wc w A (.call (.ref 449) ⟨[.ref ol, .int pc tp, .int a ta, .none, m, .none], []⟩) (R_new_Way B N ol pc tp ta a m) B N := by
 refine Wc_frzE ?_
 refine Wc_make (xs := wNs) K rm (by kernel_rfl) (md_Way_init _) fun x dx A' rm' => ?_
 refine Wc_mono (s_init_Way K rm') ?_
 rintro v B' N' ⟨rfl, rfl, rfl⟩
 exact ⟨rfl, x, _, _, rfl, fun B'' le h => ⟨le, x, dx, rfl, h, rfl⟩⟩
noncomputable abbrev R_copied (B : Bm) (N : Nm) (wd : Addr) (ol : Addr) (pc : Nat) (pc' : Nat) (tp : Tok) (ta : Tok) (tp' : Tok) (a : Int) (m : Value) : Value → Bm → Nm → Prop := fun v B' N' => leB B B' ∧ ∃ x dx, v = .ref x ∧ B' x = some (.inst 449 dx) ∧ N' = (dx, .att wNs (wV ol pc' tp' a ta m)) :: (wd, .att wNs (wV ol pc tp a ta m)) :: N
theorem s_copied {wa wd ol : Addr} {pc pc' : Nat} {tp ta tp' : Tok} {a : Int} {m : Value} (K : KB w B) (rm : Rm A 3) (hw : B wa = some (.inst 449 wd)) (hm : handedIn m = true) :
  Wc w A (.call (.ref 446) ⟨[.ref wa, .int pc' tp'], []⟩) (R_copied B N wd ol pc pc' tp ta tp' a m) B ((wd, .att wNs (wV ol pc tp a ta m)) :: N) := by
 refine c_Way_copied K rm ?_
 intro L env A' ev rm' hg
 refine W_cons ?_
 k_extra "go"
 refine W_cwCls K (kp_Way _) ?_
 k_extra "go"
 exact W_code (s_new_Way K rm') fun v B' N' _ q => q
noncomputable abbrev R_way_back_none (B : Bm) (N : Nm) (hl : Addr) : Value → Bm → Nm → Prop := fun v B' N' => B = B' ∧ v = Value.none ∧ N' = (hl, .lst []) :: N
theorem s_way_back_none {mo md hl : Addr} {vx vh : Value} (K : KB w B) (rm : Rm A 1) (h1 : B mo = some (.inst 526 md)) (h2 : B md = some (.att mNs [some vx, some vh, some (.ref hl)])) :
  Wc w A (.call (.ref 481) ⟨[.ref mo], []⟩) (R_way_back_none B N hl) B ((hl, .lst []) :: N) := by
 refine c_Match_way_back K rm ?_
 intro L env A' ev rm' hg
 refine W_cons ?_
 k_extra "go"
 refine W_lenLst (Rd.n (by k_extra "mem")) (by decide) fun u => ?_
 k_extra "run"
 exact ⟨rfl, rfl, rfl⟩
noncomputable abbrev R_way_back (B : Bm) (N : Nm) (hl : Addr) (v : Value) (vs : List Value) : Value → Bm → Nm → Prop := fun r B' N' => B = B' ∧ r = v ∧ N' = (hl, .lst vs) :: N
theorem s_way_back {mo md hl : Addr} {vx vh v : Value} {vs : List Value} (K : KB w B) (rm : Rm A 1) (h1 : B mo = some (.inst 526 md)) (h2 : B md = some (.att mNs [some vx, some vh, some (.ref hl)])) (hz : vs.length ≤ 1000000) :
  Wc w A (.call (.ref 481) ⟨[.ref mo], []⟩) (R_way_back B N hl v vs) B ((hl, .lst (vs ++ [v])) :: N) := by
 refine c_Match_way_back K rm ?_
 intro L env A' ev rm' hg
 refine W_cons ?_
 k_extra "go"
 refine W_lenLst (Rd.n (by k_extra "mem")) (by simp; lia) fun u => ?_
 k_extra "go"
 refine ite_t (by simp) ?_
 k_extra "go"
 k_extra "pop"
 ·k_extra "sz"
 exact ⟨rfl, rfl, rfl⟩
theorem W_isiTold {ns : List Str} {L : Addr} {vs : Vs} {lf : Lf} {u : Value} {Q : Value → Bm → Vs → Nm → Prop} (hu : lf.told u) (q : Q (.bool false) B vs N) : W w A ns L (call (.builtin "isinstance") [u, .type "tuple"]) Q B vs N := by
 cases lf with
 | arb => cases hu; exact W_isiNT q
 | bal => cases hu; exact W_isiNT q
 | rem => cases hu; exact W_isiNT q
 | len k => obtain ⟨t, rfl⟩ := hu; exact W_isiII q
 | pos k => obtain ⟨t, rfl⟩ := hu; exact W_isiII q
 | tab k => obtain ⟨t, rfl⟩ := hu; exact W_isiII q
 | any k => obtain ⟨t, rfl⟩ := hu; exact W_isiST q
 | span k => obtain ⟨t, rfl⟩ := hu; exact W_isiST q
 | chars k => obtain ⟨t, rfl⟩ := hu; exact W_isiST q
theorem s_met_once {mo md hl wa wd ol oa : Addr} {x : Str} {tx t t' tp ta : Tok} {vh u m : Value} {lf : Lf} {pc : Nat} {a : Int} (K : KB w B) (rm : Rm A 5) (hx : x.length ≤ 2) (h0 : 0 ≤ a) (h1 : B mo = some (.inst 526 md)) (h2 : B md = some (.att mNs [some (.str x tx), some vh, some (.ref hl)]))
  (hw : B wa = some (.inst 449 wd)) (ho : B oa = some (.tup [.str "one" t, .str lf.kind t', u])) (hu : lf.told u) (hs : lf.single = true) (hf : lf.fits = true) :
  Wc w A (.call (.ref 495) ⟨[.ref mo, .ref oa, .ref wa], []⟩) (fun v B' N' => leB B B' ∧ match pEnd x a lf with
   | none => v = .bool false ∧ N' = (wd, .att wNs (wV ol pc tp a ta m)) :: N
   | some e => v = .bool true ∧ ∃ tp' te, N' = (wd, .att wNs (wV ol (pc + 1) tp' e te m)) :: N) B ((wd, .att wNs (wV ol pc tp a ta m)) :: N) := by
 refine c_Match_met_once K rm ?_
 intro L env A' ev rm' hg
 refine W_cons ?_
 k_extra "go"
 refine W_isiTold hu ?_
 k_extra "go"
 k_extra "tf"
 k_extra "go"
 refine ⟨by k_extra "sz", fun e1 B1 le1 he1 => ?_⟩
 have K := K.mono le1
 have h1 := le1 _ _ h1
 have h2 := le1 _ _ h2
 have hw := le1 _ _ hw
 k_extra "go"
 refine W_codeK (s_plain_end K rm' hx h0 hs hf (Rd.b he1) ⟨⟨_, rfl⟩, fun _ => ⟨u, rfl, hu⟩⟩) fun G1 up1 => ?_
 rintro v B' N' - ⟨hv, rfl, rfl⟩
 refine up1 _ _ _ ?_
 cases q : pEnd x a lf with
 | none =>
  rw [q] at hv; cases hv
  k_extra "run"
  exact ⟨le1, rfl, rfl⟩
 | some e =>
  rw [q] at hv; obtain ⟨te, rfl⟩ := hv
  k_extra "run"
  exact ⟨le1, rfl, _, _, rfl⟩
end
end
section
structure HE where
 wa : Addr
 wd : Addr
 pc : Nat
 tp : Tok
 at' : Int
 ta : Tok
 m : Value
noncomputable def HE.h (e : HE) : Hst := (e.pc, e.at', e.m)
noncomputable def HN (ol : Addr) (H : List HE) : Nm := H.map fun e => (e.wd, .att wNs (wV ol e.pc e.tp e.at' e.ta e.m))
noncomputable def HR (H : List HE) : List Value := H.map fun e => .ref e.wa
noncomputable def OftenP (is : List Int) (hl wd ol : Addr) (hs : List Value) (pc : Nat) (tp : Tok) (a : Int) (ta : Tok) (m : Value) (N : Nm) (v : Value) (B' : Bm) (N' : Nm) : Prop := match is with
 | [] => v = .bool false ∧ N' = (wd, .att wNs (wV ol pc tp a ta m)) :: (hl, .lst hs) :: N
 | e :: is' => v = .bool true ∧ ∃ tp' te H, H.map HE.h = is'.reverse.map (fun i => (pc + 1, i, m)) ∧ (∀ e ∈ H, B' e.wa = some (.inst 449 e.wd)) ∧ N' = (wd, .att wNs (wV ol (pc + 1) tp' e te m)) :: (hl, .lst (hs ++ HR H)) :: (HN ol H ++ N)
section
variable {w : World} {A : Around} {B : Bm} {N : Nm} {d : Nat}
noncomputable abbrev R_ended (B : Bm) (N : Nm) (wd : Addr) (ol : Addr) (tp : Tok) (ta : Tok) (m0 : Value) (pc : Nat) (a : Int) (b : Int) : Value → Bm → Nm → Prop := fun v B' N' => B = B' ∧ v = .bool (decide (b < a)) ∧ N' = (wd, .att wNs (wV ol pc tp a ta m0)) :: N
theorem s_ended {mo md hl wa wd ol oa ma : Addr} {x : Str} {tx t tb tp ta : Tok} {vh m0 : Value} {pc : Nat} {a b : Int} (K : KB w B) (rm : Rm A 1) (hx : x.length ≤ 2) (h1 : B mo = some (.inst 526 md)) (h2 : B md = some (.att mNs [some (.str x tx), some vh, some (.ref hl)]))
  (hw : B wa = some (.inst 449 wd)) (ho : B oa = some (.tup [.str "gain" t])) (hm : B ma = some (.tup [m0, .int b tb])) :
  Wc w A (.call (.ref 502) ⟨[.ref mo, .ref oa, .ref wa], []⟩) (R_ended B N wd ol tp ta m0 pc a b) B ((wd, .att wNs (wV ol pc tp a ta (.ref ma))) :: N) := by
 refine c_Match_ended K rm ?_
 intro L env A' ev rm' hg
 refine W_cons ?_
 k_extra "run"
 exact ⟨rfl, rfl, rfl⟩
noncomputable abbrev R_met_often (B : Bm) (N : Nm) (hl : Addr) (wd : Addr) (ol : Addr) (tp : Tok) (ta : Tok) (m : Value) (pc : Nat) (a : Int) (hs : List Value) (is : List Int) : Value → Bm → Nm → Prop := fun v B' N' => leB B B' ∧ OftenP is hl wd ol hs pc tp a ta m N v B' N'
theorem s_met_often {mo md hl wa wd ol l : Addr} {x : Str} {tx tp ta : Tok} {vh m : Value} {pc : Nat} {a : Int} {hs es : List Value} {is : List Int} (K : KB w B) (rm : Rm A 4) (h1 : B mo = some (.inst 526 md)) (h2 : B md = some (.att mNs [some (.str x tx), some vh, some (.ref hl)]))
  (hw : B wa = some (.inst 449 wd)) (hm : handedIn m = true) (hi : Ints is es) (hlen : is.length ≤ 3) (hh : hs.length ≤ 1000000) :
  Wc w A (.call (.ref 516) ⟨[.ref mo, .ref wa, .ref l], []⟩) (R_met_often B N hl wd ol tp ta m pc a hs is) B ((wd, .att wNs (wV ol pc tp a ta m)) :: (hl, .lst hs) :: (l, .lst es) :: N) := by
 have hxl : es.length ≤ 3 := by rw [ints_len hi]; exact hlen
 refine Wc_drop ?_
 refine c_Match_met_often K rm ?_
 intro L env A' ev rm' hg
 refine W_cons ?_
 k_extra "go"
 refine W_lenLst (Rd.n (by k_extra "mem")) (by lia) fun u => ?_
 k_extra "go"
 cases is with
 | nil =>
  cases hi
  k_extra "run"
  exact ⟨_, .cons_cons _ (.cons_cons _ (.cons _ (List.Sublist.refl _))), leB.refl _, rfl, rfl⟩
 | cons e is' =>
  refine cutP fun G1 up1 => ?_
  obtain ⟨te, es', rfl, hi'⟩ := hi
  refine up1 ?_
  refine ite_f (by simp; lia) ?_
  k_extra "goF"
  refine W_consF ?_
  refine W_For ?_
  refine W_lstSlice ?_
  k_extra "go"
  refine ⟨l, .int e te :: es', none, _, _, rfl, Rd.n (by k_extra "mem"), .none, .int _ _, .int _ _, by decide, by k_extra "sz", fun b => ?_⟩
  rw [pick_rev _ hxl, List.tail_cons]
  refine W_iterLst (Rd.n (by k_extra "mem")) fun it => ?_
  have hi2 : Ints is'.reverse es'.reverse := ints_rev hi'
  have hfl : is'.reverse.length ≤ 2 := by simp at hlen ⊢; lia
  have hyl : es'.reverse.length = is'.reverse.length := ints_len hi2
  generalize hys : es'.reverse = ys at hi2 hyl ⊢
  generalize hfs : is'.reverse = fs at hi2 hfl hyl
  rename_i tpn _ _ _
  refine WL_perm (N' := (wd, .att wNs (wV ol (pc + 1) tpn a ta m)) :: (it, .itr (.lst b ys) 0) :: (b, .lst ys) :: (l, .lst (.int e te :: es')) :: (hl, .lst hs) :: N) ?_ ?_
  ·exact (List.perm_middle (l₁ := [(it, _), (b, _)])).trans (.cons _ (.cons _ (.cons _ (.swap _ _ _))))
  rw [show (hl, Slot.lst hs) = (hl, Slot.lst (hs ++ HR [])) by rw [show hs ++ HR [] = hs from List.append_nil _]]
  refine WL_rec (fun (s : (Bm × List HE) × Nat × Option Value × Option Value) => s.1.1) (fun s => [some (.ref mo), some (.ref wa), some (.ref l), s.2.2.1, s.2.2.2])
   (fun s => (wd, .att wNs (wV ol (pc + 1) tpn a ta m)) :: (it, .itr (.lst b ys) s.2.1) :: (b, .lst ys) :: (l, .lst (.int e te :: es')) :: (hl, .lst (hs ++ HR s.1.2)) :: (HN ol s.1.2 ++ N)) (fun s => fs.length + 1 - s.2.1)
   (fun s => leB B s.1.1 ∧ s.2.1 ≤ fs.length ∧ s.1.2.map HE.h = (fs.take s.2.1).map (fun i => (pc + 1, i, m)) ∧ ∀ e ∈ s.1.2, s.1.1 e.wa = some (.inst 449 e.wd)) ?_ ((B, []), 0, none, none) ⟨leB.refl _, Nat.zero_le _, rfl, fun _ h => (nomatch h)⟩
  intro ⟨⟨B2, H⟩, i, ve, vo⟩ ⟨le, hi', hH, hHi⟩ ih
  dsimp only at le hi' hH hHi ih ⊢
  have K := K.mono le
  have h1 := le _ _ h1
  have h2 := le _ _ h2
  have hw := le _ _ hw
  have hHl : H.length = i := by have := congrArg List.length hH; simp at this; lia
  refine WL_for ?_
  cases q : fs[i]? with
  | none =>
   have hfi : i = fs.length := by
    rcases Nat.lt_or_ge i fs.length with h | h
    ·rw [List.getElem?_eq_getElem h] at q; cases q
    ·lia
   refine W_nextEnd (k := .lst b ys) (i := i) rm'.2.2 (.there .here) (show Rd _ _ b (.lst ys) from Rd.n (by k_extra "mem")) (by simp [Itk.item, (ints_get hi2 i).2 q]) ?_
   refine W_nil ?_
   refine W_cons ?_
   k_extra "go"
   rw [hfi, List.take_length] at hH
   exact ⟨_, .cons_cons _ (.cons _ (.cons _ (List.Sublist.refl _))), le, rfl, _, te, H, (by rw [hfs]; exact hH), hHi, rfl⟩
  | some j =>
   obtain ⟨tj, hy⟩ := (ints_get hi2 i).1 j q
   have hlt : i < fs.length := (List.getElem?_eq_some_iff.mp q).1
   refine W_nextItem (k := .lst b ys) (i := i) (f := fun _ => .int j tj) (.there .here) (show Rd _ _ b (.lst ys) from Rd.n (by k_extra "mem")) (by simp [Itk.item, hy]) fun _ => ?_
   k_extra "go"
   refine W_codeK (s_copied (pc' := pc + 1) K rm' hw hm) fun G2 up2 => ?_
   rintro v B3 N3 - ⟨le3, xa, xd, rfl, hx3, rfl⟩
   refine up2 _ _ _ ?_
   have K := K.mono le3
   have h1 := le3 _ _ h1
   have h2 := le3 _ _ h2
   k_extra "go"
   k_extra "append"
   ·rw [sizeLine_eq, List.length_append, HR, List.length_map]; lia
   refine ⟨fun _ z => (nomatch z), ?_⟩
   k_extra "go"
   have := ih ((B3, H ++ [⟨xa, xd, pc + 1, tpn, j, tj, m⟩]), i + 1, some (.int j tj), some (.ref xa)) (by dsimp only; lia) ⟨le.trans le3, hlt, ?_, ?_⟩
   ·refine WL_perm ?_ this
    dsimp only
    unfold HR HN
    rw [List.map_append, List.map_append, List.append_assoc, List.append_assoc]
    exact (List.perm_middle (a := (xd, _)) (l₁ := [(wd, _), (it, _), (b, _), (l, _), (hl, _)] ++ HN ol H)).symm
   ·dsimp only
    rw [List.map_append, hH, show fs.take (i + 1) = fs.take i ++ [j] by rw [List.take_add_one, q]; rfl, List.map_append]; rfl
   ·dsimp only
    intro e he
    rcases List.mem_append.mp he with he | he
    ·exact le3 _ _ (hHi e he)
    ·rw [List.mem_singleton.mp he]; exact hx3
end
end
section
section
variable {w : World} {A : Around} {B : Bm} {N : Nm} {d : Nat}
noncomputable abbrev R_other_ways (B : Bm) (N : Nm) (hl : Addr) (wd : Addr) (ol : Addr) (x : Str) (tp : Tok) (ta : Tok) (m : Value) (lf : Lf) (pc : Nat) (a : Int) (hs : List Value) : Value → Bm → Nm → Prop := fun v B' N' => leB B B' ∧ OftenP (pEnds x a lf) hl wd ol hs pc tp a ta m N v B' N'
theorem s_other_ways {mo md hl wa wd ol oa : Addr} {x : Str} {tx t t' tp ta : Tok} {vh m : Value} {lf : Lf} {pc : Nat} {a : Int} {hs : List Value} (K : KB w B) (rm : Rm A 5) (hx : x.length ≤ 2) (h0 : 0 ≤ a) (ha : a ≤ x.length) (h1 : B mo = some (.inst 526 md)) (h2 : B md = some (.att mNs [some (.str x tx), some vh, some (.ref hl)]))
  (hw : B wa = some (.inst 449 wd)) (hm : handedIn m = true) (ho : B oa = some (.tup [.str "ways" t, .str lf.kind t'])) (hs1 : lf.single = false) (hlen : (pEnds x a lf).length ≤ 3) (hh : hs.length ≤ 1000000) :
  Wc w A (.call (.ref 509) ⟨[.ref mo, .ref oa, .ref wa], []⟩) (R_other_ways B N hl wd ol x tp ta m lf pc a hs) B ((wd, .att wNs (wV ol pc tp a ta m)) :: (hl, .lst hs) :: N) := by
 refine c_Match_other K rm ?_
 intro L env A' ev rm' hg
 refine W_cons ?_
 k_extra "run"
 refine W_codeK (s_ends_of K (rm'.le (by decide)) hx h0 (by lia) hs1) fun G1 up1 => ?_
 rintro v B' N' - ⟨l, xs, rfl, hi, rfl, rfl⟩
 refine up1 _ _ _ ?_
 k_extra "go"
 refine W_perm (N' := (wd, .att wNs (wV ol pc tp a ta m)) :: (hl, .lst hs) :: (l, .lst xs) :: N) (List.perm_middle (l₁ := [(wd, _), (hl, _)])).symm ?_
 exact W_code (s_met_often K rm' h1 h2 hw hm hi hlen hh) fun v B' N' _ q => q
theorem s_other_fail {mo wa oa : Addr} {t : Tok} (K : KB w B) (rm : Rm A 1) (ho : B oa = some (.tup [.str "fail" t])) :
  Wc w A (.call (.ref 509) ⟨[.ref mo, .ref oa, .ref wa], []⟩) (fun v B' N' => B = B' ∧ v = .bool false ∧ N = N') B N := by
 refine c_Match_other K rm ?_
 intro L env A' ev rm' hg
 refine W_cons ?_
 k_extra "run"
 exact ⟨rfl, rfl, rfl⟩
end
end
section
section
variable {w : World} {A : Around} {B : Bm} {N : Nm} {d : Nat}
noncomputable abbrev R_done_one (B : Bm) (N : Nm) (wd : Addr) (ol : Addr) (x : Str) (tp : Tok) (ta : Tok) (m : Value) (lf : Lf) (pc : Nat) (a : Int) : Value → Bm → Nm → Prop := fun v B' N' => leB B B' ∧ match pEnd x a lf with
   | none => v = .bool false ∧ N' = (wd, .att wNs (wV ol pc tp a ta m)) :: N
   | some e => v = .bool true ∧ ∃ tp' te, N' = (wd, .att wNs (wV ol (pc + 1) tp' e te m)) :: N
theorem s_done_one {mo md hl wa wd ol oa : Addr} {x : Str} {tx t t' tp ta : Tok} {vh u m : Value} {lf : Lf} {pc : Nat} {a : Int} (K : KB w B) (rm : Rm A 6) (hx : x.length ≤ 2) (h0 : 0 ≤ a) (h1 : B mo = some (.inst 526 md)) (h2 : B md = some (.att mNs [some (.str x tx), some vh, some (.ref hl)]))
  (hw : B wa = some (.inst 449 wd)) (ho : B oa = some (.tup [.str "one" t, .str lf.kind t', u])) (hu : lf.told u) (hs : lf.single = true) (hf : lf.fits = true) :
  Wc w A (.call (.ref 488) ⟨[.ref mo, .ref oa, .ref wa], []⟩) (R_done_one B N wd ol x tp ta m lf pc a) B ((wd, .att wNs (wV ol pc tp a ta m)) :: N) := by
 refine c_Match_done K rm ?_
 intro L env A' ev rm' hg
 refine W_cons ?_
 k_extra "run"
 exact W_code (s_met_once K rm' hx h0 h1 h2 hw ho hu hs hf) fun v B' N' _ q => q
inductive R_done_split (B : Bm) (N : Nm) (hl : Addr) (wd : Addr) (ol : Addr) (tg : Tok) (ta : Tok) (m : Value) (pc : Nat) (g : Nat) (a : Int) (hs : List Value) (v : Value) (B' : Bm) (N' : Nm) : Prop
 | mk : leB B B' → v = .bool true → ∀ xa xd tp', B' xa = some (.inst 449 xd) → N' = (xd, .att wNs (wV ol g tg a ta m)) :: (wd, .att wNs (wV ol (pc + 1) tp' a ta m)) :: (hl, .lst (hs ++ [.ref xa])) :: N → R_done_split B N hl wd ol tg ta m pc g a hs v B' N'
theorem s_done_split {mo md hl wa wd ol oa : Addr} {t tg tp ta : Tok} {vx vh m : Value} {pc g : Nat} {a : Int} {hs : List Value} (K : KB w B) (rm : Rm A 4) (h1 : B mo = some (.inst 526 md)) (h2 : B md = some (.att mNs [some vx, some vh, some (.ref hl)]))
  (hw : B wa = some (.inst 449 wd)) (hm : handedIn m = true) (ho : B oa = some (.tup [.str "split" t, .int g tg])) (hh : hs.length ≤ 1000000) :
  Wc w A (.call (.ref 488) ⟨[.ref mo, .ref oa, .ref wa], []⟩) (R_done_split B N hl wd ol tg ta m pc g a hs) B ((wd, .att wNs (wV ol pc tp a ta m)) :: (hl, .lst hs) :: N) := by
 refine c_Match_done K rm ?_
 intro L env A' ev rm' hg
 refine W_cons ?_
 k_extra "run"
 refine W_codeK (s_copied (pc' := g) K rm' hw hm) fun G1 up1 => ?_
 rintro v B3 N3 - ⟨le3, xa, xd, rfl, hx3, rfl⟩
 refine up1 _ _ _ ?_
 have K := K.mono le3
 have h1 := le3 _ _ h1
 have h2 := le3 _ _ h2
 have hw := le3 _ _ hw
 k_extra "go"
 k_extra "append"
 ·k_extra "sz"
 refine ⟨fun _ z => (nomatch z), ?_⟩
 k_extra "run"
 exact ⟨le3, rfl, xa, xd, _, hx3, rfl⟩
noncomputable abbrev R_done_jump (B : Bm) (N : Nm) (wd : Addr) (ol : Addr) (tg : Tok) (ta : Tok) (m : Value) (g : Nat) (a : Int) : Value → Bm → Nm → Prop := fun v B' N' => B = B' ∧ v = .bool true ∧ N' = (wd, .att wNs (wV ol g tg a ta m)) :: N
theorem s_done_jump {mo wa wd ol oa : Addr} {t tg tp ta : Tok} {m : Value} {pc g : Nat} {a : Int} (K : KB w B) (rm : Rm A 1)
  (hw : B wa = some (.inst 449 wd)) (ho : B oa = some (.tup [.str "jump" t, .int g tg])) :
  Wc w A (.call (.ref 488) ⟨[.ref mo, .ref oa, .ref wa], []⟩) (R_done_jump B N wd ol tg ta m g a) B ((wd, .att wNs (wV ol pc tp a ta m)) :: N) := by
 refine c_Match_done K rm ?_
 intro L env A' ev rm' hg
 refine W_cons ?_
 k_extra "run"
 exact ⟨rfl, rfl, rfl⟩
inductive R_done_mark (B : Bm) (N : Nm) (wd : Addr) (ol : Addr) (ta : Tok) (m : Value) (pc : Nat) (a : Int) (v : Value) (B' : Bm) (N' : Nm) : Prop
 | mk : leB B B' → v = .bool true → ∀ ma tp', B' ma = some (.tup [m, .int a ta]) → N' = (wd, .att wNs (wV ol (pc + 1) tp' a ta (.ref ma))) :: N → R_done_mark B N wd ol ta m pc a v B' N'
theorem s_done_mark {mo wa wd ol oa : Addr} {t tp ta : Tok} {m : Value} {pc : Nat} {a : Int} (K : KB w B) (rm : Rm A 1)
  (hw : B wa = some (.inst 449 wd)) (hm : handedIn m = true) (ho : B oa = some (.tup [.str "mark" t])) :
  Wc w A (.call (.ref 488) ⟨[.ref mo, .ref oa, .ref wa], []⟩) (R_done_mark B N wd ol ta m pc a) B ((wd, .att wNs (wV ol pc tp a ta m)) :: N) := by
 refine c_Match_done K rm ?_
 intro L env A' ev rm' hg
 refine W_cons ?_
 k_extra "run"
 refine ⟨by k_extra "sz", fun e1 B1 le1 he1 => ?_⟩
 have K := K.mono le1
 have hw := le1 _ _ hw
 k_extra "run"
 exact ⟨le1, rfl, e1, _, he1, rfl⟩
noncomputable abbrev R_done_gain (B : Bm) (N : Nm) (wd : Addr) (ol : Addr) (tp : Tok) (ta : Tok) (m0 : Value) (pc : Nat) (a : Int) (b : Int) : Value → Bm → Nm → Prop := fun v B' N' => B = B' ∧ if b < a then v = .bool true ∧ ∃ tp', N' = (wd, .att wNs (wV ol (pc + 1) tp' a ta m0)) :: N else v = .bool false ∧ N' = (wd, .att wNs (wV ol pc tp a ta m0)) :: N
theorem s_done_gain {mo md hl wa wd ol oa ma : Addr} {x : Str} {tx t tb tp ta : Tok} {vh m0 : Value} {pc : Nat} {a b : Int} (K : KB w B) (rm : Rm A 2) (hx : x.length ≤ 2) (h1 : B mo = some (.inst 526 md)) (h2 : B md = some (.att mNs [some (.str x tx), some vh, some (.ref hl)]))
  (hw : B wa = some (.inst 449 wd)) (ho : B oa = some (.tup [.str "gain" t])) (hm : B ma = some (.tup [m0, .int b tb])) :
  Wc w A (.call (.ref 488) ⟨[.ref mo, .ref oa, .ref wa], []⟩) (R_done_gain B N wd ol tp ta m0 pc a b) B ((wd, .att wNs (wV ol pc tp a ta (.ref ma))) :: N) := by
 refine c_Match_done K rm ?_
 intro L env A' ev rm' hg
 refine W_cons ?_
 k_extra "run"
 refine W_codeK (s_ended K rm' hx h1 h2 hw ho hm) fun G2 up2 => ?_
 rintro v B' N' - ⟨rfl, rfl, rfl⟩
 refine up2 _ _ _ ?_
 k_extra "run"
 by_cases h : b < a
 ·refine ite_f (by simp [h]) ?_
  k_extra "run"
  exact ⟨rfl, by rw [if_pos h]; exact ⟨rfl, _, rfl⟩⟩
 ·refine ite_t (by simp [h]) ?_
  k_extra "run"
  exact ⟨rfl, by rw [if_neg h]; exact ⟨rfl, rfl⟩⟩
inductive R_done_place (B : Bm) (N : Nm) (wd : Addr) (ol : Addr) (hd : Addr) (vd : Addr) (lg : Addr) (rf : Addr) (n : Str) (ta : Tok) (m : Value) (lim : Value) (wid : Value) (st : Value) (pc : Nat) (k : Nat) (a : Int) (ls : List Value) (v : Value) (B' : Bm) (N' : Nm) : Prop
 | mk : leB B B' → v = .bool true → ∀ e tp' tk, B' e = some (.tup [.str n tk, .int a ta]) → N' = HB hd vd lg lim (.ref rf) wid st (k + 1) (ls ++ [.ref e]) ((wd, .att wNs (wV ol (pc + 1) tp' a ta m)) :: N) → R_done_place B N wd ol hd vd lg rf n ta m lim wid st pc k a ls v B' N'
theorem s_done_place {mo md hl wa wd ol oa h hd vd lg rf r : Addr} {n : Str} {t tp ta : Tok} {vx m lim wid st : Value} {pc k : Nat} {a : Int} {ls : List Value} (K : KB w B) (rm : Rm A 2) (h1 : B mo = some (.inst 526 md)) (h2 : B md = some (.att mNs [some vx, some (.ref h), some (.ref hl)]))
  (hw : B wa = some (.inst 449 wd)) (ho : B oa = some (.tup [.str "place" t, .ref r])) (hr : IsRf B n r) (hi : B h = some (.inst 589 hd)) (hrf : B rf = some (.lst [])) (hk : k ≤ 100000) (hl' : ls.length ≤ 100000) :
  Wc w A (.call (.ref 488) ⟨[.ref mo, .ref oa, .ref wa], []⟩) (R_done_place B N wd ol hd vd lg rf n ta m lim wid st pc k a ls) B (HB hd vd lg lim (.ref rf) wid st k ls ((wd, .att wNs (wV ol pc tp a ta m)) :: N)) := by
 refine cutP fun G3 up3 => ?_
 obtain ⟨rd, kd, ow, tk, hr1, hr2⟩ := hr
 refine up3 ?_
 refine c_Match_done K rm ?_
 intro L env A' ev rm' hg
 refine W_cons ?_
 k_extra "run"
 refine W_codeK (s_assign K rm' hi hrf hr1 hr2 hk hl') fun G4 up4 => ?_
 rintro v B' N' - ⟨rfl, le, e, he, rfl⟩
 refine up4 _ _ _ ?_
 have K := K.mono le
 have hw := le _ _ hw
 k_extra "run"
 exact ⟨le, rfl, e, _, _, he, rfl⟩
theorem s_done_other {S : Value → Bm → Nm → Prop} {mo md wa oa : Addr} {t : Tok} {us : List Value} {o : Od} (K : KB w B) (rm : Rm A 6) (h1 : B mo = some (.inst 526 md)) {vx vh vl : Value} (h2 : B md = some (.att mNs [some vx, some vh, some vl])) (ho : B oa = some (.tup (.str o.kind t :: us))) (hk : o = .fail ∨ ∃ lf, o = .ways lf)
  (h : ∀ A', Rm A' 5 → Wc w A' (.call (.ref 509) ⟨[.ref mo, .ref oa, .ref wa], []⟩) S B N) :
  Wc w A (.call (.ref 488) ⟨[.ref mo, .ref oa, .ref wa], []⟩) S B N := by
 have hk' : o.kind = "fail" ∨ o.kind = "ways" := by rcases hk with rfl | ⟨lf, rfl⟩ <;> simp [Od.kind.k2, Od.kind.k4]
 refine c_Match_done K rm ?_
 intro L env A' ev rm' hg
 refine W_cons ?_
 rcases hk' with e | e <;> rw [e] at ho
 ·k_extra "run"
  refine W_code (h A' rm') ?_
  intro v B' N' _ q
  exact q
 ·k_extra "run"
  refine W_code (h A' rm') ?_
  intro v B' N' _ q
  exact q
end
end
section
noncomputable abbrev rnNs : List Str := [Str.ofString "self", Str.ofString "orders", Str.ofString "begin", Str.ofString "way", Str.ofString "order"]
noncomputable abbrev rnGs : List Str := [Str.ofString "Way", Str.ofString "DONE", Str.ofString "MET", Str.ofString "ABORT", Str.ofString "OVER", Str.ofString "FAILED"]
noncomputable def mLoop (env : Env) : Code := wLoop (nth (dBody (mt 77 1)) 1) env
structure MFix (B : Bm) (mo md hl h hd rf ol : Addr) (x : Str) (tx : Tok) (C : List Od) (cs : List Value) : Prop where
 m1 : B mo = some (.inst 526 md)
 m2 : B md = some (.att mNs [some (.str x tx), some (.ref h), some (.ref hl)])
 ho : HostOk B h hd rf
 o1 : B ol = some (.lst cs)
 o2 : IsOds B C cs
theorem MFix.mono {B B' : Bm} {mo md hl h hd rf ol : Addr} {x : Str} {tx : Tok} {C : List Od} {cs : List Value} (f : MFix B mo md hl h hd rf ol x tx C cs) (le : leB B B') : MFix B' mo md hl h hd rf ol x tx C cs :=
 ⟨le _ _ f.m1, le _ _ f.m2, f.ho.mono le, le _ _ f.o1, f.o2.mono le⟩
structure MDyn (B : Bm) (H : List HE) (P : List Hst) (es : List Evt) (ls : List Value) (s : Nat) : Prop where
 hp : H.map HE.h = P
 hi : ∀ e ∈ H, B e.wa = some (.inst 449 e.wd) ∧ handedIn e.m = true
 ev : Evs B es ls
 pl : P.length ≤ 3 * s + 3
 el : es.length ≤ s
 sl : s ≤ 99999
theorem MDyn.mono {B B' : Bm} {H : List HE} {P : List Hst} {es : List Evt} {ls : List Value} {s : Nat} (f : MDyn B H P es ls s) (le : leB B B') : MDyn B' H P es ls s :=
 ⟨f.hp, fun e he => ⟨le _ _ (f.hi e he).1, (f.hi e he).2⟩, f.ev.mono le, f.pl, f.el, f.sl⟩
theorem MDyn.next {B : Bm} {H : List HE} {P : List Hst} {es : List Evt} {ls : List Value} {s : Nat} (f : MDyn B H P es ls s) (hs : s < 99999) : MDyn B H P es ls (s + 1) :=
 ⟨f.hp, f.hi, f.ev, by have := f.pl; lia, by have := f.el; lia, hs⟩
section
variable {w : World} {A : Around} {B : Bm} {N : Nm} {L : Addr} {env : Env} {Q : Flow → Bm → Vs → Nm → Prop} {mo md hl h hd vd lg rf ol : Addr} {x : Str} {tx tl : Tok} {wid xb : Value} {C : List Od} {cs : List Value}
noncomputable def MRun (w : World) (A : Around) (L : Addr) (env : Env) (Q : Flow → Bm → Vs → Nm → Prop) (mo md hl h hd vd lg rf ol : Addr) (x : Str) (tx tl : Tok) (wid xb : Value) (C : List Od) (cs : List Value) (N : Nm) (B : Bm) (pc : Nat) (a : Int) (m : Value) (P : List Hst) (es : List Evt) (s : Nat) : Prop :=
 ∀ B' H ls wa wd tp ta ts vo, leB B B' → KB w B' → MFix B' mo md hl h hd rf ol x tx C cs → MDyn B' H P es ls s → B' wa = some (.inst 449 wd) → handedIn m = true →
  WL w A rnNs L (mLoop env) Q B' [some (.ref mo), some (.ref ol), some xb, some (.ref wa), vo] ((wd, .att wNs (wV ol pc tp a ta m)) :: (hl, .lst (HR H)) :: HS hd vd lg (.int 99999 tl) (.ref rf) wid ts s ls (HN ol H ++ N))
noncomputable def MEnd (w : World) (A : Around) (L : Addr) (env : Env) (Q : Flow → Bm → Vs → Nm → Prop) (mo md hl h hd vd lg rf ol : Addr) (x : Str) (tx tl : Tok) (wid xb : Value) (C : List Od) (cs : List Value) (N : Nm) (B : Bm) (es : List Evt) (s : Nat) : Prop :=
 ∀ B' ls ts vo, leB B B' → KB w B' → MFix B' mo md hl h hd rf ol x tx C cs → Evs B' es ls → es.length ≤ s →
  WL w A rnNs L (mLoop env) Q B' [some (.ref mo), some (.ref ol), some xb, some .none, vo] ((hl, .lst []) :: HS hd vd lg (.int 99999 tl) (.ref rf) wid ts s ls N)
noncomputable def MPop (w : World) (A : Around) (L : Addr) (env : Env) (Q : Flow → Bm → Vs → Nm → Prop) (mo md hl h hd vd lg rf ol : Addr) (x : Str) (tx tl : Tok) (wid xb : Value) (C : List Od) (cs : List Value) (N : Nm) (B : Bm) (P : List Hst) (es : List Evt) (s : Nat) : Prop :=
 (∀ P' pc a m, P = P' ++ [(pc, a, m)] → MRun w A L env Q mo md hl h hd vd lg rf ol x tx tl wid xb C cs N B pc a m P' es s) ∧ (P = [] → MEnd w A L env Q mo md hl h hd vd lg rf ol x tx tl wid xb C cs N B es s)
theorem m_turn {B : Bm} {pc : Nat} {a : Int} {m : Value} {P : List Hst} {es : List Evt} {s : Nat} {H : List HE} {ls : List Value} {wa wd : Addr} {tp ta ts : Tok} {vo : Option Value} {o : Od}
  (ev : Ev env rnNs rnGs [] L) (K : KB w B) (rm : Rm A 7) (fx : MFix B mo md hl h hd rf ol x tx C cs) (dy : MDyn B H P es ls s) (hw : B wa = some (.inst 449 wd)) (hm : handedIn m = true) (hs : s < 99999) (hpc : C[pc]? = some o) (ho : o ≠ .done) (hC : C.length ≤ 9000)
  (hc : ∀ oa t us ts, IsOd B o (.ref oa) → B oa = some (.tup (.str o.kind t :: us)) → Wc w A (.call (.ref 488) ⟨[.ref mo, .ref oa, .ref wa], []⟩) (fun v B' N' => leB B B' ∧ ((v = .bool true ∧ ∀ vo, KB w B' → WL w A rnNs L (mLoop env) Q B' [some (.ref mo), some (.ref ol), some xb, some (.ref wa), vo] N') ∨
   (v = .bool false ∧ ∃ sl', N' = (wd, sl') :: (hl, .lst (HR H)) :: HS hd vd lg (.int 99999 tl) (.ref rf) wid ts (s + 1) ls (HN ol H ++ N) ∧ MPop w A L env Q mo md hl h hd vd lg rf ol x tx tl wid xb C cs N B' P es (s + 1))))
   B ((wd, .att wNs (wV ol pc tp a ta m)) :: (hl, .lst (HR H)) :: HS hd vd lg (.int 99999 tl) (.ref rf) wid ts (s + 1) ls (HN ol H ++ N))) :
  WL w A rnNs L (mLoop env) Q B [some (.ref mo), some (.ref ol), some xb, some (.ref wa), vo] ((wd, .att wNs (wV ol pc tp a ta m)) :: (hl, .lst (HR H)) :: HS hd vd lg (.int 99999 tl) (.ref rf) wid ts s ls (HN ol H ++ N)) := by
 have m1 := fx.m1
 have m2 := fx.m2
 have o1 := fx.o1
 have hi := fx.ho.inst
 refine cutP fun G1 up1 => ?_
 obtain ⟨ov, hov, hod⟩ := fx.o2.get hpc
 refine up1 ?_
 refine cutP fun G2 up2 => ?_
 obtain ⟨oa, t, us, rfl, hoa, -⟩ := hod.head
 refine up2 ?_
 have hpl : pc < C.length := (List.getElem?_eq_some_iff.mp hpc).1
 refine WL_while ?_
 refine W_tCompare ?_
 k_extra "go"
 k_extra "tf"
 refine W_cons ?_
 k_extra "go"
 refine W_perm (List.perm_middle (l₁ := [(_, _), (_, _)])) (W_codeK (s_step (lim := .none) K (rm.le (by decide)) hi (show ((s : Nat) : Int) < 99999 by lia)) fun G3 up3 => ?_)
 rintro v B' N' - ⟨rfl, rfl, t, rfl⟩
 refine up3 _ _ _ ?_
 refine ⟨fun _ z => (nomatch z), ?_⟩
 refine W_perm (N' := (wd, .att wNs (wV ol pc tp a ta m)) :: (hl, .lst (HR H)) :: HS hd vd lg (.int 99999 tl) (.ref rf) wid t (s + 1) ls (HN ol H ++ N)) (List.perm_middle (l₁ := [(_, _), (_, _)])).symm ?_
 k_extra "go"
 refine W_item_lst (v := .ref oa) (Rd.b o1) (by lia) (by lia) (by simpa using hov) ?_
 k_extra "go"
 refine ite_f (by cases o <;> first | exact absurd rfl ho | rfl) ?_
 k_extra "tf"
 k_extra "go"
 refine ite_f (by cases o <;> rfl) ?_
 k_extra "go"
 refine W_code (hc oa _ us _ hod hoa) ?_
 rintro v B2 N2 - ⟨le, h | ⟨rfl, sl', rfl, hp⟩⟩
 ·obtain ⟨rfl, hh⟩ := h
  k_extra "go"
  k_extra "tf"
  k_extra "go"
  exact hh _ (K.mono le)
 ·have K := K.mono le
  have fx := fx.mono le
  have dy := dy.mono le
  have m1 := fx.m1
  have m2 := fx.m2
  k_extra "go"
  k_extra "tf"
  k_extra "go"
  refine W_less (List.sublist_cons_self _ _) ?_
  rcases List.eq_nil_or_concat H with rfl | ⟨H', e, rfl⟩
  ·refine W_codeK (s_way_back_none K (rm.le (by decide)) m1 m2) fun G4 up4 => ?_
   rintro v B3 N3 - ⟨rfl, rfl, rfl⟩
   refine up4 _ _ _ ?_
   k_extra "run"
   exact hp.2 dy.hp.symm B2 ls _ _ (leB.refl _) K fx dy.ev (by have := dy.el; lia)
  ·rw [List.concat_eq_append] at dy ⊢
   rw [show HR (H' ++ [e]) = HR H' ++ [.ref e.wa] by simp [HR]]
   refine W_code (s_way_back (v := .ref e.wa) K (rm.le (by decide)) m1 m2 ?_) ?_
   ·have := dy.pl
    have hh := congrArg List.length dy.hp
    simp at hh
    have := dy.sl
    simp [HR]; lia
   rintro v B3 N3 - ⟨rfl, rfl, rfl⟩
   obtain ⟨e1, e2⟩ := dy.hi e (by simp)
   rw [show HN ol (H' ++ [e]) = HN ol H' ++ [(e.wd, .att wNs (wV ol e.pc e.tp e.at' e.ta e.m))] by simp [HN]]
   rw [List.append_assoc]
   refine W_perm (N' := (e.wd, .att wNs (wV ol e.pc e.tp e.at' e.ta e.m)) :: (hl, .lst (HR H')) :: HS hd vd lg (.int 99999 tl) (.ref rf) wid t (s + 1) ls (HN ol H' ++ N)) (List.perm_middle (a := (e.wd, _)) (l₁ := [(hl, _), (hd, _), (vd, _), (lg, _)] ++ HN ol H')) ?_
   k_extra "run"
   have hP : P = H'.map HE.h ++ [(e.pc, e.at', e.m)] := by rw [← dy.hp, List.map_append]; rfl
   have := dy.pl
   rw [hP] at this
   exact hp.1 _ _ _ _ hP B2 H' ls e.wa e.wd e.tp e.ta _ _ (leB.refl _) K fx ⟨rfl, fun e' he => dy.hi e' (by simp [he]), dy.ev, by simp at this ⊢; lia, by have := dy.el; lia, hs⟩ e1 e2
end
end
section
section
variable {w : World} {A : Around} {B : Bm} {N : Nm} {L : Addr} {env : Env} {Q : Flow → Bm → Vs → Nm → Prop} {mo md hl h hd vd lg rf ol : Addr} {x : Str} {tx tl : Tok} {wid xb : Value} {C : List Od} {cs : List Value}
theorem MRun.mono {B B' : Bm} {pc : Nat} {a : Int} {m : Value} {P : List Hst} {es : List Evt} {s : Nat} (le : leB B B') (r : MRun w A L env Q mo md hl h hd vd lg rf ol x tx tl wid xb C cs N B pc a m P es s) : MRun w A L env Q mo md hl h hd vd lg rf ol x tx tl wid xb C cs N B' pc a m P es s :=
 fun B2 H ls wa wd tp ta ts vo le2 => r B2 H ls wa wd tp ta ts vo (le.trans le2)
theorem MPop.mono {B B' : Bm} {P : List Hst} {es : List Evt} {s : Nat} (le : leB B B') (r : MPop w A L env Q mo md hl h hd vd lg rf ol x tx tl wid xb C cs N B P es s) : MPop w A L env Q mo md hl h hd vd lg rf ol x tx tl wid xb C cs N B' P es s :=
 ⟨fun P' pc a m e => (r.1 P' pc a m e).mono le, fun e B2 ls ts vo le2 => r.2 e B2 ls ts vo (le.trans le2)⟩
theorem ends_len {x : Str} {a : Int} {lf : Lf} (hx : x.length ≤ 2) (h0 : 0 ≤ a) (hs : lf.single = false) : (pEnds x a lf).length ≤ 3 := by
 cases lf with
 | arb => unfold pEnds; simp; lia
 | bal => exact balEs_len x 3 a
 | _ => cases hs
theorem m_sys (ev : Ev env rnNs rnGs [] L) (rm : Rm A 7) (hx : x.length ≤ 2) (hC : C.length ≤ 9000) :
  MchSys x C (MPop w A L env Q mo md hl h hd vd lg rf ol x tx tl wid xb C cs N) (MRun w A L env Q mo md hl h hd vd lg rf ol x tx tl wid xb C cs N) := by
 refine ⟨?_, ?_, ?_, ?_, ?_, ?_, ?_, ?_, ?_, ?_⟩
 ·intro B B' P es s le r; exact r.mono le
 ·intro B pc a m P es s r
  refine ⟨fun P' pc' a' m' e => ?_, fun e => by simp at e⟩
  obtain ⟨rfl, e2⟩ := List.append_inj' e rfl
  cases e2
  exact r
 ·intro B pc a m P es s lf hs h0 hpc hl1 hf hE hR B1 H ls wa wd tp ta ts vo le1 K fx dy hw hm
  refine m_turn ev K rm fx dy hw hm hs hpc (by intro z; cases z) hC fun oa t us ts hod _ => ?_
  refine cutP fun G1 up1 => ?_
  obtain ⟨t, t', u, ⟨oa', e, ho⟩, hu⟩ := hod
  refine up1 ?_
  cases e
  refine Wc_mono (s_done_one K (rm.le (by decide)) hx h0 fx.m1 fx.m2 hw ho hu hl1 hf) fun v B' N' ⟨le, q⟩ => ⟨le, ?_⟩
  cases e : pEnd x a lf with
  | none =>
   rw [e] at q
   exact .inr ⟨q.1, _, q.2, (hE e).mono (le1.trans le)⟩
  | some e' =>
   rw [e] at q
   refine cutP fun G2 up2 => ?_
   obtain ⟨rfl, tp', te, rfl⟩ := q
   refine up2 ?_
   exact .inl ⟨rfl, fun vo K' => hR e' e B' H ls wa wd tp' te _ vo (le1.trans le) K' (fx.mono le) ((dy.next hs).mono le) (le _ _ hw) hm⟩
 ·intro B pc a m P es s lf hs h0 ha hpc hl1 hE hR B1 H ls wa wd tp ta ts vo le1 K fx dy hw hm
  refine m_turn ev K rm fx dy hw hm hs hpc (by intro z; cases z) hC fun oa t us ts hod hoa => ?_
  refine cutP fun G3 up3 => ?_
  obtain ⟨t, t', oa', e, ho⟩ := hod
  refine up3 ?_
  cases e
  have hpl := dy.pl
  have hsl := dy.sl
  have hHl := congrArg List.length dy.hp
  rw [List.length_map] at hHl
  refine s_done_other (o := .ways lf) K (rm.le (by decide)) fx.m1 fx.m2 ho (.inr ⟨lf, rfl⟩) fun A' rm' => Wc_mono (s_other_ways K rm' hx h0 ha fx.m1 fx.m2 hw hm ho hl1 (ends_len hx h0 hl1) (by simp [HR]; lia)) fun v B' N' ⟨le, q⟩ => ⟨le, ?_⟩
  cases e : pEnds x a lf with
  | nil =>
   rw [e] at q
   exact .inr ⟨q.1, _, q.2, (hE e).mono (le1.trans le)⟩
  | cons e' es' =>
   have hel := ends_len hx h0 hl1
   rw [e] at q hel
   refine cutP fun G4 up4 => ?_
   obtain ⟨rfl, tp', te, Hn, hn1, hn2, rfl⟩ := q
   refine up4 ?_
   refine .inl ⟨rfl, fun vo K' => WL_perm ?_ (hR e' es' e B' (H ++ Hn) ls wa wd tp' te ts vo (le1.trans le) K' (fx.mono le) ?_ (le _ _ hw) hm)⟩
   ·rw [show HR (H ++ Hn) = HR H ++ HR Hn by simp [HR], show HN ol (H ++ Hn) = HN ol H ++ HN ol Hn by simp [HN]]
    refine .cons _ (.cons _ ?_)
    have := (List.perm_append_comm (l₁ := HN ol Hn) (l₂ := [(hd, Slot.att hNs (hVs (.ref vd) (.int 99999 tl) (.ref rf) wid (.int ((s + 1 : Nat) : Int) ts) (.ref lg))), (vd, .sd ls.length), (lg, .lst ls)] ++ HN ol H)).append_right N
    rw [List.append_assoc, List.append_assoc, List.append_assoc, List.append_assoc] at this
    rw [List.append_assoc]
    exact this
   ·refine ⟨by rw [List.map_append, dy.hp, hn1], fun e he => ?_, dy.ev.mono le, ?_, by have := dy.el; lia, hs⟩
    ·rcases List.mem_append.mp he with he | he
     ·exact ⟨le _ _ (dy.hi e he).1, (dy.hi e he).2⟩
     ·refine ⟨hn2 e he, ?_⟩
      have : e.h ∈ Hn.map HE.h := List.mem_map_of_mem he
      rw [hn1] at this
      refine cutP fun G5 up5 => ?_
      obtain ⟨i, _, hi⟩ := List.mem_map.mp this
      refine up5 ?_
      have : e.m = m := by
       have h2 := congrArg (fun p : Hst => p.2.2) hi
       exact h2.symm
      rw [this]; exact hm
    ·simp at hel ⊢; lia
 ·intro B pc a m P es s n hs hpc hR B1 H ls wa wd tp ta ts vo le1 K fx dy hw hm
  refine m_turn ev K rm fx dy hw hm hs hpc (by intro z; cases z) hC fun oa t us ts hod hoa => ?_
  refine cutP fun G6 up6 => ?_
  obtain ⟨t, r, ⟨oa', e, ho⟩, hr⟩ := hod
  refine up6 ?_
  cases e
  have hll := dy.ev.len
  have hel := dy.el
  refine Wc_perm ((List.perm_append_comm (l₁ := [(wd, _), (hl, _)]) (l₂ := [(hd, _), (vd, _), (lg, _)])).append_right (HN ol H ++ N)) (Wc_mono (s_done_place (N := (hl, .lst (HR H)) :: (HN ol H ++ N)) K (rm.le (by decide)) fx.m1 fx.m2 hw ho hr fx.ho.inst fx.ho.ref (by lia) (by lia)) ?_)
  rintro v B' N' hq9
  refine cutP fun G7 up7 => ?_
  obtain ⟨le, rfl, e, tp', tk, he, rfl⟩ := hq9
  refine up7 ?_
  refine ⟨(wd, .att wNs (wV ol (pc + 1) tp' a ta m)) :: (hl, .lst (HR H)) :: HS hd vd lg (.int 99999 tl) (.ref rf) wid ts (s + 1) (ls ++ [.ref e]) (HN ol H ++ N), ?_, le, .inl ⟨rfl, fun vo K' => hR B' (le1.trans le) B' H (ls ++ [.ref e]) wa wd tp' ta ts vo (leB.refl _) K' (fx.mono le) ⟨dy.hp, fun e he => ⟨le _ _ (dy.hi e he).1, (dy.hi e he).2⟩, Evs.snoc ⟨_, rfl, he⟩ (dy.ev.mono le), by have := dy.pl; lia, by simp; lia, hs⟩ (le _ _ hw) hm⟩⟩
  unfold HS
  rw [List.length_append, List.length_singleton]
  exact (List.perm_append_comm (l₁ := [(hd, _), (vd, _), (lg, _)]) (l₂ := [(wd, _), (hl, _)])).append_right (HN ol H ++ N)
 ·intro B pc a m P es s hs hpc hR B1 H ls wa wd tp ta ts vo le1 K fx dy hw hm
  refine m_turn ev K rm fx dy hw hm hs hpc (by intro z; cases z) hC fun oa t us ts hod hoa => ?_
  refine cutP fun G8 up8 => ?_
  obtain ⟨t, oa', e, ho⟩ := hod
  refine up8 ?_
  cases e
  refine s_done_other (o := .fail) K (rm.le (by decide)) fx.m1 fx.m2 ho (.inl rfl) fun A' rm' => Wc_mono (s_other_fail K (rm'.le (by decide)) ho) fun v B' N' ⟨hB, hv, hN⟩ => ?_
  subst hB
  exact ⟨leB.refl _, .inr ⟨hv, _, hN.symm, hR.mono le1⟩⟩
 ·intro B pc a m P es s g hs hpc hR B1 H ls wa wd tp ta ts vo le1 K fx dy hw hm
  refine m_turn ev K rm fx dy hw hm hs hpc (by intro z; cases z) hC fun oa t us ts hod hoa => ?_
  refine cutP fun G9 up9 => ?_
  obtain ⟨t, t', oa', e, ho⟩ := hod
  refine up9 ?_
  cases e
  have hpl := dy.pl
  have hsl := dy.sl
  have hHl := congrArg List.length dy.hp
  rw [List.length_map] at hHl
  refine Wc_mono (s_done_split K (rm.le (by decide)) fx.m1 fx.m2 hw hm ho (by simp [HR]; lia)) ?_
  rintro v B' N' hq9
  refine cutP fun G10 up10 => ?_
  obtain ⟨le, rfl, xa, xd, tp', hx1, rfl⟩ := hq9
  refine up10 ?_
  refine ⟨le, .inl ⟨rfl, fun vo K' => WL_perm ?_ (hR B' (H ++ [⟨xa, xd, g, t', a, ta, m⟩]) ls wa wd tp' ta ts vo (le1.trans le) K' (fx.mono le) ⟨by rw [List.map_append, dy.hp]; rfl, fun e he => ?_, dy.ev.mono le, by simp; lia, by have := dy.el; lia, hs⟩ (le _ _ hw) hm)⟩⟩
  ·rw [show HR (H ++ [⟨xa, xd, g, t', a, ta, m⟩]) = HR H ++ [.ref xa] by simp [HR], show HN ol (H ++ [⟨xa, xd, g, t', a, ta, m⟩]) = HN ol H ++ [(xd, .att wNs (wV ol g t' a ta m))] by simp [HN]]
   rw [List.append_assoc]
   exact (List.perm_middle (a := (xd, _)) (l₁ := [(wd, _), (hl, _), (hd, _), (vd, _), (lg, _)] ++ HN ol H)).symm
  ·rcases List.mem_append.mp he with he | he
   ·exact ⟨le _ _ (dy.hi e he).1, (dy.hi e he).2⟩
   ·rw [List.mem_singleton.mp he]; exact ⟨hx1, hm⟩
 ·intro B pc a m P es s g hs hpc hR B1 H ls wa wd tp ta ts vo le1 K fx dy hw hm
  refine m_turn ev K rm fx dy hw hm hs hpc (by intro z; cases z) hC fun oa t us ts hod hoa => ?_
  refine cutP fun G11 up11 => ?_
  obtain ⟨t, t', oa', e, ho⟩ := hod
  refine up11 ?_
  cases e
  refine Wc_mono (s_done_jump K (rm.le (by decide)) hw ho) ?_
  rintro v B' N' ⟨rfl, rfl, rfl⟩
  exact ⟨leB.refl _, .inl ⟨rfl, fun vo K' => hR B1 H ls wa wd t' ta ts vo le1 K' fx (dy.next hs) hw hm⟩⟩
 ·intro B pc a m P es s hs hpc hR B1 H ls wa wd tp ta ts vo le1 K fx dy hw hm
  refine m_turn ev K rm fx dy hw hm hs hpc (by intro z; cases z) hC fun oa t us ts hod hoa => ?_
  refine cutP fun G12 up12 => ?_
  obtain ⟨t, oa', e, ho⟩ := hod
  refine up12 ?_
  cases e
  refine Wc_mono (s_done_mark K (rm.le (by decide)) hw hm ho) ?_
  rintro v B' N' hq9
  refine cutP fun G13 up13 => ?_
  obtain ⟨le, rfl, ma, tp', hma, rfl⟩ := hq9
  refine up13 ?_
  exact ⟨le, .inl ⟨rfl, fun vo K' => hR B' (.ref ma) ta (le1.trans le) ⟨_, rfl, hma⟩ B' H ls wa wd tp' ta ts vo (leB.refl _) K' (fx.mono le) ((dy.next hs).mono le) (le _ _ hw) rfl⟩⟩
 ·intro B pc a b m m0 t P es s hs hm0 hpc hmm hR hE B1 H ls wa wd tp ta ts vo le1 K fx dy hw hm
  refine cutP fun G14 up14 => ?_
  obtain ⟨ma, rfl, hma⟩ := hmm.mono le1
  refine up14 ?_
  refine m_turn ev K rm fx dy hw hm hs hpc (by intro z; cases z) hC fun oa t us ts hod hoa => ?_
  refine cutP fun G15 up15 => ?_
  obtain ⟨t, oa', e, ho⟩ := hod
  refine up15 ?_
  cases e
  refine Wc_mono (s_done_gain K (rm.le (by decide)) hx fx.m1 fx.m2 hw ho hma) ?_
  rintro v B' N' ⟨rfl, q⟩
  refine ⟨leB.refl _, ?_⟩
  split at q
  ·rename_i hlt
   refine cutP fun G16 up16 => ?_
   obtain ⟨rfl, tp', rfl⟩ := q
   refine up16 ?_
   exact .inl ⟨rfl, fun vo K' => hR hlt B1 H ls wa wd tp' ta ts vo le1 K' fx (dy.next hs) hw hm0⟩
  ·rename_i hlt
   exact .inr ⟨q.1, _, q.2, (hE hlt).mono le1⟩
end
end
section
section
variable {w : World} {A : Around} {B : Bm} {N : Nm} {d : Nat}
noncomputable def CMW (x : Str) (T : Tr) (a : Int) : Nat := CM x T (fun _ => 1) a
theorem lenT_codeW (T : Tr) : (codeW T)[lenT T]? = some .fail := by
 have : (codeW T) = code T 0 ++ [.fail, .done] := by simp [codeW]
 rw [this, List.getElem?_append_right (by rw [code_len]; exact Nat.le_refl _), code_len, Nat.sub_self]; rfl
theorem codeW_len (T : Tr) : (codeW T).length = lenT T + 2 := by simp [codeW, code_len]
theorem m_whole {L : Addr} {env : Env} {Q : Flow → Bm → Vs → Nm → Prop} {mo md hl h hd vd lg rf ol : Addr} {x : Str} {tx tl : Tok} {wid xb : Value} {cs : List Value} {T : Tr} {a : Int} {es : List Evt} {s : Nat}
  (ev : Ev env rnNs rnGs [] L) (rm : Rm A 7) (hx : x.length ≤ 2) (hT : T.all (Okl x)) (hT' : T.all (Okm x)) (hz : lenT T ≤ 4000) (h0 : 0 ≤ a) (h1 : a ≤ x.length) (hs : s + CMW x T a ≤ 99999)
  (fin : MEnd w A L env Q mo md hl h hd vd lg rf ol x tx tl wid xb (codeW T) cs N B (es ++ EW x T a) (s + CMW x T a)) : MRun w A L env Q mo md hl h hd vd lg rf ol x tx tl wid xb (codeW T) cs N B 0 a .none [] es s := by
 have S := m_sys (w := w) (Q := Q) (mo := mo) (md := md) (hl := hl) (h := h) (hd := hd) (vd := vd) (lg := lg) (rf := rf) (ol := ol) (tx := tx) (tl := tl) (wid := wid) (xb := xb) (C := codeW T) (cs := cs) (N := N) ev rm hx (by rw [codeW_len]; lia)
 refine mach S hx T hT hT' 0 (by have := AtC.whole (code T 0) [.fail, .done]; rw [show code T 0 ++ [Od.fail, Od.done] = codeW T by simp [codeW]] at this; exact this) (k := fun _ => []) (kc := fun _ => 1) rfl h0 h1 hs (fun e B' P es' s' _ _ le hs' hP => S.fail (show s' < 99999 from hs') (by rw [Nat.zero_add]; exact lenT_codeW T) (by simpa using hP)) ?_
 exact ⟨fun P' pc a m e => by simp at e, fun _ => fin⟩
inductive R_run (B : Bm) (N : Nm) (x : Str) (tl : Tok) (a : Int) (wid : Value) (hd : Addr) (vd : Addr) (lg : Addr) (rf : Addr) (T : Tr) (es : List Evt) (s : Nat) (v : Value) (B' : Bm) (N' : Nm) : Prop
 | mk : leB B B' → (∃ t, Tup B' v [.int 1 t, .none]) → ∀ ls' ts', Evs B' (es ++ EW x T a) ls' → (es ++ EW x T a).length ≤ s + CMW x T a → N' = HS hd vd lg (.int 99999 tl) (.ref rf) wid ts' (s + CMW x T a) ls' N → R_run B N x tl a wid hd vd lg rf T es s v B' N'
theorem s_run {x : Str} {tx ta tl ts : Tok} {a : Int} {wid : Value} {mo md hl h hd vd lg rf ol : Addr} {T : Tr} {cs : List Value} {es : List Evt} {ls : List Value} {s : Nat} (K : KB w B) (rm : Rm A 8) (hx : x.length ≤ 2) (hT : T.all (Okl x)) (hT' : T.all (Okm x)) (hz : lenT T ≤ 4000) (h0 : 0 ≤ a) (h1 : a ≤ x.length)
  (fx : MFix B mo md hl h hd rf ol x tx (codeW T) cs) (he : Evs B es ls) (hl' : es.length ≤ s) (hs : s + CMW x T a ≤ 99999) :
  Wc w A (.call (.ref 474) ⟨[.ref mo, .ref ol, .int a ta], []⟩) (R_run B N x tl a wid hd vd lg rf T es s) B ((hl, .lst []) :: HS hd vd lg (.int 99999 tl) (.ref rf) wid ts s ls N) := by
 refine Wc_drop ?_
 refine c_Match_run K rm ?_
 intro L env A' ev rm' hg
 refine W_cons ?_
 k_extra "go"
 refine W_cwCls K (kp_Way _) ?_
 k_extra "go"
 refine W_codeK (s_new_Way (pc := 0) K (rm'.le (by decide))) fun G1 up1 => ?_
 rintro v B1 N1 - ⟨le, wa, wd, rfl, hwa, rfl⟩
 refine up1 _ _ _ ?_
 have K := K.mono le
 k_extra "goW"
 refine W_consW ?_
 refine m_whole (T := T) ev rm' hx hT hT' hz h0 h1 hs ?_ B1 [] ls wa wd _ _ _ _ (leB.refl _) K (fx.mono le) ⟨rfl, fun e he => (nomatch he), he.mono le, by simp, hl', by lia⟩ hwa rfl
 intro B2 ls2 ts2 vo le2 K fx he2 hl2
 refine WL_while ?_
 refine W_tCompare ?_
 k_extra "go"
 k_extra "tf"
 refine W_nil ?_
 refine W_cons ?_
 k_extra "go"
 refine ⟨by k_extra "sz", fun e1 B3 le3 he3 => ?_⟩
 exact ⟨_, List.sublist_cons_self _ _, leB.trans le (leB.trans le2 le3), ⟨_, _, rfl, he3⟩, ls2, _, he2.mono le3, hl2, rfl⟩
noncomputable abbrev R_init_Match (B : Bm) (N : Nm) (o : Addr) (dx : Addr) (h : Addr) (x : Str) (tx : Tok) : Value → Bm → Nm → Prop := fun v B' N' => v = Value.none ∧ B = B' ∧ ∃ hl, N' = (hl, .lst []) :: (o, .inst 526 dx) :: (dx, .att mNs [some (.str x tx), some (.ref h), some (.ref hl)]) :: N
theorem s_init_Match {o dx h : Addr} {x : Str} {tx : Tok} (K : KB w B) (rm : Rm A 1) :
  Wc w A (.call (.ref 467) ⟨[.ref o, .str x tx, .ref h], []⟩) (R_init_Match B N o dx h x tx) B ((o, .inst 526 dx) :: (dx, .att mNs [none, none, none]) :: N) := by
 refine c_Match_init K rm ?_
 intro L env A' ev rm' hg
 refine W_cons ?_
 k_extra "go"
 refine ⟨by k_extra "sz", fun hl => ?_⟩
 k_extra "go"
 exact ⟨rfl, rfl, hl, rfl⟩
inductive R_new_Match (B : Bm) (N : Nm) (h : Addr) (x : Str) (tx : Tok) (v : Value) (B' : Bm) (N' : Nm) : Prop
 | mk : leB B B' → ∀ mo md hl, v = .ref mo → B' mo = some (.inst 526 md) → B' md = some (.att mNs [some (.str x tx), some (.ref h), some (.ref hl)]) → N' = (hl, .lst []) :: N → R_new_Match B N h x tx v B' N'
theorem s_new_Match {h : Addr} {x : Str} {tx : Tok} (K : KB w B) (rm : Rm A 2) :
  Wc w A (.call (.ref 526) ⟨[.str x tx, .ref h], []⟩) (R_new_Match B N h x tx) B N := by
 refine Wc_frzE ?_
 refine Wc_mono (Q := fun v B' N' => leB B B' ∧ ∃ mo md hl, v = .ref mo ∧ B' mo = some (.inst 526 md) ∧ N' = (md, .att mNs [some (.str x tx), some (.ref h), some (.ref hl)]) :: (hl, .lst []) :: N) ?_ ?_
 ·refine Wc_frzE ?_
  refine Wc_make (xs := mNs) K rm (by kernel_rfl) (md_Match_init _) fun o dx A' rm' => ?_
  refine Wc_perm (List.Perm.refl _) (Wc_mono (s_init_Match K rm') ?_)
  rintro v B' N' hq9
  refine cutP fun G2 up2 => ?_
  obtain ⟨rfl, rfl, hl, rfl⟩ := hq9
  refine up2 ?_
  exact ⟨_, (List.perm_middle (l₁ := [(o, _), (dx, _)])).symm, rfl, o, _, _, rfl, fun B'' le hB => ⟨le, o, dx, hl, rfl, hB, rfl⟩⟩
 ·rintro v B' N' hq9
  refine cutP fun G3 up3 => ?_
  obtain ⟨le, mo, md, hl, rfl, h1, rfl⟩ := hq9
  refine up3 ?_
  exact ⟨md, _, _, rfl, fun B'' le' hB => ⟨le.trans le', mo, md, hl, rfl, le' _ _ h1, hB, rfl⟩⟩
noncomputable def CAM (x : Str) (T : Tr) : Nat → Nat
 | 0 => 0
 | n + 1 => CAM x T n + CMW x T n
theorem CAM_le {x : Str} {T : Tr} : ∀ {n m : Nat}, n ≤ m → CAM x T n ≤ CAM x T m
 | n, 0, h => by rw [Nat.le_zero.mp h]; exact Nat.le_refl _
 | n, m + 1, h => by
  rcases Nat.lt_or_ge n (m + 1) with q | q
  ·exact Nat.le_trans (CAM_le (Nat.le_of_lt_succ q)) (Nat.le_add_right _ _)
  ·rw [Nat.le_antisymm h q]; exact Nat.le_refl _
noncomputable abbrev R_match_orders (B : Bm) (N : Nm) (x : Str) (tl : Tok) (wid : Value) (hd : Addr) (vd : Addr) (lg : Addr) (rf : Addr) (T : Tr) : Value → Bm → Nm → Prop := fun v B' N' => leB B B' ∧ v = .none ∧ ∃ ls' ts', Evs B' (EA x T (x.length + 1)) ls' ∧ N' = HS hd vd lg (.int 99999 tl) (.ref rf) wid ts' (CAM x T (x.length + 1)) ls' N
theorem s_match_orders {x : Str} {tx tl ts : Tok} {wid : Value} {h hd vd lg rf ol : Addr} {T : Tr} {cs : List Value} (K : KB w B) (rm : Rm A 9) (hx : x.length ≤ 2) (hT : T.all (Okl x)) (hT' : T.all (Okm x)) (hz : lenT T ≤ 4000)
  (ho : HostOk B h hd rf) (o1 : B ol = some (.lst cs)) (o2 : IsOds B (codeW T) cs) (hs : CAM x T (x.length + 1) ≤ 99999) :
  Wc w A (.call (.ref 544) ⟨[.ref ol, .str x tx, .bool false, .ref h], []⟩) (R_match_orders B N x tl wid hd vd lg rf T) B (HS hd vd lg (.int 99999 tl) (.ref rf) wid ts 0 [] N) := by
 refine Wc_drop ?_
 refine c_match_orders K rm ?_
 intro L env A' ev rm' hg
 refine W_cons ?_
 k_extra "go"
 k_extra "tf"
 k_extra "go"
 refine W_lenStr (by lia) fun u => ?_
 k_extra "go"
 refine W_range1 fun r u1 u2 => ?_
 k_extra "go"
 refine W_iterRng (Rd.n (by k_extra "mem")) (by decide) (by decide) (by lia) (by lia) fun it => ?_
 refine WL_less (N' := (it, .itr (.rng 0 (x.length + 1)) 0) :: HS hd vd lg (.int 99999 tl) (.ref rf) wid ts 0 [] N) (by
  rw [show ((x.length : Int) + 1 - 0).toNat = x.length + 1 by lia]; k_extra "sls") ?_
 refine WL_rec (fun (s : ((Bm × List Value × Tok) × Nat × Option Value × Option Value × Option Value)) => s.1.1) (fun s => [some (.ref ol), some (.str x tx), some (.bool false), some (.ref h), s.2.2.1, s.2.2.2.1, s.2.2.2.2])
  (fun s => (it, .itr (.rng 0 (x.length + 1)) s.2.1) :: HS hd vd lg (.int 99999 tl) (.ref rf) wid s.1.2.2 (CAM x T s.2.1) s.1.2.1 N) (fun s => x.length + 2 - s.2.1)
  (fun s => leB B s.1.1 ∧ s.2.1 ≤ x.length + 1 ∧ Evs s.1.1 (EA x T s.2.1) s.1.2.1 ∧ (EA x T s.2.1).length ≤ CAM x T s.2.1) ?_ ((B, [], ts), 0, none, none, none) ⟨leB.refl _, Nat.zero_le _, rfl, Nat.le_refl _⟩
 intro ⟨⟨B2, ls, ts2⟩, i, vb, vf, vg⟩ ⟨le, hi', hev, hel⟩ ih
 dsimp only at le hi' hev hel ih ⊢
 have K := K.mono le
 have ho := ho.mono le
 have o1 := le _ _ o1
 have o2 := o2.mono le
 refine WL_for ?_
 by_cases q : i < x.length + 1
 ·refine W_nextItem (k := .rng 0 (x.length + 1)) (i := i) (f := fun t => .int (0 + i) t) Up.here trivial (by simp [Itk.item, q]) fun t => ?_
  rw [Int.zero_add]
  have hle : CAM x T i + CMW x T i ≤ CAM x T (x.length + 1) := CAM_le (x := x) (T := T) (n := i + 1) (by lia)
  k_extra "go"
  refine W_cwCls K (kp_Match _) ?_
  k_extra "go"
  refine W_codeK (s_new_Match K (rm'.le (by decide))) fun G4 up4 => ?_
  rintro v B3 N3 - ⟨le3, mo, md, hl, rfl, m1, m2, rfl⟩
  refine up4 _ _ _ ?_
  have K := K.mono le3
  k_extra "go"
  refine W_perm (List.perm_middle (a := (it, _)) (l₁ := [(hl, _), (hd, _), (vd, _), (lg, _)]) |>.symm |> fun z => (List.Perm.swap _ _ _).trans z) ?_
  refine W_codeK (s_run (es := EA x T i) (N := (it, .itr (.rng 0 (x.length + 1)) (i + 1)) :: N) K rm' hx hT hT' hz (by lia) (by lia) ⟨m1, m2, ho.mono le3, le3 _ _ o1, o2.mono le3⟩ (hev.mono le3) hel (by lia)) fun G5 up5 => ?_
  rintro v B4 N4 - ⟨le4, ⟨t4, va, rfl, hva⟩, ls', ts', he', hl', rfl⟩
  refine up5 _ _ _ ?_
  have K := K.mono le4
  k_extra "run"
  refine WL_perm (List.perm_middle (l₁ := [(_, _), (_, _), (_, _)])) ?_
  exact ih ((B4, ls', ts'), i + 1, _, _, _) (by dsimp only; lia) ⟨le.trans (le3.trans le4), by dsimp only; lia, he', hl'⟩
 ·have e : i = x.length + 1 := by lia
  subst e
  refine W_nextEnd (k := .rng 0 (x.length + 1)) (i := x.length + 1) rm'.2.2 Dl.here trivial (by simp [Itk.item]) ?_
  k_extra "go"
  exact ⟨_, List.Sublist.refl _, le, rfl, ls, _, hev, rfl⟩
noncomputable abbrev R_match_compiled (B : Bm) (N : Nm) (x : Str) (tl : Tok) (wid : Value) (hd : Addr) (vd : Addr) (lg : Addr) (rf : Addr) (T : Tr) : Value → Bm → Nm → Prop := fun v B' N' => leB B B' ∧ v = .none ∧ ∃ ls' ts', Evs B' (EA x T (x.length + 1)) ls' ∧ N' = HS hd vd lg (.int 99999 tl) (.ref rf) wid ts' (CAM x T (x.length + 1)) ls' N
theorem s_match_compiled {x : Str} {tx tl ts : Tok} {node wid : Value} {h hd vd lg rf : Addr} {T : Tr} (K : KB w B) (rm : Rm A 10) (hx : x.length ≤ 2) (hT : T.all (Okl x)) (hT' : T.all (Okm x)) (hn : IsWhole B T node)
  (h1 : T.sz ≤ 900) (h2 : wz T ≤ 4000) (hz : lenT T ≤ 4000) (ho : HostOk B h hd rf) (hs : CAM x T (x.length + 1) ≤ 99999) :
  Wc w A (.call (.ref 551) ⟨[node, .str x tx, .bool false, .ref h], []⟩) (R_match_compiled B N x tl wid hd vd lg rf T) B (HS hd vd lg (.int 99999 tl) (.ref rf) wid ts 0 [] N) := by
 refine c_match_compiled K rm ?_
 intro L env A' ev rm' hg
 refine W_cons ?_
 k_extra "go"
 refine W_codeK (s_compile K (rm'.le (by decide)) hn h1 h2 hz) fun G6 up6 => ?_
 rintro v B1 N1 - ⟨le1, ol, cs, rfl, hcs, rfl⟩
 refine up6 _ _ _ ?_
 refine W_frz fun B2 le2 ho2 => ?_
 have le : leB B B2 := leB.trans le1 le2
 have K := K.mono le
 k_extra "go"
 refine W_codeK (s_match_orders (T := T) K rm' hx hT hT' hz (ho.mono le) ho2 (hcs.mono le2) hs) fun G7 up7 => ?_
 rintro v B3 N3 - ⟨le3, rfl, q⟩
 refine up7 _ _ _ ?_
 exact ⟨le.trans le3, rfl, q⟩
end
end
section
noncomputable def AllInt (xs : List Value) : Prop := ∀ v ∈ xs, ∃ i t, v = Value.int i t
noncomputable abbrev BX (bx sc : Addr) (xs : List Value) (c : Int) (tc : Tok) (n : Int) (tn : Tok) (N : Nm) : Nm := (bx, .lst [.ref sc, .int c tc, .int n tn]) :: (sc, .lst xs) :: N
theorem mul_small {a b : Int} (h0 : 0 ≤ a) (h1 : a ≤ 100000) : IntMulOk a b := IntMulOk.of_left (intBits_le_64 (by lia) (by lia))
inductive TkP (B : Bm) (bx sc : Addr) (c n wide : Int) (tn : Tok) (N : Nm) (v : Value) (B' : Bm) (N' : Nm) : Prop
 | mk (eB : B = B') (k : Int) (t : Tok) (xs' : List Value) (tc' : Tok) (ev : v = .int k t) (k0 : 0 ≤ k) (k1 : k < wide) (hx : AllInt xs') (hl : xs'.length ≤ 100) (eN : N' = BX bx sc xs' (c + 1) tc' n tn N) : TkP B bx sc c n wide tn N v B' N'
theorem TkP.go {w : World} {A : Around} {ns : List Str} {L : Addr} {vs : Vs} {B : Bm} {N M : Nm} {f : Value} {as : List Value} {bx sc : Addr} {c n wide : Int} {tn : Tok} {Q : Value → Bm → Vs → Nm → Prop} (hc : Wc w A (.call f ⟨as, []⟩) (TkP B bx sc c n wide tn N) B M)
  (q : ∀ k t xs' tc', 0 ≤ k → k < wide → AllInt xs' → xs'.length ≤ 100 → Q (.int k t) B vs (BX bx sc xs' (c + 1) tc' n tn N)) : W w A ns L (call f as) Q B vs M :=
 W_code hc fun _ _ _ _ ⟨e1, k, t, xs', tc', e2, k0, k1, hx, hl, e3⟩ => by subst e1 e2 e3; exact q k t xs' tc' k0 k1 hx hl
section
variable {w : World} {A : Around} {B : Bm} {N : Nm} {d : Nat}
theorem s_take {bx sc : Addr} {xs : List Value} {c n wide : Int} {tc tn tw : Tok} (K : KB w B) (rm : Rm A 1) (hx : AllInt xs) (hl : xs.length ≤ 100) (h0 : 0 ≤ c) (h1 : c ≤ 1000) (w0 : 0 < wide) (w1 : wide ≤ 100) :
  Wc w A (.call (.ref 656) ⟨[.ref bx, .int wide tw], []⟩) (TkP B bx sc c n wide tn N) B (BX bx sc xs c tc n tn N) := by
 refine Wc_drop ?_
 refine c_law_take K rm ?_
 intro L env A' ev rm' hg
 refine W_cons ?_
 k_extra "go"
 refine W_setLst Up.here (by decide) (by decide) (by simp) ?_
 k_extra "go"
 refine ⟨by k_extra "sz", fun e => ?_⟩
 k_extra "go"
 refine W_neNil rm' (Rd.n (by k_extra "mem")) (Rd.n (by k_extra "mem")) ?_
 k_extra "go"
 cases xs with
 | nil =>
  k_extra "tf"
  k_extra "go"
  refine W_mul (mul_small (by lia) (by lia)) fun t1 => ?_
  k_extra "go"
  refine W_fdiv (by decide) (by decide) fun t2 => ?_
  k_extra "go"
  refine W_fdiv (by decide) (by decide) fun t3 => ?_
  k_extra "go"
  refine W_mod (by lia) fun t => ?_
  exact ⟨_, List.sublist_cons_self _ _, rfl, _, _, [], _, rfl, Int.fmod_nonneg_of_pos _ w0, Int.fmod_lt_of_pos _ w0, fun v hv => (nomatch hv), by simp, rfl⟩
 | cons x xs =>
  k_extra "tf"
  k_extra "go"
  k_extra "pop0"
  ·simp at hl; k_extra "sz"
  refine cutP fun G1 up1 => ?_
  obtain ⟨i, ti, rfl⟩ := hx x (.head _)
  refine up1 ?_
  k_extra "go"
  refine W_mod (by lia) fun t => ?_
  exact ⟨_, List.sublist_cons_self _ _, rfl, _, _, xs, _, rfl, Int.fmod_nonneg_of_pos _ w0, Int.fmod_lt_of_pos _ w0, fun v hv => hx v (.tail _ hv), by simp at hl; lia, rfl⟩
noncomputable def allLf : List Lf := [.len 0, .len 1, .len 2, .any "a", .any "ab", .any "b(", .arb, .pos 0, .pos 1, .pos 2, .tab 0, .tab 1, .tab 2, .span "a", .span "ab", .span "b(", .bal, .rem, .chars "a", .chars "b", .chars "ab", .chars ""]
inductive LfP (B : Bm) (bx sc : Addr) (c n : Int) (tn : Tok) (N : Nm) (v : Value) (B' : Bm) (N' : Nm) : Prop
 | mk (le : leB B B') (lf : Lf) (t : Tok) (u : Value) (xs' : List Value) (c' : Int) (tc' : Tok) (hv : Tup B' v [.str lf.kind t, u]) (hu : lf.told u) (hin : lf ∈ allLf) (hx : AllInt xs') (hl : xs'.length ≤ 100) (c0 : c ≤ c') (c2 : c' ≤ c + 2) (eN : N' = BX bx sc xs' c' tc' n tn N) : LfP B bx sc c n tn N v B' N'
theorem LfP.go {w : World} {A : Around} {ns : List Str} {L : Addr} {vs : Vs} {B : Bm} {N M : Nm} {f : Value} {as : List Value} {bx sc : Addr} {c n : Int} {tn : Tok} {Q : Value → Bm → Vs → Nm → Prop} (hc : Wc w A (.call f ⟨as, []⟩) (LfP B bx sc c n tn N) B M)
  (q : ∀ B' lf t u xs' c' tc' va, leB B B' → B' va = some (.tup [.str lf.kind t, u]) → lf.told u → lf ∈ allLf → AllInt xs' → xs'.length ≤ 100 → c ≤ c' → c' ≤ c + 2 → Q (.ref va) B' vs (BX bx sc xs' c' tc' n tn N)) : W w A ns L (call f as) Q B vs M :=
 W_code hc fun _ _ _ _ ⟨le, lf, t, u, xs', c', tc', ⟨va, e2, hv⟩, hu, hin, hx, hl, c0, c2, e3⟩ => by subst e2 e3; exact q _ lf t u xs' c' tc' va le hv hu hin hx hl c0 c2
theorem all_in {lf : Lf} (i : Nat) (h : allLf[i]? = some lf) : lf ∈ allLf := List.mem_of_getElem? h
theorem LfP.fin1 {B B3 : Bm} {bx sc : Addr} {c n : Int} {tn t : Tok} {N M : Nm} {p : Addr} {kd : Str} {u : Value} {xs' : List Value} {tc' : Tok} (hM : List.Sublist (BX bx sc xs' (c + 1) tc' n tn N) M) (le : leB B B3) (hp : B3 p = some (.tup [.str kd t, u])) (hx : AllInt xs') (hl : xs'.length ≤ 100)
  (lf : Lf) (hk : lf.kind = kd) (hu : lf.told u) (hin : lf ∈ allLf) : ∃ N'', N''.Sublist M ∧ LfP B bx sc c n tn N (.ref p) B3 N'' :=
 ⟨_, hM, le, lf, t, u, xs', _, tc', ⟨p, rfl, hk ▸ hp⟩, hu, hin, hx, hl, by lia, by lia, rfl⟩
theorem LfP.fin2 {B B3 : Bm} {bx sc : Addr} {c n : Int} {tn t : Tok} {N M : Nm} {p : Addr} {kd : Str} {u : Value} {xs' : List Value} {tc' : Tok} (hM : List.Sublist (BX bx sc xs' (c + 1 + 1) tc' n tn N) M) (le : leB B B3) (hp : B3 p = some (.tup [.str kd t, u])) (hx : AllInt xs') (hl : xs'.length ≤ 100)
  (lf : Lf) (hk : lf.kind = kd) (hu : lf.told u) (hin : lf ∈ allLf) : ∃ N'', N''.Sublist M ∧ LfP B bx sc c n tn N (.ref p) B3 N'' :=
 ⟨_, hM, le, lf, t, u, xs', _, tc', ⟨p, rfl, hk ▸ hp⟩, hu, hin, hx, hl, by lia, by lia, rfl⟩
theorem in_len {k : Int} (h0 : 0 ≤ k) (h1 : k < 3) : Lf.len k.toNat ∈ allLf ∧ Lf.pos k.toNat ∈ allLf ∧ Lf.tab k.toNat ∈ allLf := by
 have : k = 0 ∨ k = 1 ∨ k = 2 := by lia
 rcases this with rfl | rfl | rfl
 ·exact ⟨all_in 0 rfl, all_in 7 rfl, all_in 10 rfl⟩
 ·exact ⟨all_in 1 rfl, all_in 8 rfl, all_in 11 rfl⟩
 ·exact ⟨all_in 2 rfl, all_in 9 rfl, all_in 12 rfl⟩
theorem s_leaf {bx sc : Addr} {xs : List Value} {c n : Int} {tc tn : Tok} (K : KB w B) (rm : Rm A 2) (hx : AllInt xs) (hl : xs.length ≤ 100) (h0 : 0 ≤ c) (h1 : c ≤ 900) :
  Wc w A (.call (.ref 663) ⟨[.ref bx], []⟩) (LfP B bx sc c n tn N) B (BX bx sc xs c tc n tn N) := by
 refine Wc_drop ?_
 refine c_law_leaf K rm ?_
 intro L env A' ev rm' hg
 refine W_cons ?_
 k_extra "go"
 refine ⟨by k_extra "sz", fun e => ?_⟩
 k_extra "go"
 refine W_perm (N' := BX bx sc xs c tc n tn ((e, _) :: N)) (List.perm_middle (l₁ := [(bx, _), (sc, _)])).symm (TkP.go (s_take (N := (e, _) :: N) K (rm'.le (by decide)) hx hl h0 (by lia) (by decide) (by decide)) fun k tk xs1 tc1 k0 k1 hx1 hl1 => ?_)
 have hk : k = 0 ∨ k = 1 ∨ k = 2 ∨ k = 3 ∨ k = 4 ∨ k = 5 ∨ k = 6 ∨ k = 7 ∨ k = 8 := by lia
 rcases hk with rfl | rfl | rfl | rfl | rfl | rfl | rfl | rfl | rfl
 ·k_extra "run"
  refine TkP.go (s_take (N := (e, _) :: N) K (rm'.le (by decide)) hx1 hl1 (by lia) (by lia) (by decide) (by decide)) fun j tj xs2 tc2 j0 j1 hx2 hl2 => ?_
  k_extra "go"
  refine ⟨by k_extra "sz", fun p B3 le3 hp => ?_⟩
  exact LfP.fin2 (.cons_cons _ (.cons_cons _ (.cons _ (List.Sublist.refl _)))) le3 hp hx2 hl2 (.len j.toNat) rfl ⟨tj, by rw [Int.toNat_of_nonneg j0]⟩ (in_len j0 j1).1
 ·k_extra "run"
  refine ⟨by k_extra "sz", fun e2 => ?_⟩
  k_extra "go"
  refine W_perm (N' := BX bx sc xs1 (c + 1) tc1 n tn ((e2, _) :: (e, _) :: N)) (List.perm_middle (l₁ := [(bx, _), (sc, _)])).symm (TkP.go (s_take (N := (e2, _) :: (e, _) :: N) K (rm'.le (by decide)) hx1 hl1 (by lia) (by lia) (by decide) (by decide)) fun j tj xs2 tc2 j0 j1 hx2 hl2 => ?_)
  have hj : j = 0 ∨ j = 1 ∨ j = 2 := by lia
  rcases hj with rfl | rfl | rfl
  ·k_extra "run"
   refine ⟨by k_extra "sz", fun p B3 le3 hp => ?_⟩
   exact LfP.fin2 (.cons_cons _ (.cons_cons _ (.cons _ (.cons _ (List.Sublist.refl _))))) le3 hp hx2 hl2 (.any "a") rfl ⟨_, rfl⟩ (all_in 3 rfl)
  ·k_extra "run"
   refine ⟨by k_extra "sz", fun p B3 le3 hp => ?_⟩
   exact LfP.fin2 (.cons_cons _ (.cons_cons _ (.cons _ (.cons _ (List.Sublist.refl _))))) le3 hp hx2 hl2 (.any "ab") rfl ⟨_, rfl⟩ (all_in 4 rfl)
  ·k_extra "run"
   refine ⟨by k_extra "sz", fun p B3 le3 hp => ?_⟩
   exact LfP.fin2 (.cons_cons _ (.cons_cons _ (.cons _ (.cons _ (List.Sublist.refl _))))) le3 hp hx2 hl2 (.any "b(") rfl ⟨_, rfl⟩ (all_in 5 rfl)
 ·k_extra "run"
  refine ⟨by k_extra "sz", fun p B3 le3 hp => ?_⟩
  exact LfP.fin1 (.cons_cons _ (.cons_cons _ (.cons _ (List.Sublist.refl _)))) le3 hp hx1 hl1 (.arb) rfl rfl (all_in 6 rfl)
 ·k_extra "run"
  refine TkP.go (s_take (N := (e, _) :: N) K (rm'.le (by decide)) hx1 hl1 (by lia) (by lia) (by decide) (by decide)) fun j tj xs2 tc2 j0 j1 hx2 hl2 => ?_
  k_extra "go"
  refine ⟨by k_extra "sz", fun p B3 le3 hp => ?_⟩
  exact LfP.fin2 (.cons_cons _ (.cons_cons _ (.cons _ (List.Sublist.refl _)))) le3 hp hx2 hl2 (.pos j.toNat) rfl ⟨tj, by rw [Int.toNat_of_nonneg j0]⟩ (in_len j0 j1).2.1
 ·k_extra "run"
  refine TkP.go (s_take (N := (e, _) :: N) K (rm'.le (by decide)) hx1 hl1 (by lia) (by lia) (by decide) (by decide)) fun j tj xs2 tc2 j0 j1 hx2 hl2 => ?_
  k_extra "go"
  refine ⟨by k_extra "sz", fun p B3 le3 hp => ?_⟩
  exact LfP.fin2 (.cons_cons _ (.cons_cons _ (.cons _ (List.Sublist.refl _)))) le3 hp hx2 hl2 (.tab j.toNat) rfl ⟨tj, by rw [Int.toNat_of_nonneg j0]⟩ (in_len j0 j1).2.2
 ·k_extra "run"
  refine ⟨by k_extra "sz", fun e2 => ?_⟩
  k_extra "go"
  refine W_perm (N' := BX bx sc xs1 (c + 1) tc1 n tn ((e2, _) :: (e, _) :: N)) (List.perm_middle (l₁ := [(bx, _), (sc, _)])).symm (TkP.go (s_take (N := (e2, _) :: (e, _) :: N) K (rm'.le (by decide)) hx1 hl1 (by lia) (by lia) (by decide) (by decide)) fun j tj xs2 tc2 j0 j1 hx2 hl2 => ?_)
  have hj : j = 0 ∨ j = 1 ∨ j = 2 := by lia
  rcases hj with rfl | rfl | rfl
  ·k_extra "run"
   refine ⟨by k_extra "sz", fun p B3 le3 hp => ?_⟩
   exact LfP.fin2 (.cons_cons _ (.cons_cons _ (.cons _ (.cons _ (List.Sublist.refl _))))) le3 hp hx2 hl2 (.span "a") rfl ⟨_, rfl⟩ (all_in 13 rfl)
  ·k_extra "run"
   refine ⟨by k_extra "sz", fun p B3 le3 hp => ?_⟩
   exact LfP.fin2 (.cons_cons _ (.cons_cons _ (.cons _ (.cons _ (List.Sublist.refl _))))) le3 hp hx2 hl2 (.span "ab") rfl ⟨_, rfl⟩ (all_in 14 rfl)
  ·k_extra "run"
   refine ⟨by k_extra "sz", fun p B3 le3 hp => ?_⟩
   exact LfP.fin2 (.cons_cons _ (.cons_cons _ (.cons _ (.cons _ (List.Sublist.refl _))))) le3 hp hx2 hl2 (.span "b(") rfl ⟨_, rfl⟩ (all_in 15 rfl)
 ·k_extra "run"
  refine ⟨by k_extra "sz", fun p B3 le3 hp => ?_⟩
  exact LfP.fin1 (.cons_cons _ (.cons_cons _ (.cons _ (List.Sublist.refl _)))) le3 hp hx1 hl1 (.bal) rfl rfl (all_in 16 rfl)
 ·k_extra "run"
  refine ⟨by k_extra "sz", fun p B3 le3 hp => ?_⟩
  exact LfP.fin1 (.cons_cons _ (.cons_cons _ (.cons _ (List.Sublist.refl _)))) le3 hp hx1 hl1 (.rem) rfl rfl (all_in 17 rfl)
 ·k_extra "run"
  refine ⟨by k_extra "sz", fun e2 => ?_⟩
  k_extra "go"
  refine W_perm (N' := BX bx sc xs1 (c + 1) tc1 n tn ((e2, _) :: (e, _) :: N)) (List.perm_middle (l₁ := [(bx, _), (sc, _)])).symm (TkP.go (s_take (N := (e2, _) :: (e, _) :: N) K (rm'.le (by decide)) hx1 hl1 (by lia) (by lia) (by decide) (by decide)) fun j tj xs2 tc2 j0 j1 hx2 hl2 => ?_)
  have hj : j = 0 ∨ j = 1 ∨ j = 2 ∨ j = 3 := by lia
  rcases hj with rfl | rfl | rfl | rfl
  ·k_extra "run"
   refine ⟨by k_extra "sz", fun p B3 le3 hp => ?_⟩
   exact LfP.fin2 (.cons_cons _ (.cons_cons _ (.cons _ (.cons _ (List.Sublist.refl _))))) le3 hp hx2 hl2 (.chars "a") rfl ⟨_, rfl⟩ (all_in 18 rfl)
  ·k_extra "run"
   refine ⟨by k_extra "sz", fun p B3 le3 hp => ?_⟩
   exact LfP.fin2 (.cons_cons _ (.cons_cons _ (.cons _ (.cons _ (List.Sublist.refl _))))) le3 hp hx2 hl2 (.chars "b") rfl ⟨_, rfl⟩ (all_in 19 rfl)
  ·k_extra "run"
   refine ⟨by k_extra "sz", fun p B3 le3 hp => ?_⟩
   exact LfP.fin2 (.cons_cons _ (.cons_cons _ (.cons _ (.cons _ (List.Sublist.refl _))))) le3 hp hx2 hl2 (.chars "ab") rfl ⟨_, rfl⟩ (all_in 20 rfl)
  ·k_extra "run"
   refine ⟨by k_extra "sz", fun p B3 le3 hp => ?_⟩
   exact LfP.fin2 (.cons_cons _ (.cons_cons _ (.cons _ (.cons _ (List.Sublist.refl _))))) le3 hp hx2 hl2 (.chars "") rfl ⟨_, rfl⟩ (all_in 21 rfl)
end
end
section
noncomputable def IsPart (B : Bm) : Tr → Value → Prop
 | .leaf n lf, v => ∃ t t' u, Tup B v [.str n t, .str lf.kind t', u] ∧ lf.told u
 | .cat n l r, v => ∃ t t' a p q, Tup B v [.str n t, .str "cat" t', .ref a] ∧ B a = some (.lst [p, q]) ∧ IsPart B l p ∧ IsPart B r q
 | .alt n l r, v => ∃ t t' a p q, Tup B v [.str n t, .str "alt" t', .ref a] ∧ B a = some (.lst [p, q]) ∧ IsPart B l p ∧ IsPart B r q
 | .arb n u, v => ∃ t t' a p, Tup B v [.str n t, .str "arbno" t', .ref a] ∧ B a = some (.lst [p]) ∧ IsPart B u p
theorem IsPart.mono {B B' : Bm} (le : leB B B') {T : Tr} {v : Value} (h : IsPart B T v) : IsPart B' T v := by
 revert v
 induction T with
 | leaf n lf => intro v h; refine cutP fun G up => ?_; obtain ⟨t, t', u, h1, h2⟩ := h; exact up ⟨t, t', u, h1.mono le, h2⟩
 | cat n l r il ir => intro v h; refine cutP fun G up => ?_; obtain ⟨t, t', a, p, q, h1, h2, h3, h4⟩ := h; exact up ⟨t, t', a, p, q, h1.mono le, le _ _ h2, il h3, ir h4⟩
 | alt n l r il ir => intro v h; refine cutP fun G up => ?_; obtain ⟨t, t', a, p, q, h1, h2, h3, h4⟩ := h; exact up ⟨t, t', a, p, q, h1.mono le, le _ _ h2, il h3, ir h4⟩
 | arb n u iu => intro v h; refine cutP fun G up => ?_; obtain ⟨t, t', a, p, h1, h2, h3⟩ := h; exact up ⟨t, t', a, p, h1.mono le, le _ _ h2, iu h3⟩
noncomputable def inDeep : Nat → Tr → Prop
 | _, .leaf _ lf => lf ∈ allLf
 | 0, _ => False
 | d + 1, .cat _ l r => inDeep d l ∧ inDeep d r
 | d + 1, .alt _ l r => inDeep d l ∧ inDeep d r
 | d + 1, .arb _ t => inDeep d t
noncomputable def kd : Nat → Int
 | 0 => 2
 | d + 1 => 1 + 2 * kd d
theorem kd.k1 : kd 0 = 2 := rfl
theorem kd.k2 {d} : kd (d + 1) = 1 + 2 * kd d := rfl
noncomputable def kn : Nat → Int
 | 0 => 1
 | d + 1 => 1 + 2 * kn d
theorem kn.k1 : kn 0 = 1 := rfl
theorem kn.k2 {d} : kn (d + 1) = 1 + 2 * kn d := rfl
theorem kd_pos : ∀ d, 2 ≤ kd d
 | 0 => by decide
 | d + 1 => by have := kd_pos d; simp only [kd.k2]; lia
theorem kn_pos : ∀ d, 1 ≤ kn d
 | 0 => by decide
 | d + 1 => by have := kn_pos d; simp only [kn.k2]; lia
noncomputable def okN : Tr → Prop
 | .leaf n _ => n ≠ Str.ofString "end"
 | .cat n l r => n ≠ Str.ofString "end" ∧ okN l ∧ okN r
 | .alt n l r => n ≠ Str.ofString "end" ∧ okN l ∧ okN r
 | .arb n t => n ≠ Str.ofString "end" ∧ okN t
theorem P_ne (x : Str) : Str.ofString "P" ++ x ≠ Str.ofString "end" := fun h => by
 have h2 := congrArg (fun s : Str => s.cps[0]?) h
 have e1 : (Str.ofString "P" ++ x).cps[0]? = some 80 := by
  show ((Str.ofString "P").cps ++ x.cps)[0]? = some 80
  rw [Array.getElem?_append_left (by decide)]; rfl
 have e2 : (Str.ofString "end").cps[0]? = some 101 := rfl
 rw [e1, e2] at h2
 cases h2
noncomputable def Makes (B : Bm) (d : Nat) (kind : Str) (t : Tok) (told : Value) : Prop := ∀ n, n ≠ Str.ofString "end" → ∃ T, inDeep d T ∧ okN T ∧ ∀ B' v t', leB B B' → Tup B' v [.str n t', .str kind t, told] → IsPart B' T v
inductive DrP (d : Nat) (B : Bm) (bx sc : Addr) (c n : Int) (N : Nm) (v : Value) (B' : Bm) (N' : Nm) : Prop
 | mk (le : leB B B') (T : Tr) (xs' : List Value) (c' : Int) (tc' : Tok) (n' : Int) (tn' : Tok) (hT : inDeep d T) (hO : okN T) (hP : IsPart B' T v) (hx : AllInt xs') (hl : xs'.length ≤ 100) (q1 : c ≤ c') (q2 : c' ≤ c + kd d) (q3 : n ≤ n') (q4 : n' ≤ n + kn d) (eN : N' = BX bx sc xs' c' tc' n' tn' N) : DrP d B bx sc c n N v B' N'
theorem DrP.go {w : World} {A : Around} {ns : List Str} {L : Addr} {vs : Vs} {B : Bm} {N M : Nm} {d : Nat} {f : Value} {as : List Value} {bx sc : Addr} {c n : Int} {Q : Value → Bm → Vs → Nm → Prop} (hc : Wc w A (.call f ⟨as, []⟩) (DrP d B bx sc c n N) B M)
  (q : ∀ v B' T xs' c' tc' n' tn', leB B B' → inDeep d T → okN T → IsPart B' T v → AllInt xs' → xs'.length ≤ 100 → c ≤ c' → c' ≤ c + kd d → n ≤ n' → n' ≤ n + kn d → Q v B' vs (BX bx sc xs' c' tc' n' tn' N)) : W w A ns L (call f as) Q B vs M :=
 W_code hc fun v B' _ _ ⟨le, T, xs', c', tc', n', tn', hT, hO, hP, hx, hl, q1, q2, q3, q4, e⟩ => by subst e; exact q v B' T xs' c' tc' n' tn' le hT hO hP hx hl q1 q2 q3 q4
section
variable {w : World} {A : Around} {B : Bm} {N : Nm} {d : Nat}
theorem W_strInt2 {ns : List Str} {L : Addr} {vs : Vs} {n : Int} {t : Tok} {Q : Value → Bm → Vs → Nm → Prop} (h0 : 0 ≤ n) (h : n ≤ 100000) (q : ∀ x t', x.length ≤ 6 → Q (.str x t') B vs N) : W w A ns L (call (.type "str") [.int n t]) Q B vs N :=
 W_readT (r := fun t' => .str (toString n) t') (fun s F c k => PySem.P.str_of_int (by
  have h3 : n.natAbs.log2 < 20 := by
   by_cases hz : n.natAbs = 0
   ·rw [hz]; decide
   ·exact (Nat.log2_lt hz).mpr (by lia)
  lia) (k _ _)) fun t' => q _ t' (toString_length_le h0 (by decide) (by lia))
theorem drawn_end {L : Addr} {env : Env} {ns gs : List Str} (hns : ns = [Str.ofString "box", Str.ofString "deep", Str.ofString "kind", Str.ofString "told"]) (hgs : gs = [Str.ofString "_law_take", Str.ofString "_law_leaf", Str.ofString "_law_drawn", Str.ofString "str"])
  (ev : Ev env ns gs [] L) (K : KB w B) (rm : Rm A 0) {bx sc : Addr} {xs : List Value} {c n : Int} {tc tn t : Tok} {vd : Value} {kind : Str} {told : Value} {Q : Value → Bm → Nm → Prop} (hn0 : 0 ≤ n) (hn1 : n ≤ 1000) (mk : Makes B d kind t told)
  (h : ∀ B' T v tn', leB B B' → inDeep d T → okN T → IsPart B' T v → Q v B' (BX bx sc xs c tc (n + 1) tn' N)) :
  W w A ns L (execs ((dBody (st 96)).drop 2) env) (fun fl B' vs' N' => Q (retOf fl) B' N') B [some (.ref bx), some vd, some (.str kind t), some told] (BX bx sc xs c tc n tn N) := by
 subst hns hgs
 refine W_cons ?_
 k_extra "go"
 refine W_setLst Up.here (by decide) (by decide) (by simp) ?_
 k_extra "go"
 refine W_strInt2 (by lia) (by lia) fun x t' hx => ?_
 refine W_addStr (by rw [sizeLine_eq, show (Str.ofString "P").length = 1 from by decide]; lia) fun t2 => ?_
 k_extra "go"
 refine ⟨by k_extra "sz", fun p B1 le1 hp => ?_⟩
 refine cutP fun G1 up1 => ?_
 obtain ⟨T, h1, h3, h2⟩ := mk (Str.ofString "P" ++ x) (P_ne x)
 refine up1 ?_
 exact h B1 T _ _ le1 h1 h3 (h2 B1 _ _ le1 ⟨_, rfl, hp⟩)
theorem s_drawn : ∀ (d : Nat) {A : Around} {B : Bm} {N : Nm} {bx sc : Addr} {xs : List Value} {c n : Int} {tc tn td : Tok} (K : KB w B) (rm : Rm A (3 + d)) (hx : AllInt xs) (hl : xs.length ≤ 100) (h0 : 0 ≤ c) (h1 : c + kd d ≤ 900) (hn0 : 0 ≤ n) (hn1 : n + kn d ≤ 1000) (hd : d ≤ 10),
  Wc w A (.call (.ref 670) ⟨[.ref bx, .int d td], []⟩) (DrP d B bx sc c n N) B (BX bx sc xs c tc n tn N)
 | 0, A, B, N, bx, sc, xs, c, n, tc, tn, td, K, rm, hx, hl, h0, h1, hn0, hn1, hd => by
  refine c_law_drawn K rm ?_
  intro L env A' ev rm' hg
  simp only [kd.k1, kd.k2, kn.k1, kn.k2] at h1 hn1
  refine W_seqJ (fun R => ∀ t, R B [some (.ref bx), some (.int ((0 : Nat) : Int) td), some (.str "leaf" t), none] (BX bx sc xs c tc n tn N)) (fun R jp => ?_) fun t => ?_
  ·k_extra "run"
   exact jp _
  refine W_seqJ (fun R => ∀ B1 lf t u xs1 c1 tc1, leB B B1 → lf.told u → lf ∈ allLf → AllInt xs1 → xs1.length ≤ 100 → c ≤ c1 → c1 ≤ c + 2 → R B1 [some (.ref bx), some (.int ((0 : Nat) : Int) td), some (.str lf.kind t), some u] (BX bx sc xs1 c1 tc1 n tn N)) (fun R jp => ?_) fun B1 lf t u xs1 c1 tc1 le1 hu hin hx1 hl1 c0 c2 => ?_
  ·k_extra "run"
   refine LfP.go (s_leaf K rm' hx hl h0 (by lia)) fun B1 lf t u xs1 c1 tc1 va le1 hv hu hin hx1 hl1 c0 c2 => ?_
   have K := K.mono le1
   k_extra "go"
   exact jp B1 lf t u xs1 c1 tc1 le1 hu hin hx1 hl1 c0 c2
  have K := K.mono le1
  refine drawn_end (Q := DrP 0 B bx sc c n N) (d := 0) rfl rfl ev K (rm'.le (by decide)) hn0 (by lia) (fun n hne => ⟨.leaf n lf, hin, hne, fun B' v t' le hv => ⟨t', _, _, hv, hu⟩⟩) fun B2 T v tn2 le2 hT hO hP => ?_
  exact ⟨le1.trans le2, T, xs1, c1, tc1, n + 1, tn2, hT, hO, hP, hx1, hl1, c0, c2, by lia, by simp only [kn.k1]; lia, rfl⟩
 | d + 1, A, B, N, bx, sc, xs, c, n, tc, tn, td, K, rm, hx, hl, h0, h1, hn0, hn1, hd => by
  refine Wc_drop ?_
  refine c_law_drawn K (show Rm A (3 + d + 1) from rm) ?_
  intro L env A' ev rm' hg
  have kp := kd_pos d
  have kp2 := kn_pos d
  simp only [kd.k1, kd.k2, kn.k1, kn.k2] at h1 hn1
  refine W_seqJ (fun R => ∀ kind t xs1 tc1 g, (kind = Str.ofString "cat" ∨ kind = Str.ofString "alt" ∨ kind = Str.ofString "arbno" ∨ kind = Str.ofString "leaf") → AllInt xs1 → xs1.length ≤ 100 → R B [some (.ref bx), some (.int ((d + 1 : Nat) : Int) td), some (.str kind t), none] (BX bx sc xs1 (c + 1) tc1 n tn (g :: N))) (fun R jp => ?_) fun kind t xs1 tc1 g hk hx1 hl1 => ?_
  ·k_extra "go"
   refine ite_t (by simp) ?_
   k_extra "go"
   refine ⟨by k_extra "sz", fun e => ?_⟩
   k_extra "go"
   refine W_perm (N' := BX bx sc xs c tc n tn ((e, _) :: N)) (List.perm_middle (l₁ := [(bx, _), (sc, _)])).symm (TkP.go (s_take (N := (e, _) :: N) K (rm'.le (by lia)) hx hl h0 (by lia) (by decide) (by decide)) fun k tk xs1 tc1 k0 k1 hx1 hl1 => ?_)
   have hk : k = 0 ∨ k = 1 ∨ k = 2 ∨ k = 3 ∨ k = 4 ∨ k = 5 ∨ k = 6 := by lia
   rcases hk with rfl | rfl | rfl | rfl | rfl | rfl | rfl
   ·k_extra "go"; exact jp _ _ xs1 tc1 _ (.inl rfl) hx1 hl1
   ·k_extra "go"; exact jp _ _ xs1 tc1 _ (.inr (.inl rfl)) hx1 hl1
   ·k_extra "go"; exact jp _ _ xs1 tc1 _ (.inl rfl) hx1 hl1
   ·k_extra "go"; exact jp _ _ xs1 tc1 _ (.inr (.inl rfl)) hx1 hl1
   ·k_extra "go"; exact jp _ _ xs1 tc1 _ (.inr (.inr (.inl rfl))) hx1 hl1
   ·k_extra "go"; exact jp _ _ xs1 tc1 _ (.inr (.inr (.inr rfl))) hx1 hl1
   ·k_extra "go"; exact jp _ _ xs1 tc1 _ (.inr (.inr (.inr rfl))) hx1 hl1
  ·have e1 : (((d + 1 : Nat) : Int) - 1) = (d : Int) := by lia
   refine W_seqJ (fun R => ∀ B1 kd2 t2 told xs2 c2 tc2 n2 tn2 S, leB B B1 → Makes B1 (d + 1) kd2 t2 told → AllInt xs2 → xs2.length ≤ 100 → c ≤ c2 → c2 ≤ c + (1 + 2 * kd d) → n ≤ n2 → n2 ≤ n + 2 * kn d → R B1 [some (.ref bx), some (.int ((d + 1 : Nat) : Int) td), some (.str kd2 t2), some told] (BX bx sc xs2 c2 tc2 n2 tn2 (S ++ N))) (fun R jp => ?_) fun B1 kd2 t2 told xs2 c2 tc2 n2 tn2 S le1 mk hx2 hl2 q1 q2 q3 q4 => ?_
   ·rcases hk with rfl | rfl | rfl | rfl
    ·k_extra "run"
     rw [e1]
     refine DrP.go (s_drawn d (N := g :: N) K rm' hx1 hl1 (by lia) (by lia) hn0 (by lia) (by lia)) fun v1 B1 T1 xs2 c2 tc2 n2 tn2 le1 hT1 hO1 hP1 hx2 hl2 q1 q2 q3 q4 => ?_
     have K := K.mono le1
     k_extra "go"
     rw [e1]
     refine DrP.go (s_drawn d (N := g :: N) K rm' hx2 hl2 (by lia) (by lia) (by lia) (by lia) (by lia)) fun v2 B2 T2 xs3 c3 tc3 n3 tn3 le2 hT2 hO2 hP2 hx3 hl3 q5 q6 q7 q8 => ?_
     have K := K.mono le2
     k_extra "go"
     refine ⟨by k_extra "sz", fun l => ?_⟩
     refine W_frz fun B3 le3 hl => ?_
     have K := K.mono le3
     k_extra "go"
     exact jp B3 _ _ (.ref l) xs3 c3 tc3 n3 tn3 [g] (le1.trans (leB.trans le2 le3)) (fun n hne => ⟨.cat n T1 T2, ⟨hT1, hT2⟩, ⟨hne, hO1, hO2⟩, fun B' v t' le hv => ⟨_, _, l, v1, v2, hv, le _ _ hl, (hP1.mono (leB.trans le2 le3)).mono le, (hP2.mono le3).mono le⟩⟩) hx3 hl3 (by lia) (by lia) (by lia) (by lia)
    ·k_extra "run"
     rw [e1]
     refine DrP.go (s_drawn d (N := g :: N) K rm' hx1 hl1 (by lia) (by lia) hn0 (by lia) (by lia)) fun v1 B1 T1 xs2 c2 tc2 n2 tn2 le1 hT1 hO1 hP1 hx2 hl2 q1 q2 q3 q4 => ?_
     have K := K.mono le1
     k_extra "go"
     rw [e1]
     refine DrP.go (s_drawn d (N := g :: N) K rm' hx2 hl2 (by lia) (by lia) (by lia) (by lia) (by lia)) fun v2 B2 T2 xs3 c3 tc3 n3 tn3 le2 hT2 hO2 hP2 hx3 hl3 q5 q6 q7 q8 => ?_
     have K := K.mono le2
     k_extra "go"
     refine ⟨by k_extra "sz", fun l => ?_⟩
     refine W_frz fun B3 le3 hl => ?_
     have K := K.mono le3
     k_extra "go"
     exact jp B3 _ _ (.ref l) xs3 c3 tc3 n3 tn3 [g] (le1.trans (leB.trans le2 le3)) (fun n hne => ⟨.alt n T1 T2, ⟨hT1, hT2⟩, ⟨hne, hO1, hO2⟩, fun B' v t' le hv => ⟨_, _, l, v1, v2, hv, le _ _ hl, (hP1.mono (leB.trans le2 le3)).mono le, (hP2.mono le3).mono le⟩⟩) hx3 hl3 (by lia) (by lia) (by lia) (by lia)
    ·k_extra "run"
     rw [e1]
     refine DrP.go (s_drawn d (N := g :: N) K rm' hx1 hl1 (by lia) (by lia) hn0 (by lia) (by lia)) fun v1 B1 T1 xs2 c2 tc2 n2 tn2 le1 hT1 hO1 hP1 hx2 hl2 q1 q2 q3 q4 => ?_
     have K := K.mono le1
     k_extra "go"
     refine ⟨by k_extra "sz", fun l => ?_⟩
     refine W_frz fun B3 le3 hl => ?_
     have K := K.mono le3
     k_extra "go"
     exact jp B3 _ _ (.ref l) xs2 c2 tc2 n2 tn2 [g] (le1.trans le3) (fun n hne => ⟨.arb n T1, hT1, ⟨hne, hO1⟩, fun B' v t' le hv => ⟨_, _, l, v1, hv, le _ _ hl, (hP1.mono le3).mono le⟩⟩) hx2 hl2 (by lia) (by lia) (by lia) (by lia)
    ·k_extra "run"
     refine LfP.go (s_leaf (N := g :: N) K (rm'.le (by lia)) hx1 hl1 (by lia) (by lia)) fun B1 lf t u xs2 c1 tc1 va le1 hv hu hin hx2 hl2 c0 c2 => ?_
     have K := K.mono le1
     k_extra "go"
     exact jp B1 _ _ u xs2 c1 tc1 n tn [g] le1 (fun n hne => ⟨.leaf n lf, hin, hne, fun B' v t' le hv => ⟨t', _, _, hv, hu⟩⟩) hx2 hl2 (by lia) (by lia) (by lia) (by lia)
   ·refine drawn_end (Q := fun v B' N' => ∃ N'', N''.Sublist N' ∧ DrP (d + 1) B bx sc c n N v B' N'') (d := d + 1) (n := n2) rfl rfl ev (K.mono le1) (rm'.le (by lia)) (by lia) (by lia) mk fun B2 T v tn3 le2 hT hO hP => ?_
    exact ⟨BX bx sc xs2 c2 tc2 (n2 + 1) tn3 N, .cons_cons _ (.cons_cons _ (List.sublist_append_right _ _)), le1.trans le2, T, xs2, c2, tc2, n2 + 1, tn3, hT, hO, hP, hx2, hl2, q1, by simp only [kd.k1, kd.k2]; lia, by lia, by simp only [kn.k1, kn.k2]; lia, rfl⟩
end
end
section
section
variable {w : World} {A : Around} {B : Bm} {N : Nm} {d : Nat}
noncomputable abbrev R_init_NameRef (B : Bm) (N : Nm) (x : Addr) (dx : Addr) (v1 : Value) (v2 : Value) (n : Str) (t : Tok) : Value → Bm → Nm → Prop := fun v B' N' => v = Value.none ∧ B = B' ∧ N' = (x, .inst 208 dx) :: (dx, .att rNs [some v1, some v2, some (.str n t)]) :: N
theorem s_init_NameRef {x dx : Addr} {v1 v2 : Value} {n : Str} {t : Tok} (K : KB w B) (rm : Rm A 1) :
  Wc w A (.call (.ref 205) ⟨[.ref x, v1, v2, .str n t], []⟩) (R_init_NameRef B N x dx v1 v2 n t) B ((x, .inst 208 dx) :: (dx, .att rNs [none, none, none]) :: N) := by
 refine c_NameRef_init K rm ?_
 intro L env A' ev rm' hg
 refine W_cons ?_
 k_extra "go"
 exact ⟨rfl, rfl, rfl⟩
noncomputable abbrev R_new_NameRef (B : Bm) (N : Nm) (n : Str) : Value → Bm → Nm → Prop := fun v B' N' => leB B B' ∧ ∃ r, v = .ref r ∧ IsRf B' n r ∧ N = N'
theorem s_new_NameRef {v1 v2 : Value} {n : Str} {t : Tok} (K : KB w B) (rm : Rm A 2) :
  Wc w A (.call (.ref 208) ⟨[v1, v2, .str n t], []⟩) (R_new_NameRef B N n) B N := by
 refine Wc_frzE ?_
 refine Wc_mono (Q := fun v B' N' => leB B B' ∧ ∃ x dx, v = .ref x ∧ B' x = some (.inst 208 dx) ∧ N' = (dx, .att rNs [some v1, some v2, some (.str n t)]) :: N) ?_ ?_
 ·refine Wc_frzE ?_
  refine Wc_make (xs := rNs) K rm (by kernel_rfl) (md_NameRef_init _) fun o dx A' rm' => ?_
  refine Wc_mono (s_init_NameRef K rm') ?_
  rintro v B' N' ⟨rfl, rfl, rfl⟩
  exact ⟨rfl, o, _, _, rfl, fun B'' le hB => ⟨le, o, dx, rfl, hB, rfl⟩⟩
 ·rintro v B' N' hq9
  refine cutP fun G1 up1 => ?_
  obtain ⟨le, o, dx, rfl, h1, rfl⟩ := hq9
  refine up1 ?_
  exact ⟨dx, _, _, rfl, fun B'' le' hB => ⟨le.trans le', o, rfl, ⟨dx, v1, v2, t, le' _ _ h1, hB⟩, rfl⟩⟩
theorem told_none {lf : Lf} {u : Value} (h : lf.told u) : (u == Value.none) = (match lf with | .arb => true | .bal => true | .rem => true | _ => false) := by
 cases lf with
 | arb => cases h; rfl
 | bal => cases h; rfl
 | rem => cases h; rfl
 | len k => obtain ⟨t, rfl⟩ := h; rfl
 | pos k => obtain ⟨t, rfl⟩ := h; rfl
 | tab k => obtain ⟨t, rfl⟩ := h; rfl
 | any k => obtain ⟨t, rfl⟩ := h; rfl
 | span k => obtain ⟨t, rfl⟩ := h; rfl
 | chars k => obtain ⟨t, rfl⟩ := h; rfl
theorem node_end {L : Addr} {env : Env} {ns gs : List Str} (hns : ns = [Str.ofString "part", Str.ofString "number", Str.ofString "kind", Str.ofString "told", Str.ofString "inner"]) (hgs : gs = [Str.ofString "_law_node", Str.ofString "NameRef"])
  (ev : Ev env ns gs [] L) (K : KB w B) (rm : Rm A 2) {n : Str} {t : Tok} {vp vk vt inner : Value} {Q : Value → Bm → Nm → Prop}
  (h : ∀ B' v c t', leB B B' → Tup B' v [.str "cat" t', inner, c] → IsCur B' n c → Q v B' N) :
  W w A ns L (execs ((dBody (st 97)).drop 4) env) (fun fl B' vs' N' => Q (retOf fl) B' N') B [some vp, some (.str n t), some vk, some vt, some inner] N := by
 subst hns hgs
 refine W_cons ?_
 k_extra "go"
 refine W_cwCls K (kp_NameRef _) ?_
 k_extra "go"
 refine W_codeK (s_new_NameRef K rm) fun G2 up2 => ?_
 rintro v B1 N1 - ⟨le1, r, rfl, hr, rfl⟩
 refine up2 _ _ _ ?_
 have K := K.mono le1
 k_extra "go"
 refine ⟨by k_extra "sz", fun p B2 le2 hp => ?_⟩
 k_extra "go"
 refine ⟨by k_extra "sz", fun q B3 le3 hq => ?_⟩
 exact h B3 _ _ _ (leB.trans le1 (leB.trans le2 le3)) ⟨_, rfl, hq⟩ ⟨r, _, (hr.mono le2).mono le3, _, rfl, le3 _ _ hp⟩
theorem s_node (T : Tr) : ∀ (d : Nat) {A : Around} {B : Bm} {N : Nm} {v : Value} (K : KB w B) (rm : Rm A (4 + d)) (hd : inDeep d T) (hP : IsPart B T v),
  Wc w A (.call (.ref 677) ⟨[v], []⟩) (fun v B' N' => leB B B' ∧ IsNode B' T v ∧ N = N') B N := by
 induction T with
 | leaf n lf =>
  intro d A B N v K rm hd hP
  refine cutP fun G3 up3 => ?_
  obtain ⟨t, t', u, ⟨va, rfl, hv⟩, hu⟩ := hP
  refine up3 ?_
  refine c_law_node K (show Rm A (3 + d + 1) from rm.le (by lia)) ?_
  intro L env A' ev rm' hg
  refine W_cons ?_
  k_extra "go"
  rw [told_none hu]
  have fin : ∀ B1 inner, leB B B1 → KB w B1 → IsLf B1 lf inner → W w A' _ L (execs ((dBody (st 97)).drop 4) env) (fun fl B' vs' N' => leB B B' ∧ IsNode B' (.leaf n lf) (retOf fl) ∧ N = N') B1 [some (.ref va), some (.str n t), some (.str lf.kind t'), some u, some inner] N := fun B1 inner le1 K hl =>
   node_end (Q := fun v B' N' => leB B B' ∧ IsNode B' (.leaf n lf) v ∧ N = N') rfl rfl ev K (rm'.le (by lia)) fun B2 v c t' le2 hv hc => ⟨le1.trans le2, ⟨t', inner, c, hv, hc, hl.mono le2⟩, rfl⟩
  have k1 : ([Str.ofString "cat", Str.ofString "alt"].any fun x => x == lf.kind) = false := by cases lf <;> kernel_rfl
  have k2 : (lf.kind == Str.ofString "arbno") = false := by cases lf <;> kernel_rfl
  refine ite_b (fun hn => ?_) fun hn => ?_
  ·k_extra "go"
   refine ⟨by k_extra "sz", fun p B1 le1 hp => ?_⟩
   have K := K.mono le1
   k_extra "go"
   refine ite_f k1 ?_
   k_extra "go"
   refine ite_f k2 ?_
   k_extra "runR"
   exact fin B1 _ le1 K (by cases lf <;> first | exact ⟨_, _, rfl, hp⟩ | cases hn)
  ·k_extra "go"
   refine ⟨by k_extra "sz", fun p B1 le1 hp => ?_⟩
   have K := K.mono le1
   k_extra "go"
   refine ite_f k1 ?_
   k_extra "go"
   refine ite_f k2 ?_
   k_extra "runR"
   exact fin B1 _ le1 K (by cases lf <;> first | exact ⟨_, _, hu, _, rfl, hp⟩ | cases hn)
 | arb n u ih =>
  intro d A B N v K rm hd hP
  rcases d with _ | d
  ·exact False.elim hd
  refine cutP fun G4 up4 => ?_
  obtain ⟨t, t', a, p, ⟨va, rfl, hv⟩, ha, hp⟩ := hP
  refine up4 ?_
  refine c_law_node K (show Rm A (4 + d + 1) from rm.le (by lia)) ?_
  intro L env A' ev rm' hg
  refine W_cons ?_
  k_extra "run"
  refine ⟨by k_extra "sz", fun e1 B1 le1 he1 => ?_⟩
  have K := K.mono le1
  have ha := le1 _ _ ha
  k_extra "run"
  refine W_codeK (ih d K rm' hd (hp.mono le1)) fun G5 up5 => ?_
  rintro v1 B2 N2 - ⟨le2, hn, rfl⟩
  refine up5 _ _ _ ?_
  have K := K.mono le2
  k_extra "go"
  refine ⟨by k_extra "sz", fun e2 B3 le3 he2 => ?_⟩
  have K := K.mono le3
  k_extra "runR"
  exact node_end (Q := fun v B' N' => leB B B' ∧ IsNode B' (.arb n u) v ∧ N = N') rfl rfl ev K (rm'.le (by lia)) fun B4 v c t' le4 hv hc => ⟨leB.trans le1 (leB.trans le2 (leB.trans le3 le4)), ⟨t', _, c, hv, hc, _, _, ⟨_, rfl, le4 _ _ he2⟩, (hn.mono le3).mono le4⟩, rfl⟩
 | cat n l r ihl ihr =>
  intro d A B N v K rm hd hP
  rcases d with _ | d
  ·exact False.elim hd
  refine cutP fun G6 up6 => ?_
  obtain ⟨t, t', a, p, q, ⟨va, rfl, hv⟩, ha, hp, hq⟩ := hP
  refine up6 ?_
  refine c_law_node K (show Rm A (4 + d + 1) from rm.le (by lia)) ?_
  intro L env A' ev rm' hg
  refine W_cons ?_
  k_extra "run"
  refine ⟨by k_extra "sz", fun e1 B1 le1 he1 => ?_⟩
  have K := K.mono le1
  have ha := le1 _ _ ha
  k_extra "run"
  refine W_codeK (ihl d K rm' hd.1 (hp.mono le1)) fun G7 up7 => ?_
  rintro v1 B2 N2 - ⟨le2, hn, rfl⟩
  refine up7 _ _ _ ?_
  have K := K.mono le2
  have ha := le2 _ _ ha
  k_extra "go"
  refine W_codeK (ihr d K rm' hd.2 ((hq.mono le1).mono le2)) fun G8 up8 => ?_
  rintro v2 B3 N3 - ⟨le3, hn2, rfl⟩
  refine up8 _ _ _ ?_
  have K := K.mono le3
  k_extra "go"
  refine ⟨by k_extra "sz", fun e2 B4 le4 he2 => ?_⟩
  have K := K.mono le4
  k_extra "runR"
  exact node_end (Q := fun v B' N' => leB B B' ∧ IsNode B' (.cat n l r) v ∧ N = N') rfl rfl ev K (rm'.le (by lia)) fun B5 v c t' le5 hv hc => ⟨leB.trans le1 (leB.trans le2 (leB.trans le3 (leB.trans le4 le5))), ⟨t', _, c, hv, hc, _, _, _, ⟨_, rfl, le5 _ _ he2⟩, ((hn.mono le3).mono le4).mono le5, (hn2.mono le4).mono le5⟩, rfl⟩
 | alt n l r ihl ihr =>
  intro d A B N v K rm hd hP
  rcases d with _ | d
  ·exact False.elim hd
  refine cutP fun G9 up9 => ?_
  obtain ⟨t, t', a, p, q, ⟨va, rfl, hv⟩, ha, hp, hq⟩ := hP
  refine up9 ?_
  refine c_law_node K (show Rm A (4 + d + 1) from rm.le (by lia)) ?_
  intro L env A' ev rm' hg
  refine W_cons ?_
  k_extra "run"
  refine ⟨by k_extra "sz", fun e1 B1 le1 he1 => ?_⟩
  have K := K.mono le1
  have ha := le1 _ _ ha
  k_extra "run"
  refine W_codeK (ihl d K rm' hd.1 (hp.mono le1)) fun G10 up10 => ?_
  rintro v1 B2 N2 - ⟨le2, hn, rfl⟩
  refine up10 _ _ _ ?_
  have K := K.mono le2
  have ha := le2 _ _ ha
  k_extra "go"
  refine W_codeK (ihr d K rm' hd.2 ((hq.mono le1).mono le2)) fun G11 up11 => ?_
  rintro v2 B3 N3 - ⟨le3, hn2, rfl⟩
  refine up11 _ _ _ ?_
  have K := K.mono le3
  k_extra "go"
  refine ⟨by k_extra "sz", fun e2 B4 le4 he2 => ?_⟩
  have K := K.mono le4
  k_extra "runR"
  exact node_end (Q := fun v B' N' => leB B B' ∧ IsNode B' (.alt n l r) v ∧ N = N') rfl rfl ev K (rm'.le (by lia)) fun B5 v c t' le5 hv hc => ⟨leB.trans le1 (leB.trans le2 (leB.trans le3 (leB.trans le4 le5))), ⟨t', _, c, hv, hc, _, _, _, ⟨_, rfl, le5 _ _ he2⟩, ((hn.mono le3).mono le4).mono le5, (hn2.mono le4).mono le5⟩, rfl⟩
end
end
section
noncomputable def par1 (x : Str) : Int := if x = Str.ofString "(" then 1 else if x = Str.ofString ")" then -1 else 0
noncomputable def evenL : List Nat → Int → Bool
 | [], l => decide (l = 0)
 | c :: cs, l => if l + par1 ⟨#[c]⟩ < 0 then false else evenL cs (l + par1 ⟨#[c]⟩)
theorem evenL.k2 {c cs l} : evenL (c :: cs) l = if l + par1 ⟨#[c]⟩ < 0 then false else evenL cs (l + par1 ⟨#[c]⟩) := rfl
theorem val_par (x : Str) (t t' t0 : Tok) : ∃ u, (valueAt [(Str.ofString "(", Value.int 1 t), (Str.ofString ")", Value.int (0 - 1) t')] x).getD (.int 0 t0) = .int (par1 x) u := by
 unfold valueAt par1
 by_cases h1 : Str.ofString "(" = x
 ·subst h1; exact ⟨t, by simp⟩
 ·have h1' : ¬ x = Str.ofString "(" := fun e => h1 e.symm
  by_cases h2 : Str.ofString ")" = x
  ·subst h2; exact ⟨t', by simp [h1, h1']⟩
  ·have h2' : ¬ x = Str.ofString ")" := fun e => h2 e.symm
   exact ⟨t0, by simp [h1, h2, h1', h2']⟩
section
variable {w : World} {A : Around} {B : Bm} {N : Nm} {d : Nat}
theorem s_is_even {x : Str} {t : Tok} (K : KB w B) (rm : Rm A 1) :
  Wc w A (.call (.ref 684) ⟨[.str x t], []⟩) (fun v B' N' => v = .bool (evenL x.cps.toList 0) ∧ B = B' ∧ N = N') B N := by
 refine Wc_drop ?_
 refine c_law_is_even K rm ?_
 intro L env A' ev rm' hg
 refine W_cons ?_
 k_extra "go"
 refine W_iterStr fun it => ?_
 rename_i tl
 refine WL_rec (fun _ => B) (fun (s : Nat × (Int × Tok) × Option Value) => [some (.str x t), some (.int s.2.1.1 s.2.1.2), s.2.2]) (fun s => (it, .itr (.str x t) s.1) :: N) (fun s => x.cps.size + 1 - s.1)
  (fun s => s.1 ≤ x.cps.size ∧ evenL (x.cps.toList.drop s.1) s.2.1.1 = evenL x.cps.toList 0) ?_ (0, (0, tl), none) ⟨Nat.zero_le _, rfl⟩
 intro ⟨i, ⟨lev, tlev⟩, vs⟩ ⟨hi, hr⟩ ih
 dsimp only at hi hr ih ⊢
 rw [← hr]
 refine WL_for ?_
 by_cases q : i < x.cps.size
 ·have hd : x.cps.toList.drop i = x.cps[i] :: x.cps.toList.drop (i + 1) := by
   rw [List.drop_eq_getElem_cons (by simpa using q)]; simp
  rw [hd]
  refine W_nextItem (k := .str x t) (i := i) (f := fun t => .str ⟨#[x.cps[i]]⟩ t) Up.here trivial (by simp [Itk.item, q]) fun u => ?_
  k_extra "go"
  refine W_dict2 (by decide) fun dd o t1 t2 ho => ?_
  refine W_gmDict (Rd.n List.mem_cons_self) ho ?_
  k_extra "go"
  refine W_dictGet K List.mem_cons_self ho ?_
  obtain ⟨t3, e3⟩ := val_par ⟨#[x.cps[i]]⟩ t1 t2 _
  rw [e3]
  k_extra "go"
  refine ite_b (fun h => ?_) fun h => ?_ <;> simp only [decide_eq_true_eq, decide_eq_false_iff_not] at h
  ·k_extra "go"
   exact ⟨_, .cons _ (.cons _ (List.Sublist.refl _)), by simp only [evenL.k2]; rw [if_pos h]; rfl, rfl, rfl⟩
  ·k_extra "go"
   refine WL_less (List.sublist_cons_self _ _) ?_
   rw [show evenL (x.cps[i] :: x.cps.toList.drop (i + 1)) lev = evenL (x.cps.toList.drop (i + 1)) (lev + par1 ⟨#[x.cps[i]]⟩) by simp only [evenL.k2]; rw [if_neg h]]
   rw [hd] at hr
   simp only [evenL.k2] at hr
   rw [if_neg h] at hr
   rw [hr]
   exact ih (i + 1, (lev + par1 ⟨#[x.cps[i]]⟩, _), _) (by dsimp only; lia) ⟨by dsimp only; lia, hr⟩
 ·refine W_nextEnd (k := .str x t) (i := i) rm'.2.2 Dl.here trivial (by simp [Itk.item]; lia) ?_
  rw [show x.cps.toList.drop i = [] from List.drop_eq_nil_of_le (by simp; lia)]
  k_extra "go"
  exact ⟨_, List.Sublist.refl _, rfl, rfl, rfl⟩
end
end
section
noncomputable abbrev lNs : List Str := [Str.ofString "told", Str.ofString "size", Str.ofString "rest", Str.ofString "end", Str.ofString "many"]
noncomputable abbrev lGs : List Str := [Str.ofString "len", Str.ofString "range"]
noncomputable abbrev lPs : List Str := [Str.ofString "kind", Str.ofString "told", Str.ofString "subject", Str.ofString "at"]
theorem hf_ends (P : Params) : (H1 P).get? 689 = some (o689 P) := by kernel_rfl
theorem hc_ends (P : Params) : (H1 P).get? 688 = some (o688 P) := by kernel_rfl
theorem ok_ends : okDefC (st 99) lPs lNs [Str.ofString "kind", Str.ofString "subject", Str.ofString "at"] lGs = true := by decide +kernel
theorem lk1 : (dScope (st 99)).names.lookup (Str.ofString "kind") = some .cell := by decide +kernel
theorem lk2 : (dScope (st 99)).names.lookup (Str.ofString "told") = some .local := by decide +kernel
theorem lk3 : (dScope (st 99)).names.lookup (Str.ofString "subject") = some .cell := by decide +kernel
theorem lk4 : (dScope (st 99)).names.lookup (Str.ofString "at") = some .cell := by decide +kernel
section
variable {w : World} {A : Around} {B : Bm} {N : Nm} {d : Nat}
theorem bd_ends (a b c e : Value) : bindArgs (fd (st 99) "_law_leaf_ends" .none (.str "law_sj0202_01" 1190) (.ref 688)) ⟨[a, b, c, e], []⟩ = pure (lPs.zip [a, b, c, e]) := by kernel_rfl
theorem c_ends {a b c e : Value} {Q : Value → Bm → Nm → Prop} (K : KB w B) (rm : Rm A (d + 1))
  (h : ∀ L env A' B1 c1 c2 c3, leB B B1 → KB w B1 → Ev env lNs lGs [(Str.ofString "at", c3), (Str.ofString "subject", c2), (Str.ofString "kind", c1)] L → Rm A' d → B1 c1 = some (.cell (some a)) → B1 c2 = some (.cell (some c)) → B1 c3 = some (.cell (some e)) →
   W w A' lNs L (execs (dBody (st 99)) env) (fun fl B' vs' N' => Q (retOf fl) B' N') B1 [some b, none, none, none, none] N) :
  Wc w A (.call (.ref 689) ⟨[a, b, c, e], []⟩) Q B N := by
 refine Wc_defC (fo := o689 w.params) (co := o688 w.params) (fvs := codeFields (o688 w.params)) (st := st 99) (qual := "_law_leaf_ends") (pm := .str "law_sj0202_01" 1190) (c := 688) (ps := lPs) (ns := lNs) (cs := [Str.ofString "kind", Str.ofString "subject", Str.ofString "at"]) (gs' := lGs) (vs0 := [some b, none, none, none, none]) (args := [a, b, c, e]) (tk := 1239)
  (cm := fun y => if y = Str.ofString "at" then some e else if y = Str.ofString "subject" then some c else if y = Str.ofString "kind" then some a else none) K rm (hf_ends _) rfl (hc_ends _) (by kernel_rfl) (by kernel_rfl) ok_ends rfl (bd_ends a b c e) ?_ ?_ ?_
 ·funext y
  simp only [lPs, List.zip_cons_cons, List.zip_nil_left, bindL, lk1, lk2, lk3, lk4, if_true, look_cons, show ∀ y, look [] [] y = none from fun _ => rfl, ite_self]
  simp
 ·funext y
  simp only [lPs, List.zip_cons_cons, List.zip_nil_left, bindC, lk1, lk2, lk3, lk4, if_true]
  simp
 ·intro L env A' cl ev hcl rm' hg
  match cl, hcl with
  | [(n3, c3), (n2, c2), (n1, c1)], hcl =>
   simp at hcl
   refine cutP fun G1 up1 => ?_
   obtain ⟨rfl, rfl, rfl⟩ := hcl
   refine up1 ?_
   refine W_frz fun B1 le1 h1 => ?_
   refine W_frz fun B2 le2 h2 => ?_
   refine W_frz fun B3 le3 h3 => ?_
   have le : leB B B3 := leB.trans le1 (leB.trans le2 le3)
   exact h L env A' B3 c1 c2 c3 le (K.mono le) ev rm' h3 (le3 _ _ h2) (le3 _ _ (le2 _ _ h1))
noncomputable def lNum (x : Str) (a e : Int) (p : Bool) : List Int := if e ≤ x.length ∧ a ≤ e ∧ (p = true ∨ e = a) then [e] else []
noncomputable def lMany (x y : Str) (a : Int) : Int := (Txt.slice x (some a) none).length - (Txt.lstripChars (Txt.slice x (some a) none) y).length
noncomputable def lEnds (x : Str) (a : Int) : Lf → List Int
 | .chars y => if Txt.startswith (Txt.slice x (some a) none) y = true then [a + y.length] else []
 | .len k => lNum x a (a + k) true
 | .pos k => lNum x a k false
 | .tab k => lNum x a k true
 | .any y => if lMany x y a = 0 then [] else [a + 1]
 | .span y => if lMany x y a = 0 then [] else [a + lMany x y a]
 | .rem => [(x.length : Int)]
 | .arb => (List.range ((x.length : Int) + 1 - a).toNat).map fun (i : Nat) => a + (i : Int)
 | .bal => ((List.range ((x.length : Int) + 1 - a).toNat).map fun (i : Nat) => a + (i : Int)).filter fun e => decide (a < e) && evenL (Txt.slice x (some a) (some e)).cps.toList 0
theorem lEnds.k1 {x : Str} {a : Int} {y} : lEnds x a (.chars y) = if Txt.startswith (Txt.slice x (some a) none) y = true then [a + y.length] else [] := rfl
theorem lEnds.k2 {x : Str} {a : Int} {k} : lEnds x a (.len k) = lNum x a (a + k) true := rfl
theorem lEnds.k3 {x : Str} {a : Int} {k} : lEnds x a (.pos k) = lNum x a k false := rfl
theorem lEnds.k4 {x : Str} {a : Int} {k} : lEnds x a (.tab k) = lNum x a k true := rfl
theorem lEnds.k5 {x : Str} {a : Int} {y} : lEnds x a (.any y) = if lMany x y a = 0 then [] else [a + 1] := rfl
theorem lEnds.k6 {x : Str} {a : Int} {y} : lEnds x a (.span y) = if lMany x y a = 0 then [] else [a + lMany x y a] := rfl
theorem lEnds.k7 {x : Str} {a : Int} : lEnds x a (.rem) = [(x.length : Int)] := rfl
theorem lEnds.k8 {x : Str} {a : Int} : lEnds x a (.arb) = (List.range ((x.length : Int) + 1 - a).toNat).map fun (i : Nat) => a + (i : Int) := rfl
theorem lEnds.k9 {x : Str} {a : Int} : lEnds x a (.bal) = ((List.range ((x.length : Int) + 1 - a).toNat).map fun (i : Nat) => a + (i : Int)).filter fun e => decide (a < e) && evenL (Txt.slice x (some a) (some e)).cps.toList 0 := rfl
noncomputable abbrev R_leaf_ends1 (B : Bm) (N : Nm) (x : Str) (a : Int) (lf : Lf) : Value → Bm → Nm → Prop := fun v B' N' => leB B B' ∧ ∃ l xs, v = .ref l ∧ Ints (lEnds x a lf) xs ∧ N' = (l, .lst xs) :: N
theorem s_leaf_ends1 {x : Str} {t1 t2 t3 : Tok} {u : Value} {a : Int} {lf : Lf} (K : KB w B) (rm : Rm A 3) (hx : x.length ≤ 2) (h0 : 0 ≤ a) (h1 : a ≤ 2) (hu : lf.told u) (hf : lf.fits = true) (hs : lf.single = true) :
  Wc w A (.call (.ref 689) ⟨[.str lf.kind t1, u, .str x t2, .int a t3], []⟩) (R_leaf_ends1 B N x a lf) B N := by
 refine Wc_drop ?_
 refine c_ends K rm ?_
 intro L env A' B1 c1 c2 c3 le1 K ev rm' k1 k2 k3
 refine W_cons ?_
 k_extra "as2"
 k_extra "go"
 refine W_lenStr (by lia) fun u1 => ?_
 k_extra "go"
 cases lf with
 | chars y =>
  obtain ⟨t4, rfl⟩ := hu
  have hy : y.length ≤ 2 := by simpa [Lf.fits] using hf
  k_extra "run"
  refine W_starts ?_
  k_extra "go"
  refine ite_b (fun e => ?_) fun e => ?_
  ·k_extra "go"
   refine W_lenStr (by lia) fun u2 => ?_
   k_extra "go"
   refine ⟨by k_extra "sz", fun l => ?_⟩
   exact ⟨_, List.Sublist.refl _, le1, l, _, rfl, by simp only [lEnds.k1]; rw [if_pos e]; exact ⟨_, _, rfl, rfl⟩, rfl⟩
  ·k_extra "go"
   refine ⟨by k_extra "sz", fun l => ?_⟩
   exact ⟨_, List.Sublist.refl _, le1, l, [], rfl, by simp only [lEnds.k1]; rw [if_neg (by rw [e]; decide)]; rfl, rfl⟩
 | len k =>
  obtain ⟨t4, rfl⟩ := hu
  k_extra "run"
  refine ite_b (fun e1 => ?_) fun e1 => ?_ <;> simp only [decide_eq_true_eq, decide_eq_false_iff_not] at e1
  ·k_extra "go"
   refine ite_b (fun e2 => ?_) fun e2 => ?_ <;> simp only [decide_eq_true_eq, decide_eq_false_iff_not] at e2
   ·k_extra "run"
    refine ⟨by k_extra "sz", fun l => ?_⟩
    exact ⟨_, List.Sublist.refl _, le1, l, _, rfl, by simp only [lEnds.k1, lEnds.k2, lEnds.k3, lEnds.k4, lEnds.k5, lEnds.k6, lEnds.k7, lEnds.k8, lEnds.k9, lNum]; rw [if_pos ⟨by lia, by lia, .inl trivial⟩]; exact ⟨_, _, rfl, rfl⟩, rfl⟩
   ·k_extra "run"
    refine ⟨by k_extra "sz", fun l => ?_⟩
    exact ⟨_, List.Sublist.refl _, le1, l, [], rfl, by simp only [lEnds.k1, lEnds.k2, lEnds.k3, lEnds.k4, lEnds.k5, lEnds.k6, lEnds.k7, lEnds.k8, lEnds.k9, lNum]; rw [if_neg (by lia)]; rfl, rfl⟩
  ·k_extra "run"
   refine ⟨by k_extra "sz", fun l => ?_⟩
   exact ⟨_, List.Sublist.refl _, le1, l, [], rfl, by simp only [lEnds.k1, lEnds.k2, lEnds.k3, lEnds.k4, lEnds.k5, lEnds.k6, lEnds.k7, lEnds.k8, lEnds.k9, lNum]; rw [if_neg (by lia)]; rfl, rfl⟩
 | pos k =>
  obtain ⟨t4, rfl⟩ := hu
  k_extra "run"
  refine ite_b (fun e1 => ?_) fun e1 => ?_ <;> simp only [decide_eq_true_eq, decide_eq_false_iff_not] at e1
  ·k_extra "go"
   refine ite_b (fun e2 => ?_) fun e2 => ?_ <;> simp only [decide_eq_true_eq, decide_eq_false_iff_not] at e2
   ·k_extra "run"
    refine ite_b (fun e3 => ?_) fun e3 => ?_ <;> simp only [decide_eq_true_eq, decide_eq_false_iff_not] at e3
    ·k_extra "run"
     refine ⟨by k_extra "sz", fun l => ?_⟩
     exact ⟨_, List.Sublist.refl _, le1, l, _, rfl, by simp only [lEnds.k3, lNum]; rw [if_pos ⟨by lia, by lia, .inr e3⟩]; exact ⟨_, _, rfl, rfl⟩, rfl⟩
    ·k_extra "run"
     refine ⟨by k_extra "sz", fun l => ?_⟩
     exact ⟨_, List.Sublist.refl _, le1, l, [], rfl, by simp only [lEnds.k1, lEnds.k2, lEnds.k3, lEnds.k4, lEnds.k5, lEnds.k6, lEnds.k7, lEnds.k8, lEnds.k9, lNum]; rw [if_neg (by simp; lia)]; rfl, rfl⟩
   ·k_extra "run"
    refine ⟨by k_extra "sz", fun l => ?_⟩
    exact ⟨_, List.Sublist.refl _, le1, l, [], rfl, by simp only [lEnds.k1, lEnds.k2, lEnds.k3, lEnds.k4, lEnds.k5, lEnds.k6, lEnds.k7, lEnds.k8, lEnds.k9, lNum]; rw [if_neg (by lia)]; rfl, rfl⟩
  ·k_extra "run"
   refine ⟨by k_extra "sz", fun l => ?_⟩
   exact ⟨_, List.Sublist.refl _, le1, l, [], rfl, by simp only [lEnds.k1, lEnds.k2, lEnds.k3, lEnds.k4, lEnds.k5, lEnds.k6, lEnds.k7, lEnds.k8, lEnds.k9, lNum]; rw [if_neg (by lia)]; rfl, rfl⟩
 | tab k =>
  obtain ⟨t4, rfl⟩ := hu
  k_extra "run"
  refine ite_b (fun e1 => ?_) fun e1 => ?_ <;> simp only [decide_eq_true_eq, decide_eq_false_iff_not] at e1
  ·k_extra "go"
   refine ite_b (fun e2 => ?_) fun e2 => ?_ <;> simp only [decide_eq_true_eq, decide_eq_false_iff_not] at e2
   ·k_extra "run"
    refine ⟨by k_extra "sz", fun l => ?_⟩
    exact ⟨_, List.Sublist.refl _, le1, l, _, rfl, by simp only [lEnds.k1, lEnds.k2, lEnds.k3, lEnds.k4, lEnds.k5, lEnds.k6, lEnds.k7, lEnds.k8, lEnds.k9, lNum]; rw [if_pos ⟨by lia, by lia, .inl trivial⟩]; exact ⟨_, _, rfl, rfl⟩, rfl⟩
   ·k_extra "run"
    refine ⟨by k_extra "sz", fun l => ?_⟩
    exact ⟨_, List.Sublist.refl _, le1, l, [], rfl, by simp only [lEnds.k1, lEnds.k2, lEnds.k3, lEnds.k4, lEnds.k5, lEnds.k6, lEnds.k7, lEnds.k8, lEnds.k9, lNum]; rw [if_neg (by lia)]; rfl, rfl⟩
  ·k_extra "run"
   refine ⟨by k_extra "sz", fun l => ?_⟩
   exact ⟨_, List.Sublist.refl _, le1, l, [], rfl, by simp only [lEnds.k1, lEnds.k2, lEnds.k3, lEnds.k4, lEnds.k5, lEnds.k6, lEnds.k7, lEnds.k8, lEnds.k9, lNum]; rw [if_neg (by lia)]; rfl, rfl⟩
 | any y =>
  obtain ⟨t4, rfl⟩ := hu
  k_extra "run"
  have s1 := Txt.slice_le x (some a) none
  refine W_lenStr (by lia) fun u2 => ?_
  k_extra "go"
  refine W_lstripC (by rw [sizeLine_eq]; lia) fun u3 => ?_
  k_extra "go"
  refine W_lenStr (by have := len_lstripChars (Txt.slice x (some a) none) y; lia) fun u4 => ?_
  k_extra "run"
  refine ite_b (fun e1 => ?_) fun e1 => ?_ <;> simp only [decide_eq_true_eq, decide_eq_false_iff_not] at e1
  ·k_extra "run"
   refine ⟨by k_extra "sz", fun l => ?_⟩
   exact ⟨_, List.Sublist.refl _, le1, l, [], rfl, by simp only [lEnds.k1, lEnds.k2, lEnds.k3, lEnds.k4, lEnds.k5, lEnds.k6, lEnds.k7, lEnds.k8, lEnds.k9]; rw [if_pos (show lMany x y a = 0 from e1)]; rfl, rfl⟩
  ·k_extra "run"
   refine ⟨by k_extra "sz", fun l => ?_⟩
   exact ⟨_, List.Sublist.refl _, le1, l, _, rfl, by simp only [lEnds.k1, lEnds.k2, lEnds.k3, lEnds.k4, lEnds.k5, lEnds.k6, lEnds.k7, lEnds.k8, lEnds.k9]; rw [if_neg (show ¬ lMany x y a = 0 from e1)]; exact ⟨_, _, rfl, rfl⟩, rfl⟩
 | span y =>
  obtain ⟨t4, rfl⟩ := hu
  k_extra "run"
  have s1 := Txt.slice_le x (some a) none
  refine W_lenStr (by lia) fun u2 => ?_
  k_extra "go"
  refine W_lstripC (by rw [sizeLine_eq]; lia) fun u3 => ?_
  k_extra "go"
  refine W_lenStr (by have := len_lstripChars (Txt.slice x (some a) none) y; lia) fun u4 => ?_
  k_extra "run"
  refine ite_b (fun e1 => ?_) fun e1 => ?_ <;> simp only [decide_eq_true_eq, decide_eq_false_iff_not] at e1
  ·k_extra "run"
   refine ⟨by k_extra "sz", fun l => ?_⟩
   exact ⟨_, List.Sublist.refl _, le1, l, [], rfl, by simp only [lEnds.k1, lEnds.k2, lEnds.k3, lEnds.k4, lEnds.k5, lEnds.k6, lEnds.k7, lEnds.k8, lEnds.k9]; rw [if_pos (show lMany x y a = 0 from e1)]; rfl, rfl⟩
  ·k_extra "run"
   refine ⟨by k_extra "sz", fun l => ?_⟩
   exact ⟨_, List.Sublist.refl _, le1, l, _, rfl, by simp only [lEnds.k1, lEnds.k2, lEnds.k3, lEnds.k4, lEnds.k5, lEnds.k6, lEnds.k7, lEnds.k8, lEnds.k9]; rw [if_neg (show ¬ lMany x y a = 0 from e1)]; exact ⟨_, _, rfl, rfl⟩, rfl⟩
 | rem =>
  k_extra "run"
  refine ⟨by k_extra "sz", fun l => ?_⟩
  exact ⟨_, List.Sublist.refl _, le1, l, _, rfl, ⟨_, _, rfl, rfl⟩, rfl⟩
 | arb => cases hs
 | bal => cases hs
end
end
section
theorem kind_arb' : (Lf.arb.kind == Str.ofString "arb") = true := rfl
theorem kind_bal' : (Lf.bal.kind == Str.ofString "arb") = false := by decide +kernel
noncomputable def pE (x : Str) (a : Int) (lf : Lf) (e : Int) : Bool := match lf with | .arb => true | _ => decide (a < e) && evenL (Txt.slice x (some a) (some e)).cps.toList 0
theorem lEnds_pE {x : Str} {a : Int} {lf : Lf} (hs : lf.single = false) : lEnds x a lf = ((List.range ((x.length : Int) + 1 - a).toNat).map fun (i : Nat) => a + (i : Int)).filter (pE x a lf) := by
 cases lf with
 | arb => simp only [lEnds.k8]; exact (List.filter_eq_self.mpr fun _ _ => rfl).symm
 | bal => simp only [lEnds.k9]; rfl
 | _ => cases hs
theorem range_get (a : Int) (n i : Nat) (h : i < n) : ((List.range n).map fun (i : Nat) => a + (i : Int))[i]? = some (a + i) := by simp [h]
section
variable {w : World} {A : Around} {B : Bm} {N : Nm} {d : Nat}
theorem W_for1 {ns : List Str} {L : Addr} {vs : Vs} {env : Env} {c : Expr} {Q : Bool → Bm → Vs → Nm → Prop} (h : W w A ns L (isTrue c env (eval c env)) Q B vs N) : W w A ns L (forIn [c] true fun c r => if r = true then do let ok ← isTrue c env (eval c env); pure (ForInStep.yield ok) else pure (ForInStep.yield r)) Q B vs N := by
 have e : (forIn [c] true fun c r => if r = true then do let ok ← isTrue c env (eval c env); pure (ForInStep.yield ok) else pure (ForInStep.yield r) : Sem Bool) = isTrue c env (eval c env) := by
  simp only [List.forIn_cons, if_true, bind_assoc, pure_bind, List.forIn_nil, bind_pure]
 rw [e]
 exact h
theorem s_leaf_ends2 {x : Str} {t1 t2 t3 : Tok} {u : Value} {a : Int} {lf : Lf} (K : KB w B) (rm : Rm A 3) (hx : x.length ≤ 2) (h0 : 0 ≤ a) (h1 : a ≤ 2) (hs : lf.single = false) :
  Wc w A (.call (.ref 689) ⟨[.str lf.kind t1, u, .str x t2, .int a t3], []⟩) (fun v B' N' => leB B B' ∧ ∃ l xs, v = .ref l ∧ Ints (lEnds x a lf) xs ∧ N' = (l, .lst xs) :: N) B N := by
 refine Wc_drop ?_
 refine c_ends K rm ?_
 intro L env A' B1 c1 c2 c3 le1 K ev rm' k1 k2 k3
 refine W_cons ?_
 k_extra "as2"
 k_extra "go"
 refine W_lenStr (by lia) fun u1 => ?_
 k_extra "go"
 refine ite_f (by cases lf <;> first | rfl | cases hs) ?_
 k_extra "go"
 refine ite_f (by cases lf <;> first | rfl | cases hs) ?_
 k_extra "go"
 refine ite_f (by cases lf <;> first | rfl | cases hs) ?_
 k_extra "go"
 refine ite_f (by cases lf <;> first | rfl | cases hs) ?_
 k_extra "go"
 refine W_LCF [Str.ofString "end"] [Str.ofString "_law_is_even"] [Str.ofString "at", Str.ofString "kind", Str.ofString "subject"] ev (by decide +kernel) (by simp) ?_
 k_extra "go"
 refine W_range2 fun r v => ?_
 refine W_iterRng (Rd.n (by k_extra "mem")) (by lia) (by lia) (by lia) (by lia) fun it => ?_
 refine ⟨it, _, rfl, by k_extra "mem", fun D C cenv cl' evc hcl hsub => ?_⟩
 obtain ⟨d1, d2, d3, rfl⟩ : ∃ d1 d2 d3, cl' = [(Str.ofString "subject", d1), (Str.ofString "kind", d2), (Str.ofString "at", d3)] := by
  match cl', hcl with
  | [(n3, d3), (n2, d2), (n1, d1)], hcl => simp at hcl; obtain ⟨rfl, rfl, rfl⟩ := hcl; exact ⟨_, _, _, rfl⟩
 have e1 : d1 = c2 := by
  have := lookup_mem ev.cnd (hsub _ (.head _))
  rw [show List.lookup (Str.ofString "subject") [(Str.ofString "at", c3), (Str.ofString "subject", c2), (Str.ofString "kind", c1)] = some c2 from rfl] at this
  exact (Option.some.inj this).symm
 have e2 : d2 = c1 := by
  have := lookup_mem ev.cnd (hsub _ (.tail _ (.head _)))
  rw [show List.lookup (Str.ofString "kind") [(Str.ofString "at", c3), (Str.ofString "subject", c2), (Str.ofString "kind", c1)] = some c1 from rfl] at this
  exact (Option.some.inj this).symm
 have e3 : d3 = c3 := by
  have := lookup_mem ev.cnd (hsub _ (.tail _ (.tail _ (.head _))))
  rw [show List.lookup (Str.ofString "at") [(Str.ofString "at", c3), (Str.ofString "subject", c2), (Str.ofString "kind", c1)] = some c3 from rfl] at this
  exact (Option.some.inj this).symm
 subst e1 e2 e3
 rw [lEnds_pE hs]
 generalize hn : ((x.length : Int) + 1 - a).toNat = n
 have hn3 : n ≤ 3 := by lia
 refine WL_less (N' := (D, .lst []) :: (it, .itr (.rng a n) 0) :: N) (.cons_cons _ (.cons_cons _ (List.sublist_cons_self _ _))) ?_
 refine WL_rec (fun _ => B1) (fun (s : List Value × Nat × Option Value) => [s.2.2]) (fun s => (D, .lst s.1) :: (it, .itr (.rng a n) s.2.1) :: N) (fun s => n + 1 - s.2.1)
  (fun s => s.2.1 ≤ n ∧ s.1.length ≤ s.2.1 ∧ Ints (((((List.range n).map fun (i : Nat) => a + (i : Int))).take s.2.1).filter (pE x a lf)) s.1) ?_ ([], 0, none) ⟨Nat.zero_le _, Nat.le_refl _, rfl⟩
 intro ⟨acc, i, ve⟩ ⟨hi, hal, hacc⟩ ih
 dsimp only at hi hal hacc ih ⊢
 refine WL_comp ?_
 by_cases q : i < n
 ·refine W_nextItem (k := .rng a n) (i := i) (f := fun t => .int (a + i) t) (.there .here) trivial (by simp [Itk.item, q]) fun t => ?_
  have et : (((List.range n).map fun (i : Nat) => a + (i : Int))).take (i + 1) = (((List.range n).map fun (i : Nat) => a + (i : Int))).take i ++ [a + (i : Int)] := by rw [List.take_add_one, range_get a n i q]; rfl
  have yes : pE x a lf (a + i) = true → ∀ t' ve, WL w A' [Str.ofString "end"] C _ _ B1 [ve] ((D, .lst (acc ++ [.int (a + i) t'])) :: (it, .itr (.rng a n) (i + 1)) :: N) := fun hp t' ve => ih (acc ++ [.int (a + i) t'], i + 1, ve) (by dsimp only; lia) ⟨by dsimp only; lia, by simp; lia, by
   dsimp only; rw [et, List.filter_append, List.filter_cons_of_pos hp, List.filter_nil]; exact ints_snoc hacc⟩
  have no : pE x a lf (a + i) = false → ∀ ve, WL w A' [Str.ofString "end"] C _ _ B1 [ve] ((D, .lst acc) :: (it, .itr (.rng a n) (i + 1)) :: N) := fun hp ve => ih (acc, i + 1, ve) (by dsimp only; lia) ⟨by dsimp only; lia, by dsimp only; lia, by
   dsimp only; rw [et, List.filter_append, List.filter_cons_of_neg (by rw [hp]; decide), List.filter_nil, List.append_nil]; exact hacc⟩
  k_extra "go"
  refine W_for1 ?_
  k_extra "go"
  cases lf with
  | arb =>
   k_extra "tf"
   k_extra "tf"
   k_extra "go"
   k_extra "append"
   ·k_extra "sz"
   exact yes rfl _ _
  | bal =>
   k_extra "tf"
   k_extra "go"
   refine ite_b (fun hlt => ?_) fun hlt => ?_
   ·k_extra "go"
    refine W_codeK (s_is_even K (rm'.le (by decide))) fun G1 up1 => ?_
    rintro v2 B2 N2 - ⟨rfl, rfl, rfl⟩
    refine up1 _ _ _ ?_
    k_extra "go"
    refine ite_b (fun hev => ?_) fun hev => ?_
    ·k_extra "run"
     k_extra "append"
     ·k_extra "sz"
     exact yes (by simp only [pE]; rw [hlt, hev]; rfl) _ _
    ·k_extra "run"
     exact no (by simp only [pE]; rw [hlt, hev]; rfl) _
   ·k_extra "run"
    exact no (by simp only [pE]; rw [hlt]; rfl) _
  | _ => cases hs
 ·refine W_nextEnd (k := .rng a n) (i := i) rm'.2.2 (.there .here) trivial (by simp [Itk.item, q]) ?_
  have e : i = n := by lia
  subst e
  rw [List.take_of_length_le (by simp)] at hacc
  exact ⟨rfl, _, List.Sublist.refl _, le1, D, acc, rfl, hacc, rfl⟩
end
end
section
noncomputable abbrev eS : Str := Str.ofString "end"
noncomputable def doneR (n : Str) (rows : List Evt) : List Evt := rows.flatMap fun r => if r.1 = eS then [(n, r.2), r] else [r]
noncomputable def rndT (F : Int → List Evt) : Nat → Int → List Evt
 | 0, _ => []
 | m + 1, a => (eS, a) :: (F a).flatMap fun r => if r.1 = eS then (if a < r.2 then rndT F m r.2 else []) else [r]
theorem rndT.k1 {F : Int → List Evt} {z1} : rndT F 0 z1 = [] := rfl
theorem rndT.k2 {F : Int → List Evt} {m a} : rndT F (m + 1) a = (eS, a) :: (F a).flatMap fun r => if r.1 = eS then (if a < r.2 then rndT F m r.2 else []) else [r] := rfl
noncomputable def TD (x : Str) : Tr → Int → List Evt
 | .leaf n lf, a => doneR n ((lEnds x a lf).map fun e => (eS, e))
 | .cat n l r, a => doneR n ((TD x l a).flatMap fun row => if row.1 = eS then TD x r row.2 else [row])
 | .alt n l r, a => doneR n (TD x l a ++ TD x r a)
 | .arb n t, a => doneR n (rndT (TD x t) 3 a)
theorem TD.k1 {x : Str} {n lf a} : TD x (.leaf n lf) a = doneR n ((lEnds x a lf).map fun e => (eS, e)) := rfl
theorem TD.k2 {x : Str} {n l r a} : TD x (.cat n l r) a = doneR n ((TD x l a).flatMap fun row => if row.1 = eS then TD x r row.2 else [row]) := rfl
theorem TD.k3 {x : Str} {n l r a} : TD x (.alt n l r) a = doneR n (TD x l a ++ TD x r a) := rfl
theorem TD.k4 {x : Str} {n t a} : TD x (.arb n t) a = doneR n (rndT (TD x t) 3 a) := rfl
theorem Evs.app {B : Bm} {fs : List Evt} {us : List Value} (g : Evs B fs us) : ∀ {es : List Evt} {ls : List Value}, Evs B es ls → Evs B (es ++ fs) (ls ++ us)
 | [], _, h => by cases h; exact g
 | (n, e) :: es, _, ⟨v', u, u', vs', h1, h2, h3⟩ => by subst h1; exact ⟨v', u, u', _, rfl, h2, Evs.app g h3⟩
theorem Evs.get {B : Bm} : ∀ {es : List Evt} {ls : List Value}, Evs B es ls → ∀ (i : Nat), (∀ n e, es[i]? = some (n, e) → ∃ v t t', ls[i]? = some v ∧ Tup B v [.str n t, .int e t']) ∧ (es[i]? = none → ls[i]? = none)
 | [], _, h, i => by cases h; exact ⟨fun _ _ e => by simp at e, fun _ => by simp⟩
 | (n, e) :: es, _, ⟨v, u, u', vs', h1, h2, h3⟩, 0 => by subst h1; exact ⟨fun _ _ q => by simp at q; obtain ⟨rfl, rfl⟩ := q; exact ⟨v, u, u', rfl, h2⟩, fun q => by simp at q⟩
 | (n, e) :: es, _, ⟨v, u, u', vs', h1, h2, h3⟩, i + 1 => by subst h1; simpa using Evs.get h3 i
section
variable {w : World} {A : Around} {B : Bm} {N : Nm} {d : Nat}
theorem rows_loop {L : Addr} {ns : List Str} {c : Code} {Q : Flow → Bm → Vs → Nm → Prop} {l fnd it : Addr} {rows es0 : List Evt} {us us0 : List Value} (f : Evt → List Evt) (vo : Option Value → Vs) (hr : Evs B rows us) (h0 : Evs B es0 us0) (hb : es0.length + (rows.flatMap f).length ≤ 1000000)
  (step : ∀ (B1 : Bm) (acc : List Value) (i : Nat) (n : Str) (e : Int) (v : Value) (t t' : Tok) (vr : Option Value), leB B B1 → (n, e) ∈ rows → us[i]? = some v → Tup B1 v [.str n t, .int e t'] → acc.length + (f (n, e)).length ≤ 1000000 →
   (∀ B2 us2 vr', leB B1 B2 → Evs B2 (f (n, e)) us2 → WL w A ns L c Q B2 (vo vr') ((it, .itr (.lst l us) (i + 1)) :: (fnd, .lst (acc ++ us2)) :: (l, .lst us) :: N)) →
   WL w A ns L c Q B1 (vo vr) ((it, .itr (.lst l us) i) :: (fnd, .lst acc) :: (l, .lst us) :: N))
  (fin : ∀ (B1 : Bm) (acc : List Value) (vr : Option Value), leB B B1 → Evs B1 (es0 ++ rows.flatMap f) acc → us[rows.length]? = none → WL w A ns L c Q B1 (vo vr) ((it, .itr (.lst l us) rows.length) :: (fnd, .lst acc) :: (l, .lst us) :: N)) :
  ∀ vr, WL w A ns L c Q B (vo vr) ((it, .itr (.lst l us) 0) :: (fnd, .lst us0) :: (l, .lst us) :: N) := by
 intro vr
 refine WL_rec (fun (s : (Bm × List Value) × Nat × Option Value) => s.1.1) (fun s => vo s.2.2) (fun s => (it, .itr (.lst l us) s.2.1) :: (fnd, .lst s.1.2) :: (l, .lst us) :: N) (fun s => rows.length + 1 - s.2.1)
  (fun s => leB B s.1.1 ∧ s.2.1 ≤ rows.length ∧ Evs s.1.1 (es0 ++ (rows.take s.2.1).flatMap f) s.1.2) ?_ ((B, us0), 0, vr) ⟨leB.refl _, Nat.zero_le _, by simpa using h0⟩
 intro ⟨⟨B1, acc⟩, i, ve⟩ ⟨le, hi, hacc⟩ ih
 dsimp only at le hi hacc ih ⊢
 cases q : rows[i]? with
 | none =>
  have hfi : i = rows.length := by
   rcases Nat.lt_or_ge i rows.length with h | h
   ·rw [List.getElem?_eq_getElem h] at q; cases q
   ·lia
  subst hfi
  rw [List.take_length] at hacc
  exact fin B1 acc ve le hacc ((hr.get _).2 (by simp))
 | some r =>
  obtain ⟨n, e⟩ := r
  refine cutP fun G1 up1 => ?_
  obtain ⟨v, t, t', h1, h2⟩ := (hr.get i).1 n e q
  refine up1 ?_
  have hlt : i < rows.length := (List.getElem?_eq_some_iff.mp q).1
  have et : rows.take (i + 1) = rows.take i ++ [(n, e)] := by rw [List.take_add_one, q]; rfl
  have hlen : acc.length + (f (n, e)).length ≤ 1000000 := by
   have e1 : rows = rows.take (i + 1) ++ rows.drop (i + 1) := (List.take_append_drop _ _).symm
   have e2 : (rows.flatMap f).length = ((rows.take i).flatMap f).length + (f (n, e)).length + ((rows.drop (i + 1)).flatMap f).length := by
    rw [congrArg (fun r => (List.flatMap f r).length) e1, et]
    simp [List.flatMap_append, Nat.add_assoc]
   rw [hacc.len, List.length_append]; lia
  refine step B1 acc i n e v t t' ve le (List.mem_of_getElem? q) h1 (h2.mono le) hlen fun B2 us2 vr' le2 h => ih ((B2, acc ++ us2), i + 1, vr') (by dsimp only; lia) ⟨le.trans le2, by dsimp only; lia, ?_⟩
  dsimp only
  rw [et, List.flatMap_append, ← List.append_assoc]
  exact Evs.app (by simpa using h) (hacc.mono le2)
theorem told_end {L : Addr} {env : Env} {ns gs : List Str} (hns : ns = [Str.ofString "part", Str.ofString "subject", Str.ofString "at", Str.ofString "number", Str.ofString "kind", Str.ofString "told", Str.ofString "found", Str.ofString "row", Str.ofString "done"]) (hgs : gs = [Str.ofString "_law_told", Str.ofString "_law_rounds", Str.ofString "_law_leaf_ends"])
  (ev : Ev env ns gs [] L) (K : KB w B) (rm : Rm A 0) {n : Str} {t : Tok} {v0 v1 v2 v4 v5 : Value} {vr : Option Value} {l : Addr} {rows : List Evt} {us : List Value} {Q : Value → Bm → Nm → Prop} (hr : Evs B rows us) (hb : (doneR n rows).length ≤ 1000000)
  (h : ∀ B' d ds, leB B B' → Evs B' (doneR n rows) ds → Q (.ref d) B' ((d, .lst ds) :: (l, .lst us) :: N)) :
  W w A ns L (execs ((dBody (st 101)).drop 2) env) (fun fl B' vs' N' => Q (retOf fl) B' N') B [some v0, some v1, some v2, some (.str n t), some v4, some v5, some (.ref l), vr, none] ((l, .lst us) :: N) := by
 subst hns hgs
 refine W_cons ?_
 k_extra "go"
 refine ⟨by k_extra "sz", fun d => ?_⟩
 k_extra "go"
 refine W_iterLst (Rd.n (by k_extra "mem")) fun it => ?_
 refine rows_loop (fun r => if r.1 = eS then [(n, r.2), r] else [r]) (fun vr => [some v0, some v1, some v2, some (.str n t), some v4, some v5, some (.ref l), vr, some (.ref d)]) hr (es0 := []) (us0 := []) rfl (by simpa [doneR] using hb) ?_ ?_ vr
 ·intro B1 acc i m e v t1 t2 vr le hm hv hT hlen hgo
  refine cutP fun G2 up2 => ?_
  obtain ⟨va, rfl, hva⟩ := hT
  refine up2 ?_
  have K := K.mono le
  refine WL_for ?_
  refine W_nextItem (k := .lst l us) (i := i) (f := fun _ => .ref va) Up.here (show Rd _ _ l (.lst us) from Rd.n (by k_extra "mem")) (by simp [Itk.item, hv]) fun _ => ?_
  k_extra "go"
  refine ite_b (fun hE => ?_) fun hE => ?_
  ·have hE' : m = eS := by simpa using hE
   k_extra "go"
   refine ⟨by k_extra "sz", fun p B2 le2 hp => ?_⟩
   have K := K.mono le2
   k_extra "go"
   refine ⟨by k_extra "sz", fun l2 => ?_⟩
   k_extra "go"
   dsimp only at hlen
   rw [if_pos hE'] at hlen
   k_extra "extend"
   ·rw [sizeLine_eq]; simp at hlen ⊢; lia
   refine ⟨fun _ z => (nomatch z), ?_⟩
   k_extra "go"
   refine WL_less (List.sublist_cons_self _ _) ?_
   refine hgo B2 _ _ le2 ?_
   dsimp only
   rw [if_pos hE']
   exact ⟨_, _, _, _, rfl, ⟨_, rfl, hp⟩, _, _, _, _, rfl, ⟨_, rfl, le2 _ _ hva⟩, rfl⟩
  ·have hE' : ¬ m = eS := by simpa using hE
   k_extra "go"
   refine ⟨by k_extra "sz", fun l2 => ?_⟩
   k_extra "go"
   dsimp only at hlen
   rw [if_neg hE'] at hlen
   k_extra "extend"
   ·rw [sizeLine_eq]; simp at hlen ⊢; lia
   refine ⟨fun _ z => (nomatch z), ?_⟩
   k_extra "go"
   refine WL_less (List.sublist_cons_self _ _) ?_
   refine hgo B1 _ _ (leB.refl _) ?_
   dsimp only
   rw [if_neg hE']
   exact ⟨_, _, _, _, rfl, ⟨_, rfl, hva⟩, rfl⟩
 ·intro B1 acc vr le hacc hn
  refine WL_for ?_
  refine W_nextEnd (k := .lst l us) (i := rows.length) rm.2.2 Dl.here (show Rd _ _ l (.lst us) from Rd.n (by k_extra "mem")) (by simp [Itk.item, hn]) ?_
  k_extra "go"
  exact h B1 d acc le (by simpa [doneR] using hacc)
end
end
section
structure Oke (x : Str) (lf : Lf) : Prop where
 fits : lf.fits = true
 ends : ∀ a : Int, 0 ≤ a → a ≤ x.length → ∀ e ∈ lEnds x a lf, a ≤ e ∧ e ≤ x.length
theorem done_end {n : Str} {rows : List Evt} {e : Int} (hn : n ≠ eS) (h : (eS, e) ∈ doneR n rows) : (eS, e) ∈ rows := by
 refine cutP fun G1 up1 => ?_
 obtain ⟨r, hr, hm⟩ := List.mem_flatMap.mp h
 refine up1 ?_
 split at hm
 ·rename_i he
  rcases List.mem_cons.mp hm with q | hm
  ·exact absurd (congrArg Prod.fst q).symm hn
  ·rw [List.mem_singleton.mp hm]; exact hr
 ·rw [List.mem_singleton.mp hm]; exact hr
theorem rnd_rng {x : Str} {F : Int → List Evt} (IH : ∀ a : Int, 0 ≤ a → a ≤ x.length → ∀ e, (eS, e) ∈ F a → a ≤ e ∧ e ≤ x.length) : ∀ (m : Nat) (a : Int), 0 ≤ a → a ≤ x.length → ∀ e, (eS, e) ∈ rndT F m a → a ≤ e ∧ e ≤ x.length
 | 0, a, h0, h1, e, h => by cases h
 | m + 1, a, h0, h1, e, h => by
  rcases List.mem_cons.mp h with q | h
  ·cases q; exact ⟨Int.le_refl _, h1⟩
  ·refine cutP fun G2 up2 => ?_
   obtain ⟨r, hr, hm⟩ := List.mem_flatMap.mp h
   refine up2 ?_
   split at hm
   ·rename_i he
    split at hm
    ·rename_i hlt
     obtain ⟨rn, re⟩ := r
     dsimp only at he hlt hm
     subst he
     have := IH a h0 h1 re hr
     have := rnd_rng IH m re (by lia) (by lia) e hm
     lia
    ·cases hm
   ·rename_i he
    have := List.mem_singleton.mp hm
    rw [← this] at he
    exact absurd rfl he
theorem TD_rng {x : Str} : ∀ (T : Tr), okN T → T.all (Oke x) → ∀ a : Int, 0 ≤ a → a ≤ x.length → ∀ e, (eS, e) ∈ TD x T a → a ≤ e ∧ e ≤ x.length
 | .leaf n lf, hn, ho, a, h0, h1, e, h => by
  have := done_end hn h
  refine cutP fun G3 up3 => ?_
  obtain ⟨e', he, q⟩ := List.mem_map.mp this
  refine up3 ?_
  cases q
  exact ho.ends a h0 h1 e he
 | .cat n l r, hn, ho, a, h0, h1, e, h => by
  have := done_end hn.1 h
  refine cutP fun G4 up4 => ?_
  obtain ⟨row, hr, hm⟩ := List.mem_flatMap.mp this
  refine up4 ?_
  split at hm
  ·rename_i he
   obtain ⟨rn, re⟩ := row
   dsimp only at he hm
   subst he
   have := TD_rng l hn.2.1 ho.1 a h0 h1 re hr
   have := TD_rng r hn.2.2 ho.2 re (by lia) (by lia) e hm
   lia
  ·rename_i he
   have := List.mem_singleton.mp hm
   rw [← this] at he
   exact absurd rfl he
 | .alt n l r, hn, ho, a, h0, h1, e, h => by
  rcases List.mem_append.mp (done_end hn.1 h) with h | h
  ·exact TD_rng l hn.2.1 ho.1 a h0 h1 e h
  ·exact TD_rng r hn.2.2 ho.2 a h0 h1 e h
 | .arb n t, hn, ho, a, h0, h1, e, h => rnd_rng (TD_rng t hn.2 ho) 3 a h0 h1 e (done_end hn.1 h)
noncomputable def SzT (x : Str) : Tr → Prop
 | .leaf n lf => ∀ a : Int, 0 ≤ a → a ≤ x.length → (TD x (.leaf n lf) a).length ≤ 100000
 | .cat n l r => (∀ a : Int, 0 ≤ a → a ≤ x.length → (TD x (.cat n l r) a).length ≤ 100000) ∧ SzT x l ∧ SzT x r
 | .alt n l r => (∀ a : Int, 0 ≤ a → a ≤ x.length → (TD x (.alt n l r) a).length ≤ 100000) ∧ SzT x l ∧ SzT x r
 | .arb n t => (∀ a : Int, 0 ≤ a → a ≤ x.length → (TD x (.arb n t) a).length ≤ 100000) ∧ (∀ (m : Nat) (a : Int), 0 ≤ a → a ≤ x.length → (rndT (TD x t) m a).length ≤ 100000) ∧ SzT x t
theorem done_len (n : Str) : ∀ rows : List Evt, rows.length ≤ (doneR n rows).length
 | [] => Nat.zero_le _
 | r :: rows => by
  have := done_len n rows
  unfold doneR at this ⊢
  rw [List.flatMap_cons, List.length_append, List.length_cons]
  split <;> simp at this ⊢ <;> lia
noncomputable def rmT : Tr → Nat
 | .leaf _ _ => 4
 | .cat _ l r => rmT l + rmT r + 1
 | .alt _ l r => rmT l + rmT r + 1
 | .arb _ t => rmT t + 6
theorem rmT.k1 {z1 z2} : rmT (.leaf z1 z2) = 4 := rfl
theorem rmT.k2 {z1 l r} : rmT (.cat z1 l r) = rmT l + rmT r + 1 := rfl
theorem rmT.k3 {z1 l r} : rmT (.alt z1 l r) = rmT l + rmT r + 1 := rfl
theorem rmT.k4 {z1 t} : rmT (.arb z1 t) = rmT t + 6 := rfl
theorem rmT_pos : ∀ T, 1 ≤ rmT T
 | .leaf _ _ => by simp [rmT.k1]
 | .cat _ l r => by simp [rmT.k2]
 | .alt _ l r => by simp [rmT.k3]
 | .arb _ t => by simp [rmT.k4]
section
variable {w : World} {A : Around} {B : Bm} {N : Nm} {d : Nat}
noncomputable abbrev ToldW (w : World) (x : Str) (tx : Tok) (v : Value) (B0 : Bm) (F : Int → List Evt) (k : Nat) : Prop :=
 ∀ {A : Around} {B : Bm} {N : Nm} {a : Int} {ta : Tok}, leB B0 B → KB w B → Rm A k → 0 ≤ a → a ≤ x.length →
  Wc w A (.call (.ref 701) ⟨[v, .str x tx, .int a ta], []⟩) (fun r B' N' => leB B B' ∧ ∃ l us, r = .ref l ∧ Evs B' (F a) us ∧ N' = (l, .lst us) :: N) B N
inductive R_rounds (B : Bm) (N : Nm) (F : Int → List Evt) (m : Nat) (a : Int) (r : Value) (B' : Bm) (N' : Nm) : Prop
 | mk : leB B B' → ∀ l us, r = .ref l → Evs B' (rndT F m a) us → N' = (l, .lst us) :: N → R_rounds B N F m a r B' N'
theorem s_rounds {x : Str} {tx : Tok} {v : Value} {B0 : Bm} {F : Int → List Evt} {k : Nat} (hx : x.length ≤ 2) (IH : ToldW w x tx v B0 F k) (hk : 1 ≤ k) (hrg : ∀ a : Int, 0 ≤ a → a ≤ x.length → ∀ e, (eS, e) ∈ F a → a ≤ e ∧ e ≤ x.length) (hsz : ∀ (m : Nat) (a : Int), 0 ≤ a → a ≤ x.length → (rndT F m a).length ≤ 100000) :
  ∀ (m : Nat) {A : Around} {B : Bm} {N : Nm} {a : Int} {ta : Tok}, leB B0 B → KB w B → Rm A (k + m + 1) → 0 ≤ a → a ≤ x.length → (x.length : Int) < a + m →
  Wc w A (.call (.ref 696) ⟨[v, .str x tx, .int a ta], []⟩) (R_rounds B N F m a) B N
 | 0, A, B, N, a, ta, le0, K, rm, h0, h1, hm => by exfalso; lia
 | m + 1, A, B, N, a, ta, le0, K, rm, h0, h1, hm => by
  refine Wc_drop ?_
  refine c_law_rounds (show KB w B from K) rm ?_
  intro L env A' ev rm' hg
  refine W_cons ?_
  k_extra "go"
  refine ⟨by k_extra "sz", fun e1 B1 le1 he1 => ?_⟩
  have K := K.mono le1
  k_extra "go"
  refine ⟨by k_extra "sz", fun fnd => ?_⟩
  k_extra "go"
  refine W_codeK (IH (leB.trans le0 le1) K (rm'.le (by lia)) h0 h1) fun G5 up5 => ?_
  rintro r B2 N2 - ⟨le2, l, us, rfl, hus, rfl⟩
  refine up5 _ _ _ ?_
  have K := K.mono le2
  refine W_iterLst (Rd.n (by k_extra "mem")) fun it => ?_
  refine WL_perm (N' := (it, .itr (.lst l us) 0) :: (fnd, .lst [.ref e1]) :: (l, .lst us) :: N) (.cons _ (.swap _ _ _)) ?_
  have hs := hsz (m + 1) a h0 h1
  refine rows_loop (fun r => if r.1 = eS then (if a < r.2 then rndT F m r.2 else []) else [r]) (fun vr => [some v, some (.str x tx), some (.int a ta), some (.ref fnd), vr]) hus (es0 := [(eS, a)]) (us0 := [.ref e1]) ⟨_, _, _, _, rfl, ⟨_, rfl, le2 _ _ he1⟩, rfl⟩ (by simp only [rndT.k1, rndT.k2, List.length_cons] at hs; simp only [List.length_singleton]; lia) ?_ ?_ none
  ·intro B3 acc i n e v1 t1 t2 vr le3 hmem hv hT hlen hgo
   refine cutP fun G6 up6 => ?_
   obtain ⟨va, rfl, hva⟩ := hT
   refine up6 ?_
   have K := K.mono le3
   refine WL_for ?_
   refine W_nextItem (k := .lst l us) (i := i) (f := fun _ => .ref va) Up.here (show Rd _ _ l (.lst us) from Rd.n (by k_extra "mem")) (by simp [Itk.item, hv]) fun _ => ?_
   k_extra "go"
   refine ite_b (fun hE => ?_) fun hE => ?_
   ·have hE' : ¬ n = eS := by simpa using hE
    dsimp only at hlen hgo
    rw [if_neg hE'] at hlen hgo
    k_extra "go"
    k_extra "append"
    ·rw [sizeLine_eq]; lia
    refine ⟨fun _ z => (nomatch z), ?_⟩
    k_extra "go"
    exact hgo B3 [.ref va] _ (leB.refl _) ⟨_, _, _, _, rfl, ⟨_, rfl, hva⟩, rfl⟩
   ·have hE' : n = eS := by simpa using hE
    subst hE'
    have hr := hrg a h0 h1 e hmem
    dsimp only at hlen hgo
    rw [if_pos rfl] at hlen hgo
    k_extra "go"
    refine ite_b (fun hlt => ?_) fun hlt => ?_ <;> simp only [decide_eq_true_eq, decide_eq_false_iff_not] at hlt
    ·rw [if_pos hlt] at hlen hgo
     k_extra "go"
     refine W_codeK (s_rounds hx IH hk hrg hsz m (leB.trans le0 (leB.trans le1 (leB.trans le2 le3))) K (rm'.le (by lia)) (by lia) (by lia) (by lia)) fun G7 up7 => ?_
     rintro r B4 N4 - ⟨le4, l2, us2, rfl, hus2, rfl⟩
     refine up7 _ _ _ ?_
     have K := K.mono le4
     k_extra "go"
     k_extra "extend"
     ·rw [sizeLine_eq, hus2.len]; lia
     refine ⟨fun _ z => (nomatch z), ?_⟩
     k_extra "go"
     refine WL_less (List.sublist_cons_self _ _) ?_
     exact hgo B4 us2 _ le4 hus2
    ·rw [if_neg hlt] at hlen hgo
     k_extra "go"
     have := hgo B3 [] (some (.ref va)) (leB.refl _) rfl
     rw [List.append_nil] at this
     exact this
  ·intro B3 acc vr le3 hacc hn
   refine WL_for ?_
   refine W_nextEnd (k := .lst l us) (i := (F a).length) rm'.2.2 Dl.here (show Rd _ _ l (.lst us) from Rd.n (by k_extra "mem")) (by simp [Itk.item, hn]) ?_
   k_extra "go"
   exact ⟨_, .cons_cons _ (List.sublist_cons_self _ _), leB.trans le1 (leB.trans le2 le3), fnd, acc, rfl, hacc, rfl⟩
end
end
section
section
variable {w : World} {A : Around} {B : Bm} {N : Nm} {d : Nat}
theorem ends_comp_evs {B : Bm} : ∀ {is : List Int} {xs : List Value}, Ints is xs → xs.length = is.length := fun h => ints_len h
noncomputable abbrev tdNs : List Str := [Str.ofString "part", Str.ofString "subject", Str.ofString "at", Str.ofString "number", Str.ofString "kind", Str.ofString "told", Str.ofString "found", Str.ofString "row", Str.ofString "done"]
noncomputable abbrev tdGs : List Str := [Str.ofString "_law_told", Str.ofString "_law_rounds", Str.ofString "_law_leaf_ends"]
theorem told_split {L : Addr} {env : Env} (ev : Ev env tdNs tdGs [] L) (rm : Rm A 0) {n kind : Str} {t t' : Tok} {pa : Addr} {x : Str} {tx ta : Tok} {a : Int} {told : Value} {rows : List Evt} (K : KB w B) (hp : B pa = some (.tup [.str n t, .str kind t', told])) (hb : (doneR n rows).length ≤ 1000000)
  (h : W w A tdNs L (exec (nth (dBody (st 101)) 1) env) (fun f B1 vs N1 => f = .next ∧ leB B B1 ∧ ∃ l us vr, Evs B1 rows us ∧ vs = [some (.ref pa), some (.str x tx), some (.int a ta), some (.str n t), some (.str kind t'), some told, some (.ref l), vr, none] ∧ ((l, Slot.lst us) :: N).Sublist N1) B
   [some (.ref pa), some (.str x tx), some (.int a ta), some (.str n t), some (.str kind t'), some told, none, none, none] N) :
  W w A tdNs L (execs (dBody (st 101)) env) (fun fl B' vs' N' => ∃ N'', N''.Sublist N' ∧ leB B B' ∧ ∃ l us, retOf fl = .ref l ∧ Evs B' (doneR n rows) us ∧ N'' = (l, .lst us) :: N) B [some (.ref pa), some (.str x tx), some (.int a ta), none, none, none, none, none, none] N := by
 refine W_seq (fun B1 vs N1 => B = B1 ∧ N = N1 ∧ vs = [some (.ref pa), some (.str x tx), some (.int a ta), some (.str n t), some (.str kind t'), some told, none, none, none]) ?_ ?_
 ·k_extra "go"
  exact ⟨rfl, rfl, rfl, rfl⟩
 rintro B0 _ N0 ⟨hB, hN, rfl⟩
 subst hB hN
 refine W_seq (fun B1 vs N1 => leB B B1 ∧ ∃ l us vr, Evs B1 rows us ∧ vs = [some (.ref pa), some (.str x tx), some (.int a ta), some (.str n t), some (.str kind t'), some told, some (.ref l), vr, none] ∧ ((l, Slot.lst us) :: N).Sublist N1) h ?_
 rintro B1 _ N1 hq9
 refine cutP fun G1 up1 => ?_
 obtain ⟨le1, l, us, vr, hr, rfl, hs⟩ := hq9
 refine up1 ?_
 refine W_less hs ?_
 refine told_end (Q := fun v B' N' => ∃ N'', N''.Sublist N' ∧ leB B B' ∧ ∃ l us, v = .ref l ∧ Evs B' (doneR n rows) us ∧ N'' = (l, .lst us) :: N) rfl rfl ev (K.mono le1) rm hr hb fun B2 d ds le2 hd => ?_
 exact ⟨_, .cons_cons _ (List.sublist_cons_self _ _), le1.trans le2, d, ds, rfl, hd, rfl⟩
theorem s_told {x : Str} {tx : Tok} (hx : x.length ≤ 2) : ∀ (T : Tr) {v : Value} {B0 : Bm}, okN T → T.all (Oke x) → SzT x T → IsPart B0 T v → ToldW w x tx v B0 (TD x T) (rmT T)
 | .alt n l r, v, B0, hn, ho, hsz, hP => by
  intro le0 K rm h0 h1
  rename_i A B N a ta
  refine cutP fun G2 up2 => ?_
  obtain ⟨t, t', la, p, q, ⟨pa, rfl, hp⟩, hla, hP1, hP2⟩ := hP.mono le0
  refine up2 ?_
  refine Wc_drop ?_
  simp only [rmT.k1, rmT.k2, rmT.k3, rmT.k4] at rm
  refine c_law_told K (show Rm A (rmT l + rmT r + 1) from rm) ?_
  intro L env A' ev rm' hg
  have hs := hsz.1 a h0 h1
  simp only [TD.k1, TD.k2, TD.k3, TD.k4] at hs ⊢
  refine told_split (rows := TD x l a ++ TD x r a) ev (rm'.le (by lia)) K hp (by lia) ?_
  refine W_If ?_
  k_extra "run"
  refine W_codeK (s_told hx l hn.2.1 ho.1 hsz.2.1 hP1 (leB.refl _) K (rm'.le (by lia)) h0 h1) fun G3 up3 => ?_
  rintro r1 B2 N2 - ⟨le2, l1, us1, rfl, hus1, rfl⟩
  refine up3 _ _ _ ?_
  have K := K.mono le2
  have hla := le2 _ _ hla
  k_extra "go"
  refine W_codeK (s_told hx r hn.2.2 ho.2 hsz.2.2 hP2 le2 K (rm'.le (by lia)) h0 h1) fun G4 up4 => ?_
  rintro r1 B3 N3 - ⟨le3, l2, us2, rfl, hus2, rfl⟩
  refine up4 _ _ _ ?_
  have K := K.mono le3
  have h2 := done_len n (TD x l a ++ TD x r a)
  rw [List.length_append] at h2
  refine W_addLst (Rd.n (by k_extra "mem")) (Rd.n (by k_extra "mem")) (by rw [sizeLine_eq, hus1.len, hus2.len]; lia) fun b => ?_
  k_extra "go"
  exact ⟨rfl, leB.trans le2 le3, b, us1 ++ us2, none, Evs.app hus2 (hus1.mono le3), rfl, .cons_cons _ (.cons _ (.cons _ (List.Sublist.refl _)))⟩
 | .arb n u, v, B0, hn, ho, hsz, hP => by
  intro le0 K rm h0 h1
  rename_i A B N a ta
  refine cutP fun G5 up5 => ?_
  obtain ⟨t, t', la, p, ⟨pa, rfl, hp⟩, hla, hP1⟩ := hP.mono le0
  refine up5 ?_
  refine Wc_drop ?_
  simp only [rmT.k1, rmT.k2, rmT.k3, rmT.k4] at rm
  refine c_law_told K (show Rm A (rmT u + 5 + 1) from rm) ?_
  intro L env A' ev rm' hg
  have hs := hsz.1 a h0 h1
  simp only [TD.k1, TD.k2, TD.k3, TD.k4] at hs ⊢
  refine told_split (rows := rndT (TD x u) 3 a) ev (rm'.le (by lia)) K hp (by lia) ?_
  refine W_If ?_
  k_extra "run"
  refine W_codeK (s_rounds hx (s_told hx u hn.2 ho hsz.2.2 hP1) (rmT_pos u) (TD_rng u hn.2 ho) hsz.2.1 3 (leB.refl _) K (rm'.le (by lia)) h0 h1 (by lia)) fun G6 up6 => ?_
  rintro r1 B2 N2 - ⟨le2, l1, us1, rfl, hus1, rfl⟩
  refine up6 _ _ _ ?_
  k_extra "go"
  exact ⟨rfl, le2, l1, us1, none, hus1, rfl, List.Sublist.refl _⟩
 | .cat n l r, v, B0, hn, ho, hsz, hP => by
  intro le0 K rm h0 h1
  rename_i A B N a ta
  refine cutP fun G7 up7 => ?_
  obtain ⟨t, t', la, p, q, ⟨pa, rfl, hp⟩, hla, hP1, hP2⟩ := hP.mono le0
  refine up7 ?_
  refine Wc_drop ?_
  simp only [rmT.k1, rmT.k2, rmT.k3, rmT.k4] at rm
  refine c_law_told K (show Rm A (rmT l + rmT r + 1) from rm) ?_
  intro L env A' ev rm' hg
  have hs := hsz.1 a h0 h1
  simp only [TD.k1, TD.k2, TD.k3, TD.k4] at hs ⊢
  have h2 := done_len n ((TD x l a).flatMap fun row => if row.1 = eS then TD x r row.2 else [row])
  refine told_split (rows := (TD x l a).flatMap fun row => if row.1 = eS then TD x r row.2 else [row]) ev (rm'.le (by lia)) K hp (by lia) ?_
  refine W_If ?_
  k_extra "run"
  refine ⟨by k_extra "sz", fun fnd => ?_⟩
  k_extra "go"
  refine W_codeK (s_told hx l hn.2.1 ho.1 hsz.2.1 hP1 (leB.refl _) K (rm'.le (by lia)) h0 h1) fun G8 up8 => ?_
  rintro r1 B2 N2 - ⟨le2, l1, us1, rfl, hus1, rfl⟩
  refine up8 _ _ _ ?_
  have K := K.mono le2
  have hla := le2 _ _ hla
  refine W_iterLst (Rd.n (by k_extra "mem")) fun it => ?_
  refine WL_perm (N' := (it, .itr (.lst l1 us1) 0) :: (fnd, .lst []) :: (l1, .lst us1) :: N) (.cons _ (.swap _ _ _)) ?_
  refine rows_loop (fun row => if row.1 = eS then TD x r row.2 else [row]) (fun vr => [some (.ref pa), some (.str x tx), some (.int a ta), some (.str n t), some (.str "cat" t'), some (.ref la), some (.ref fnd), vr, none]) hus1 (es0 := []) (us0 := []) rfl (by simp only [List.length_nil]; lia) ?_ ?_ none
  ·intro B3 acc i m e v1 t1 t2 vr le3 hmem hv hT hlen hgo
   refine cutP fun G9 up9 => ?_
   obtain ⟨va, rfl, hva⟩ := hT
   refine up9 ?_
   have K := K.mono le3
   have hla := le3 _ _ hla
   refine WL_for ?_
   refine W_nextItem (k := .lst l1 us1) (i := i) (f := fun _ => .ref va) Up.here (show Rd _ _ l1 (.lst us1) from Rd.n (by k_extra "mem")) (by simp [Itk.item, hv]) fun _ => ?_
   k_extra "go"
   dsimp only at hlen hgo
   refine ite_b (fun hE => ?_) fun hE => ?_
   ·have hE' : m = eS := by simpa using hE
    subst hE'
    rw [if_pos rfl] at hlen hgo
    have hr := TD_rng l hn.2.1 ho.1 a h0 h1 e hmem
    k_extra "go"
    refine W_codeK (s_told hx r hn.2.2 ho.2 hsz.2.2 hP2 (leB.trans le2 le3) K (rm'.le (by lia)) (by lia) (by lia)) fun G10 up10 => ?_
    rintro r1 B4 N4 - ⟨le4, l2, us2, rfl, hus2, rfl⟩
    refine up10 _ _ _ ?_
    have K := K.mono le4
    k_extra "go"
    k_extra "extend"
    ·rw [sizeLine_eq, hus2.len]; lia
    refine ⟨fun _ z => (nomatch z), ?_⟩
    k_extra "go"
    refine WL_less (List.sublist_cons_self _ _) ?_
    exact hgo B4 us2 _ le4 hus2
   ·have hE' : ¬ m = eS := by simpa using hE
    rw [if_neg hE'] at hlen hgo
    k_extra "go"
    refine ⟨by k_extra "sz", fun l2 => ?_⟩
    k_extra "go"
    k_extra "extend"
    ·rw [sizeLine_eq]; simp at hlen ⊢; lia
    refine ⟨fun _ z => (nomatch z), ?_⟩
    k_extra "go"
    refine WL_less (List.sublist_cons_self _ _) ?_
    exact hgo B3 [.ref va] _ (leB.refl _) ⟨_, _, _, _, rfl, ⟨_, rfl, hva⟩, rfl⟩
  ·intro B3 acc vr le3 hacc hnn
   refine WL_for ?_
   refine W_nextEnd (k := .lst l1 us1) (i := (TD x l a).length) rm'.2.2 Dl.here (show Rd _ _ l1 (.lst us1) from Rd.n (by k_extra "mem")) (by simp [Itk.item, hnn]) ?_
   k_extra "go"
   exact ⟨rfl, leB.trans le2 le3, fnd, acc, vr, by simpa using hacc, rfl, .cons_cons _ (List.sublist_cons_self _ _)⟩
 | .leaf n lf, v, B0, hn, ho, hsz, hP => by
  intro le0 K rm h0 h1
  rename_i A B N a ta
  refine cutP fun G11 up11 => ?_
  obtain ⟨t, t', u, ⟨pa, rfl, hp⟩, hu⟩ := hP.mono le0
  refine up11 ?_
  refine Wc_drop ?_
  simp only [rmT.k1, rmT.k2, rmT.k3, rmT.k4] at rm
  refine c_law_told K (show Rm A (3 + 1) from rm) ?_
  intro L env A' ev rm' hg
  have hs := hsz a h0 h1
  simp only [TD.k1, TD.k2, TD.k3, TD.k4] at hs ⊢
  refine told_split (rows := (lEnds x a lf).map fun e => (eS, e)) ev (rm'.le (by lia)) K hp (by lia) ?_
  refine W_If ?_
  k_extra "go"
  refine ite_f (by cases lf <;> rfl) ?_
  k_extra "go"
  refine ite_f (by cases lf <;> rfl) ?_
  k_extra "go"
  refine ite_f (by cases lf <;> rfl) ?_
  refine W_cons ?_
  refine W_AC [Str.ofString "end"] [] ev (by k_extra "mem") rfl (by decide +kernel) (by decide +kernel) ?_
  k_extra "go"
  refine W_cwFn K (f := 689) ⟨_, _, hf_ends _, rfl⟩ ?_
  k_extra "go"
  have ends : Wc w A' (.call (.ref 689) ⟨[.str lf.kind t', u, .str x tx, .int a ta], []⟩) (fun v B' N' => leB B B' ∧ ∃ l xs, v = .ref l ∧ Ints (lEnds x a lf) xs ∧ N' = (l, .lst xs) :: N) B N := by
   by_cases hsg : lf.single = true
   ·exact s_leaf_ends1 K rm' hx h0 (by lia) hu ho.fits hsg
   ·exact s_leaf_ends2 K rm' hx h0 (by lia) (by simpa using hsg)
  refine W_code ends ?_
  rintro r B2 N2 - ⟨le2, l1, xs, rfl, hi, rfl⟩
  have K := K.mono le2
  refine W_iterLst (Rd.n (by k_extra "mem")) fun it => ?_
  refine ⟨it, _, rfl, by k_extra "mem", fun D C cenv evc => ?_⟩
  have hlen := ints_len hi
  have hdl := done_len n ((lEnds x a lf).map fun e => (eS, e))
  rw [List.length_map] at hdl
  generalize hel : lEnds x a lf = is at hi hlen hs hdl ⊢
  refine WL_rec (fun (s : (Bm × List Value) × Nat × Option Value) => s.1.1) (fun s => [s.2.2]) (fun s => (D, .lst s.1.2) :: (it, .itr (.lst l1 xs) s.2.1) :: (l1, .lst xs) :: N) (fun s => is.length + 1 - s.2.1)
   (fun s => leB B2 s.1.1 ∧ s.2.1 ≤ is.length ∧ Evs s.1.1 ((is.take s.2.1).map fun e => (eS, e)) s.1.2) ?_ ((B2, []), 0, none) ⟨leB.refl _, Nat.zero_le _, rfl⟩
  intro ⟨⟨B3, acc⟩, i, vp⟩ ⟨le3, hi', hacc⟩ ih
  dsimp only at le3 hi' hacc ih ⊢
  have K := K.mono le3
  refine WL_comp ?_
  cases q : is[i]? with
  | none =>
   refine W_nextEnd (k := .lst l1 xs) (i := i) rm'.2.2 (.there .here) (show Rd _ _ l1 (.lst xs) from Rd.n (by k_extra "mem")) (by simp [Itk.item, (ints_get hi i).2 q]) ?_
   have hfi : i = is.length := by
    rcases Nat.lt_or_ge i is.length with h | h
    ·rw [List.getElem?_eq_getElem h] at q; cases q
    ·lia
   rw [hfi, List.take_length] at hacc
   refine ⟨rfl, _, by k_extra "pv", ?_⟩
   k_extra "go"
   exact ⟨rfl, leB.trans le2 le3, D, acc, none, hacc, rfl, .cons_cons _ (List.sublist_cons_self _ _)⟩
  | some e =>
   obtain ⟨te, hy⟩ := (ints_get hi i).1 e q
   have hlt : i < is.length := (List.getElem?_eq_some_iff.mp q).1
   refine W_nextItem (k := .lst l1 xs) (i := i) (f := fun _ => .int e te) (.there .here) (show Rd _ _ l1 (.lst xs) from Rd.n (by k_extra "mem")) (by simp [Itk.item, hy]) fun _ => ?_
   k_extra "go"
   refine W_forNil ?_
   k_extra "tf"
   k_extra "go"
   refine ⟨by k_extra "sz", fun e1 B4 le4 he4 => ?_⟩
   k_extra "append"
   ·rw [sizeLine_eq, hacc.len, List.length_map, List.length_take]; lia
   refine ih ((B4, acc ++ [.ref e1]), i + 1, some (.int e te)) (by dsimp only; lia) ⟨le3.trans le4, hlt, ?_⟩
   have et : is.take (i + 1) = is.take i ++ [e] := by rw [List.take_add_one, q]; rfl
   dsimp only
   rw [et, List.map_append]
   exact Evs.snoc ⟨_, rfl, he4⟩ (hacc.mono le4)
end
end
section
noncomputable def subjects : List Str := ["", "a", "b", "(", ")", "aa", "ab", "a(", "a)", "ba", "bb", "b(", "b)", "(a", "(b", "((", "()", ")a", ")b", ")(", "))"]
noncomputable def DU (x : Str) (T : Tr) : Nat → List Evt
 | 0 => []
 | n + 1 => DU x T n ++ (TD x T n).filter fun r => !(r.1 == eS)
theorem DU.k1 {x : Str} {T : Tr} : DU x T 0 = [] := rfl
theorem DU.k2 {x : Str} {T : Tr} {n} : DU x T (n + 1) = DU x T n ++ (TD x T n).filter fun r => !(r.1 == eS) := rfl
structure Fine (x : Str) (T : Tr) : Prop where
 okl : T.all (Okl x)
 okm : T.all (Okm x)
 oke : T.all (Oke x)
 sz : SzT x T
 ca : CA x T (x.length + 1) ≤ 99999
 cam : CAM x T (x.length + 1) ≤ 99999
 tsz : T.sz ≤ 900
 wz : wz T ≤ 4000
 lz : lenT T ≤ 4000
 rz : rmT T ≤ 60
 due : DU x T (x.length + 1) = EA x T (x.length + 1)
 dl : (DU x T (x.length + 1)).length ≤ 900000
theorem Evs.same {B : Bm} : ∀ {es : List Evt} {ls ds : List Value}, Evs B es ls → Evs B es ds → Same2 B ls ds
 | [], _, _, h, g => by cases h; cases g; exact .nil
 | (n, e) :: es, _, _, h, g => by
  refine cutP fun G1 up1 => ?_
  obtain ⟨v, u, u', vs', rfl, ⟨a, rfl, h2⟩, h3⟩ := h
  refine up1 ?_
  refine cutP fun G2 up2 => ?_
  obtain ⟨v2, t, t', vs2, rfl, ⟨b, rfl, g2⟩, g3⟩ := g
  refine up2 ?_
  exact .cons h2 g2 (Evs.same h3 g3)
section
variable {w : World} {A : Around} {B : Bm} {N : Nm} {d : Nat}
inductive R_init_Host (B : Bm) (N : Nm) (h : Addr) (hd : Addr) (vd : Addr) (rf : Addr) (tl : Tok) (v : Value) (B' : Bm) (N' : Nm) : Prop
 | mk : v = Value.none → B = B' → ∀ lg tw ts, N' = (lg, .lst []) :: (h, .inst 589 hd) :: (hd, .att hNs (hVs (.ref vd) (.int 99999 tl) (.ref rf) (.int 64 tw) (.int ((0 : Nat) : Int) ts) (.ref lg))) :: N → R_init_Host B N h hd vd rf tl v B' N'
theorem s_init_Host {h hd vd rf : Addr} {tl : Tok} (K : KB w B) (rm : Rm A 1) :
  Wc w A (.call (.ref 565) ⟨[.ref h, .ref vd, .int 99999 tl, .ref rf], []⟩) (R_init_Host B N h hd vd rf tl) B ((h, .inst 589 hd) :: (hd, .att hNs [none, none, none, none, none, none]) :: N) := by
 refine c_PlainHost_init K rm ?_
 intro L env A' ev rm' hg
 refine W_cons ?_
 k_extra "go"
 refine ⟨by k_extra "sz", fun lg => ?_⟩
 k_extra "go"
 exact ⟨rfl, rfl, lg, _, _, rfl⟩
inductive R_new_Host (B : Bm) (N : Nm) (vd : Addr) (rf : Addr) (tl : Tok) (v : Value) (B' : Bm) (N' : Nm) : Prop
 | mk : leB B B' → ∀ h hd lg tw ts, v = .ref h → HostOk B' h hd rf → N' = HS hd vd lg (.int 99999 tl) (.ref rf) (.int 64 tw) ts 0 [] N → R_new_Host B N vd rf tl v B' N'
theorem s_new_Host {vd rf : Addr} {tl : Tok} (K : KB w B) (rm : Rm A 2) (hrf : B rf = some (.lst [])) :
  Wc w A (.call (.ref 589) ⟨[.ref vd, .int 99999 tl, .ref rf], []⟩) (R_new_Host B N vd rf tl) B ((vd, .sd 0) :: N) := by
 refine Wc_frzE ?_
 refine Wc_make (xs := hNs) K rm (by kernel_rfl) (md_PlainHost_init _) fun h hd A' rm' => ?_
 refine Wc_perm (List.Perm.refl _) (Wc_mono (s_init_Host (N := (vd, .sd 0) :: N) K rm') ?_)
 rintro v B' N' hq9
 refine cutP fun G3 up3 => ?_
 obtain ⟨rfl, rfl, lg, tw, ts, rfl⟩ := hq9
 refine up3 ?_
 refine ⟨(h, .inst 589 hd) :: HS hd vd lg (.int 99999 tl) (.ref rf) (.int 64 tw) ts 0 [] N, ?_, rfl, h, _, _, rfl, fun B'' le hB => ⟨le, h, hd, lg, tw, ts, rfl, ⟨hB, le _ _ hrf⟩, rfl⟩⟩
 exact (List.perm_middle (l₁ := [(h, _), (hd, _), (vd, _)])).symm
theorem hf_law (P : Params) : (H1 P).get? 706 = some (o706 P) := by kernel_rfl
theorem hc_law (P : Params) : (H1 P).get? 705 = some (o705 P) := by kernel_rfl
noncomputable abbrev wNs' : List Str := [Str.ofString "script", Str.ofString "subject", Str.ofString "part", Str.ofString "due", Str.ofString "begin", Str.ofString "whole", Str.ofString "host", Str.ofString "other"]
noncomputable abbrev wGs : List Str := [Str.ofString "list", Str.ofString "range", Str.ofString "_law_take", Str.ofString "_law_drawn", Str.ofString "len", Str.ofString "_law_told", Str.ofString "_law_node", Str.ofString "PlainHost", Str.ofString "match_plain", Str.ofString "match_compiled"]
theorem ok_law : okDefC (st 102) [Str.ofString "script"] wNs' [Str.ofString "box"] wGs = true := by decide +kernel
theorem lw1 : (dScope (st 102)).names.lookup (Str.ofString "script") = some .local := by decide +kernel
theorem bd_law (a : Value) : bindArgs (fd (st 102) "law" .none (.str "law_sj0202_01" 1190) (.ref 705)) ⟨[a], []⟩ = pure ([Str.ofString "script"].zip [a]) := by kernel_rfl
theorem c_law {a : Value} {Q : Value → Bm → Nm → Prop} (K : KB w B) (rm : Rm A (d + 1))
  (h : ∀ L env A' cb, Ev env wNs' wGs [(Str.ofString "box", cb)] L → Rm A' d →
   W w A' wNs' L (execs (dBody (st 102)) env) (fun fl B' vs' N' => Q (retOf fl) B' N') B [some a, none, none, none, none, none, none, none] ((cb, .cell none) :: N)) :
  Wc w A (.call (.ref 706) ⟨[a], []⟩) Q B N := by
 refine Wc_defC (fo := o706 w.params) (co := o705 w.params) (fvs := codeFields (o705 w.params)) (st := st 102) (qual := "law") (pm := .str "law_sj0202_01" 1190) (c := 705) (ps := [Str.ofString "script"]) (ns := wNs') (cs := [Str.ofString "box"]) (gs' := wGs) (vs0 := [some a, none, none, none, none, none, none, none]) (args := [a]) (tk := 1262)
  (cm := fun _ => none) K rm (hf_law _) rfl (hc_law _) (by kernel_rfl) (by kernel_rfl) ok_law rfl (bd_law a) ?_ ?_ ?_
 ·funext y
  simp only [List.zip_cons_cons, List.zip_nil_left, bindL, lw1, if_true, look_cons, show ∀ y, look [] [] y = none from fun _ => rfl, ite_self]
 ·funext y
  simp only [List.zip_cons_cons, List.zip_nil_left, bindC, lw1, if_true]
 ·intro L env A' cl ev hcl rm' hg
  match cl, hcl with
  | [(n1, c1)], hcl =>
   simp at hcl
   subst hcl
   exact h L env A' c1 ev rm'
end
end
section
theorem sub_all : (subjects.all fun x => decide (x.length ≤ 2)) = true := by decide +kernel
theorem sub_len {x : Str} (h : x ∈ subjects) : x.length ≤ 2 := of_decide_eq_true (List.all_eq_true.mp sub_all x h)
theorem SzT.len {x : Str} : ∀ {T : Tr}, SzT x T → ∀ a : Int, 0 ≤ a → a ≤ x.length → (TD x T a).length ≤ 100000
 | .leaf _ _, h => h
 | .cat _ _ _, h => h.1
 | .alt _ _ _, h => h.1
 | .arb _ _, h => h.1
theorem DU_le {x : Str} {T : Tr} : ∀ {n m : Nat}, n ≤ m → (DU x T n).length ≤ (DU x T m).length
 | n, 0, h => by rw [Nat.le_zero.mp h]; exact Nat.le_refl _
 | n, m + 1, h => by
  rcases Nat.lt_or_ge n (m + 1) with q | q
  ·refine Nat.le_trans (DU_le (Nat.le_of_lt_succ q)) ?_
   simp only [DU.k2, List.length_append]; lia
  ·rw [Nat.le_antisymm h q]; exact Nat.le_refl _
theorem flat_filter (rows : List Evt) : rows.flatMap (fun r => if r.1 = eS then [] else [r]) = rows.filter fun r => !(r.1 == eS) := by
 induction rows with
 | nil => rfl
 | cons r rows ih =>
  rw [List.flatMap_cons, ih]
  by_cases h : r.1 = eS
  ·rw [if_pos h, List.filter_cons_of_neg (by simp [h])]; rfl
  ·rw [if_neg h, List.filter_cons_of_pos (by simp [h])]; rfl
noncomputable def four : List Str := [⟨#[97]⟩, ⟨#[98]⟩, ⟨#[40]⟩, ⟨#[41]⟩]
theorem all_join : (four.all fun a => subjects.contains (Txt.join "" [a]) && four.all fun b => subjects.contains (Txt.join "" [a, b])) = true := by decide +kernel
theorem nil_join : Txt.join "" [] ∈ subjects := by decide +kernel
theorem join_in : ∀ ys : List Str, ys.length ≤ 2 → (∀ y ∈ ys, y ∈ four) → Txt.join "" ys ∈ subjects
 | [], _, _ => nil_join
 | [a], _, h => by
  have := all_join
  simp only [List.all_eq_true, Bool.and_eq_true, List.contains_iff_mem] at this
  exact (this a (h a (.head _))).1
 | [a, b], _, h => by
  have := all_join
  simp only [List.all_eq_true, Bool.and_eq_true, List.contains_iff_mem] at this
  exact (this a (h a (.head _))).2 b (h b (.tail _ (.head _)))
 | _ :: _ :: _ :: _, h, _ => by simp at h
theorem four_len {ys : List Str} (hl : ys.length ≤ 2) (h : ∀ y ∈ ys, y ∈ four) : (ys.map (·.length)).sum + ys.length ≤ 1048576 := by
 have h1 : ∀ y ∈ ys, y.length = 1 := fun y hy => by
  have := h y hy
  simp [four] at this
  rcases this with rfl | rfl | rfl | rfl <;> rfl
 match ys, hl, h1 with
 | [], _, _ => simp
 | [a], _, h1 => simp [h1 a (.head _)]
 | [a, b], _, h1 => simp [h1 a (.head _), h1 b (.tail _ (.head _))]
theorem ab_at {j : Int} (h0 : 0 ≤ j) (h1 : j < 4) : ∃ ch, (Str.ofString "ab()").cps[j.toNat]? = some ch ∧ (⟨#[ch]⟩ : Str) ∈ four := by
 have : j = 0 ∨ j = 1 ∨ j = 2 ∨ j = 3 := by lia
 rcases this with rfl | rfl | rfl | rfl
 ·exact ⟨97, rfl, by simp [four]⟩
 ·exact ⟨98, rfl, by simp [four]⟩
 ·exact ⟨40, rfl, by simp [four]⟩
 ·exact ⟨41, rfl, by simp [four]⟩
theorem strs_snoc {vs : List Value} {ys : List Str} {y : Str} {t : Tok} (h : StrsAre vs ys) : StrsAre (vs ++ [.str y t]) (ys ++ [y]) := by
 induction h with
 | nil => exact .cons _ _ .nil
 | cons y t _ ih => exact .cons _ _ ih
theorem strs_len {vs : List Value} {ys : List Str} (h : StrsAre vs ys) : vs.length = ys.length := by
 induction h with
 | nil => rfl
 | cons y t _ ih => simp [ih]
section
variable {w : World} {A : Around} {B : Bm} {N : Nm} {d : Nat}
theorem s_law {sl : Addr} {xs : List Value} (K : KB w B) (rm : Rm A 80) (hsl : B sl = some (.lst xs)) (hx : AllInt xs) (hl : xs.length ≤ 63) (fine : ∀ x ∈ subjects, ∀ T, inDeep 2 T → okN T → Fine x T) :
  Wc w A (.call (.ref 706) ⟨[.ref sl], []⟩) (fun v B' N' => v = .bool true) B N := by
 refine c_law K rm ?_
 intro L env A' cb ev rm'
 refine W_cons ?_
 repeat ((fail_if_success with_reducible refine W_strSlice ?_); k_extra "1")
 refine W_lstSlice ?_
 k_extra "go"
 refine ⟨sl, xs, none, _, none, rfl, Rd.b hsl, .none, .int _ _, .none, by decide, by k_extra "sz", fun b => ?_⟩
 have hpk : (slicePick xs.toArray none (some 40) none).toList = xs.take 40 := by
  have := slicePick_upto' xs.toArray 40
  rw [show ((40 : Nat) : Int) = 40 from rfl] at this
  rw [this]
 rw [hpk]
 k_extra "go"
 have htl : (xs.take 40).length ≤ 40 := by rw [List.length_take]; lia
 refine W_listLst (Rd.n (by k_extra "mem")) (by k_extra "sz") fun sc => ?_
 k_extra "go"
 refine ⟨by k_extra "sz", fun bx => ?_⟩
 refine W_cellStore ev (.head _) (.there (.there (.there .here))) ?_
 rename_i t1 t2
 refine W_perm (N' := (cb, .cell (some (.ref bx))) :: BX bx sc (xs.take 40) 0 t1 0 t2 ((b, .lst (xs.take 40)) :: N)) (List.perm_middle (l₁ := [(bx, _), (sc, _), (b, _)])) ?_
 refine W_frz fun B1 le1 hcb => ?_
 have K := K.mono le1
 refine W_seqJ (fun R0 => ∀ x tx xs1 c1 tc1 R, x ∈ subjects → AllInt xs1 → xs1.length ≤ 100 → 0 ≤ c1 → c1 ≤ 10 → R0 B1 [some (.ref sl), some (.str x tx), none, none, none, none, none, none] (BX bx sc xs1 c1 tc1 0 t2 R)) (fun R0 jp => ?_) fun x tx xs1 c1 tc1 R hxs hx1 hl1 hc0 hc1 => ?_
 ·k_extra "go"
  refine W_LCF [Str.ofString "turn"] [Str.ofString "_law_take"] [Str.ofString "box"] ev (by decide +kernel) (by simp) ?_
  k_extra "go"
  refine TkP.go (s_take K (rm'.le (by lia)) (fun v hv => hx v (List.mem_of_mem_take hv)) (by lia) (by decide) (by decide) (by decide) (by decide)) fun k tk xs1 tc1 k0 k1 hx1 hl1 => ?_
  k_extra "go"
  refine W_range1 fun r u v => ?_
  refine W_iterRng (Rd.n (by k_extra "mem")) (by decide) (by decide) (by lia) (by lia) fun it => ?_
  refine ⟨it, _, rfl, by k_extra "mem", fun D C cenv cl' evc hcl hsub => ?_⟩
  obtain ⟨d1, rfl⟩ : ∃ d1, cl' = [(Str.ofString "box", d1)] := by
   match cl', hcl with
   | [(n1, d1)], hcl => simp at hcl; subst hcl; exact ⟨_, rfl⟩
  have e1 : d1 = cb := by
   have := hsub _ (.head _)
   simpa using this
  subst e1
  generalize hn : (k - 0).toNat = n
  have hn3 : n ≤ 2 := by lia
  refine WL_less (N' := (D, .lst []) :: (it, .itr (.rng 0 n) 0) :: BX bx sc xs1 (0 + 1) tc1 0 t2 ((b, .lst (xs.take 40)) :: N)) (.cons_cons _ (.cons_cons _ (.cons _ (List.Sublist.refl _)))) ?_
  refine WL_perm (N' := BX bx sc xs1 (0 + 1) tc1 0 t2 ((D, .lst []) :: (it, .itr (.rng 0 n) 0) :: (b, .lst (xs.take 40)) :: N)) ((List.perm_append_comm (l₁ := [(D, _), (it, _)]) (l₂ := [(bx, _), (sc, _)])).append_right _) ?_
  refine WL_rec (fun _ => B1) (fun (s : (List Value × List Str) × (List Value × Int × Tok) × Nat × Option Value) => [s.2.2.2]) (fun s => BX bx sc s.2.1.1 s.2.1.2.1 s.2.1.2.2 0 t2 ((D, .lst s.1.1) :: (it, .itr (.rng 0 n) s.2.2.1) :: (b, .lst (xs.take 40)) :: N)) (fun s => n + 1 - s.2.2.1)
   (fun s => s.2.2.1 ≤ n ∧ StrsAre s.1.1 s.1.2 ∧ s.1.2.length = s.2.2.1 ∧ (∀ y ∈ s.1.2, y ∈ four) ∧ AllInt s.2.1.1 ∧ s.2.1.1.length ≤ 100 ∧ 0 ≤ s.2.1.2.1 ∧ s.2.1.2.1 = 1 + s.2.2.1) ?_ (([], []), (xs1, 0 + 1, tc1), 0, none) ⟨Nat.zero_le _, .nil, rfl, fun _ h => (nomatch h), hx1, hl1, by simp, by simp⟩
  intro ⟨⟨acc, ys⟩, ⟨xs2, c2, tc2⟩, i, ve⟩ ⟨hi, hys, hyl, hyf, hx2, hl2, hc0, hc2⟩ ih
  dsimp only at hi hys hyl hyf hx2 hl2 hc0 hc2 ih ⊢
  refine WL_comp ?_
  by_cases q : i < n
  ·refine W_nextItem (k := .rng 0 n) (i := i) (f := fun t => .int (0 + i) t) (.there (.there (.there .here))) trivial (by simp [Itk.item, q]) fun t => ?_
   k_extra "go"
   refine W_forNil ?_
   k_extra "tf"
   k_extra "go"
   refine TkP.go (s_take K (rm'.le (by lia)) hx2 hl2 hc0 (by lia) (by decide) (by decide)) fun j tj xs3 tc3 j0 j1 hx3 hl3 => ?_
   refine cutP fun G3 up3 => ?_
   obtain ⟨ch, hch, hf⟩ := ab_at j0 j1
   refine up3 ?_
   k_extra "go"
   refine W_item_str j0 (by lia) hch fun tt => ?_
   k_extra "append"
   ·rw [sizeLine_eq, strs_len hys]; lia
   exact ih ((acc ++ [.str ⟨#[ch]⟩ tt], ys ++ [⟨#[ch]⟩]), (xs3, c2 + 1, tc3), i + 1, _) (by dsimp only; lia) ⟨by dsimp only; lia, strs_snoc hys, by simp [hyl], fun y hy => by
    rcases List.mem_append.mp hy with hy | hy
    ·exact hyf y hy
    ·rw [List.mem_singleton.mp hy]; exact hf, hx3, hl3, by dsimp only; lia, by dsimp only; lia⟩
  ·refine W_nextEnd (k := .rng 0 n) (i := i) rm'.2.2 (.there (.there (.there .here))) trivial (by simp [Itk.item, q]) ?_
   have e : i = n := by lia
   refine ⟨rfl, ?_⟩
   k_extra "go"
   refine W_join (Rd.n (by k_extra "mem")) hys (by decide) (four_len (by lia) hyf) fun tx => ?_
   k_extra "go"
   exact jp _ tx xs2 c2 tc2 _ (join_in ys (by lia) hyf) hx2 hl2 hc0 (by lia)
 have hxl : x.length ≤ 2 := sub_len hxs
 refine W_seqJ (fun R0 => ∀ B3 T v du R, leB B1 B3 → inDeep 2 T → okN T → IsPart B3 T v → R0 B3 [some (.ref sl), some (.str x tx), some v, some (.ref du), none, none, none, none] ((du, .lst []) :: R)) (fun R0 jp => ?_) fun B3 T v du R2 le3 hT hO hP => ?_
 ·k_extra "as2"
  k_extra "go"
  refine DrP.go (s_drawn 2 K (rm'.le (by lia)) hx1 hl1 hc0 (by simp only [kd.k1, kd.k2]; lia) (by decide) (by decide) (by decide)) fun v B3 T xs2 c2 tc2 n2 tn2 le3 hT hO hP _ _ _ _ _ _ => ?_
  have K := K.mono le3
  k_extra "go"
  refine ⟨by k_extra "sz", fun du => ?_⟩
  k_extra "go"
  exact jp B3 T v du _ le3 hT hO hP
 have K := K.mono le3
 have F := fine x hxs T hT hO
 refine W_seqJ (fun R0 => ∀ B4 ds vb, leB B3 B4 → Evs B4 (DU x T (x.length + 1)) ds → R0 B4 [some (.ref sl), some (.str x tx), some v, some (.ref du), vb, none, none, none] ((du, .lst ds) :: R2)) (fun R0 jp => ?_) ?_
 ·k_extra "go"
  refine W_lenStr (by lia) fun u => ?_
  k_extra "go"
  refine W_range1 fun r u1 u2 => ?_
  refine W_iterRng (Rd.n (by k_extra "mem")) (by decide) (by decide) (by lia) (by lia) fun it => ?_
  refine WL_less (N' := (it, .itr (.rng 0 (x.length + 1)) 0) :: (du, .lst []) :: R2) (by
   rw [show ((x.length : Int) + 1 - 0).toNat = x.length + 1 by lia]; k_extra "sls") ?_
  refine WL_rec (fun (s : (Bm × List Value) × Nat × Option Value) => s.1.1) (fun s => [some (.ref sl), some (.str x tx), some v, some (.ref du), s.2.2, none, none, none])
   (fun s => (it, .itr (.rng 0 (x.length + 1)) s.2.1) :: (du, .lst s.1.2) :: R2) (fun s => x.length + 2 - s.2.1)
   (fun s => leB B3 s.1.1 ∧ s.2.1 ≤ x.length + 1 ∧ Evs s.1.1 (DU x T s.2.1) s.1.2) ?_ ((B3, []), 0, none) ⟨leB.refl _, Nat.zero_le _, rfl⟩
  intro ⟨⟨B4, ds⟩, i, vb⟩ ⟨le4, hi, hds⟩ ih
  dsimp only at le4 hi hds ih ⊢
  have K := K.mono le4
  refine WL_for ?_
  by_cases q : i < x.length + 1
  ·refine W_nextItem (k := .rng 0 (x.length + 1)) (i := i) (f := fun t => .int (0 + i) t) Up.here trivial (by simp [Itk.item, q]) fun t => ?_
   rw [Int.zero_add]
   k_extra "go"
   refine W_LC [Str.ofString "row"] [] ev (by decide +kernel) ?_
   k_extra "go"
   refine W_codeK (s_told hxl T hO F.oke F.sz hP le4 K (rm'.le (by have := F.rz; lia)) (by lia) (by lia)) fun G7 up7 => ?_
   rintro r1 B5 N5 - ⟨le5, l, us, rfl, hus, rfl⟩
   refine up7 _ _ _ ?_
   have K := K.mono le5
   refine W_iterLst (Rd.n (by k_extra "mem")) fun it2 => ?_
   refine ⟨it2, _, rfl, by k_extra "mem", fun D C cenv evc => ?_⟩
   have hsz := F.sz.len i (by lia) (by lia)
   have hfl := List.length_filter_le (fun r : Evt => !(r.1 == eS)) (TD x T i)
   refine WL_perm (.swap _ _ _) ?_
   refine rows_loop (fun r => if r.1 = eS then [] else [r]) (fun vr => [vr]) hus (es0 := []) (us0 := []) rfl (by rw [flat_filter]; simp only [List.length_nil]; lia) ?_ ?_ none
   ·intro B6 acc j n e v1 t1 t2 vr le6 hmem hv hT hlen hgo
    refine cutP fun G8 up8 => ?_
    obtain ⟨va, rfl, hva⟩ := hT
    refine up8 ?_
    have K := K.mono le6
    dsimp only at hlen hgo
    refine WL_comp ?_
    refine W_nextItem (k := .lst l us) (i := j) (f := fun _ => .ref va) Up.here (show Rd _ _ l (.lst us) from Rd.n (by k_extra "mem")) (by simp [Itk.item, hv]) fun _ => ?_
    k_extra "go"
    refine W_for1 ?_
    k_extra "go"
    refine ite_b (fun hE => ?_) fun hE => ?_
    ·have hE' : ¬ n = eS := by simpa using hE
     rw [if_neg hE'] at hlen hgo
     k_extra "go"
     k_extra "append"
     ·rw [sizeLine_eq]; simp at hlen; lia
     exact hgo B6 [.ref va] _ (leB.refl _) ⟨_, _, _, _, rfl, ⟨_, rfl, hva⟩, rfl⟩
    ·have hE' : n = eS := by simpa using hE
     rw [if_pos hE'] at hlen hgo
     have := hgo B6 [] (some (.ref va)) (leB.refl _) rfl
     rw [List.append_nil] at this
     exact this
   ·intro B6 acc vr le6 hacc hn
    rw [flat_filter, List.nil_append] at hacc
    have K := K.mono le6
    refine WL_comp ?_
    refine W_nextEnd (k := .lst l us) (i := (TD x T i).length) rm'.2.2 Dl.here (show Rd _ _ l (.lst us) from Rd.n (by k_extra "mem")) (by simp [Itk.item, hn]) ?_
    refine ⟨rfl, ?_⟩
    k_extra "go"
    have hm := DU_le (x := x) (T := T) (show i + 1 ≤ x.length + 1 by lia)
    have hdl := F.dl
    k_extra "extend"
    ·rw [sizeLine_eq, hds.len, hacc.len]
     have : (DU x T (i + 1)).length = (DU x T i).length + ((TD x T i).filter fun r => !(r.1 == eS)).length := by simp only [DU.k2, List.length_append]
     lia
    refine ⟨fun _ z => (nomatch z), ?_⟩
    k_extra "go"
    refine WL_less (N' := (it, .itr (.rng 0 (x.length + 1)) (i + 1)) :: (du, .lst (ds ++ acc)) :: R2) (.cons _ (.cons _ (List.Sublist.refl _))) ?_
    exact ih ((B6, ds ++ acc), i + 1, _) (by dsimp only; lia) ⟨le4.trans (leB.trans le5 le6), by dsimp only; lia, by
     dsimp only; simp only [DU.k1, DU.k2]; exact Evs.app hacc (hds.mono (leB.trans le5 le6))⟩
  ·have e : i = x.length + 1 := by lia
   subst e
   refine W_nextEnd (k := .rng 0 (x.length + 1)) (i := x.length + 1) rm'.2.2 Dl.here trivial (by simp [Itk.item]) ?_
   k_extra "go"
   exact jp _ ds vb le4 hds
 intro B4 ds vb le4 hds
 have K := K.mono le4
 refine W_cons ?_
 k_extra "go"
 refine W_codeK (s_node T 2 K (rm'.le (by lia)) hT (hP.mono le4)) fun G10 up10 => ?_
 rintro nv B5 N5 - ⟨le5, hnd, rfl⟩
 refine up10 _ _ _ ?_
 have K := K.mono le5
 k_extra "go"
 refine ⟨by k_extra "sz", fun fa B6 le6 hfa => ?_⟩
 have K := K.mono le6
 k_extra "go"
 refine ⟨by k_extra "sz", fun wa B7 le7 hwa => ?_⟩
 have K := K.mono le7
 have hds := ((hds.mono le5).mono le6).mono le7
 have hw : IsWhole B7 T (.ref wa) := ⟨_, nv, .ref fa, _, ⟨_, rfl, hwa⟩, (hnd.mono le6).mono le7, ⟨_, rfl, le7 _ _ hfa⟩⟩
 k_extra "1"
 refine W_cons ?_
 k_extra "as2"
 k_extra "go"
 refine W_cwCls K (kp_PlainHost _) ?_
 k_extra "go"
 refine W_dict0 fun vd1 => ?_
 k_extra "go"
 refine ⟨by k_extra "sz", fun rf1 => ?_⟩
 refine W_frz fun B8 le8 hrf1 => ?_
 have K := K.mono le8
 k_extra "go"
 refine W_codeK (s_new_Host K (rm'.le (by lia)) hrf1) fun G11 up11 => ?_
 rintro r1 B9 N9 - ⟨le9, h1, hd1, lg1, tw1, ts1, rfl, ho1, rfl⟩
 refine up11 _ _ _ ?_
 have K := K.mono le9
 k_extra "go"
 refine W_cwCls K (kp_PlainHost _) ?_
 k_extra "go"
 refine W_dict0 fun vd2 => ?_
 k_extra "go"
 refine ⟨by k_extra "sz", fun rf2 => ?_⟩
 refine W_frz fun Ba lea hrf2 => ?_
 have K := K.mono lea
 k_extra "go"
 refine W_codeK (s_new_Host K (rm'.le (by lia)) hrf2) fun G12 up12 => ?_
 rintro r2 Bb Nb - ⟨leb, h2, hd2, lg2, tw2, ts2, rfl, ho2, rfl⟩
 refine up12 _ _ _ ?_
 have K := K.mono leb
 have l7b : leB B7 Bb := leB.trans le8 (leB.trans le9 (leB.trans lea leb))
 have ho1 := (ho1.mono lea).mono leb
 have hw := hw.mono l7b
 have hds := hds.mono l7b
 k_extra "go"
 refine W_perm (N' := HS hd1 vd1 lg1 (.int 99999 _) (.ref rf1) (.int 64 tw1) ts1 0 [] (HS hd2 vd2 lg2 (.int 99999 _) (.ref rf2) (.int 64 tw2) ts2 0 [] ((du, .lst ds) :: R2))) ((List.perm_append_comm (l₁ := [(hd2, _), (vd2, _), (lg2, _)]) (l₂ := [(hd1, _), (vd1, _), (lg1, _)])).append_right _) ?_
 refine W_codeK (s_match_plain K (rm'.le (by lia)) hxl F.okl hw ho1 F.ca) fun G13 up13 => ?_
 rintro r3 Bc Nc - ⟨lec, rfl, ls1, ts1', hls1, rfl⟩
 refine up13 _ _ _ ?_
 have K := K.mono lec
 have ho1 := ho1.mono lec
 have ho2 := ho2.mono lec
 have hw := hw.mono lec
 have hds := hds.mono lec
 have hi1 := ho1.inst
 k_extra "go"
 k_extra "tf"
 k_extra "go"
 refine W_neLog (d := 10) (rm'.le (by lia)) (Rd.n (by k_extra "mem")) (Rd.n (by k_extra "mem")) (hls1.same (by rw [← F.due]; exact hds)) ?_
 k_extra "go"
 k_extra "tf"
 k_extra "go"
 k_extra "tf"
 k_extra "go"
 refine W_And2 ?_
 k_extra "go"
 refine W_perm (N' := HS hd2 vd2 lg2 (.int 99999 _) (.ref rf2) (.int 64 tw2) ts2 0 [] (HS hd1 vd1 lg1 (.int 99999 _) (.ref rf1) (.int 64 tw1) ts1' (CA x T (x.length + 1)) ls1 ((du, .lst ds) :: R2))) ((List.perm_append_comm (l₁ := [(hd1, _), (vd1, _), (lg1, _)]) (l₂ := [(hd2, _), (vd2, _), (lg2, _)])).append_right _) ?_
 refine W_codeK (s_match_compiled K (rm'.le (by lia)) hxl F.okl F.okm hw F.tsz F.wz F.lz ho2 F.cam) fun G14 up14 => ?_
 rintro r4 Bd Nd - ⟨led, rfl, ls2, ts2', hls2, rfl⟩
 refine up14 _ _ _ ?_
 have K := K.mono led
 have hi2 := (ho2.mono led).inst
 have hds := hds.mono led
 k_extra "go"
 k_extra "tf"
 k_extra "go"
 refine W_eqLog (d := 10) (rm'.le (by lia)) (Rd.n (by k_extra "mem")) (Rd.n (by k_extra "mem")) (hls2.same (by rw [← F.due]; exact hds)) ?_
 rfl
end
end
section
noncomputable def chk (x : Str) (lf : Lf) : Bool := lf.fits && (List.range (x.length + 1)).all fun a => (lEnds x a lf == pEnds x a lf) && (pEnds x a lf).isSublist (pEnds x a .arb) && (!(odLf lf).isEmpty || pEnds x a lf == [(a : Int)])
theorem chk_all : (subjects.all fun x => allLf.all fun lf => chk x lf) = true := by decide +kernel
end
section
structure Lk (x : Str) (lf : Lf) : Prop where
 fits : lf.fits = true
 eq : ∀ a : Int, 0 ≤ a → a ≤ x.length → lEnds x a lf = pEnds x a lf
 sub : ∀ a : Int, 0 ≤ a → a ≤ x.length → (pEnds x a lf).Sublist (pEnds x a .arb)
 nil : odLf lf = [] → ∀ a : Int, 0 ≤ a → a ≤ x.length → pEnds x a lf = [a]
theorem lk_of {x : Str} {lf : Lf} (hx : x ∈ subjects) (hl : lf ∈ allLf) : Lk x lf := by
 have h := List.all_eq_true.mp (List.all_eq_true.mp chk_all x hx) lf hl
 simp only [chk, Bool.and_eq_true, List.all_eq_true, List.mem_range, Bool.or_eq_true, beq_iff_eq, Bool.not_eq_true', List.isEmpty_eq_false_iff] at h
 obtain ⟨h1, h2⟩ := h
 have g : ∀ a : Int, 0 ≤ a → a ≤ x.length → (lEnds x a lf = pEnds x a lf ∧ (pEnds x a lf).isSublist (pEnds x a .arb) = true) ∧ (odLf lf ≠ [] ∨ pEnds x a lf = [a]) := fun a h0 h1 => by
  obtain ⟨n, rfl⟩ := Int.eq_ofNat_of_zero_le h0
  exact h2 n (by lia)
 exact ⟨h1, fun a p q => (g a p q).1.1, fun a p q => List.isSublist_iff_sublist.mp (g a p q).1.2, fun hn a p q => (g a p q).2.resolve_left fun z => z hn⟩
theorem inDeep.leafs {n : Str} {lf : Lf} {d : Nat} (h : inDeep d (.leaf n lf)) : lf ∈ allLf := by cases d <;> exact h
theorem all_of {P : Lf → Prop} (h : ∀ lf ∈ allLf, P lf) {T : Tr} : ∀ {d : Nat}, inDeep d T → T.all P := by
 induction T with
 | leaf n lf => intro d hd; exact h lf hd.leafs
 | cat n l r il ir => intro d hd; cases d with | zero => exact hd.elim | succ d => exact ⟨il hd.1, ir hd.2⟩
 | alt n l r il ir => intro d hd; cases d with | zero => exact hd.elim | succ d => exact ⟨il hd.1, ir hd.2⟩
 | arb n t it => intro d hd; cases d with | zero => exact hd.elim | succ d => exact it (d := d) hd
theorem deep_le {T : Tr} : ∀ {d e : Nat}, d ≤ e → inDeep d T → inDeep e T := by
 induction T with
 | leaf n lf => intro d e _ h; cases e <;> exact h.leafs
 | cat n l r il ir => intro d e de h; cases d with | zero => exact h.elim | succ d => cases e with | zero => exact absurd de (Nat.not_succ_le_zero _) | succ e => exact ⟨il (Nat.le_of_succ_le_succ de) h.1, ir (Nat.le_of_succ_le_succ de) h.2⟩
 | alt n l r il ir => intro d e de h; cases d with | zero => exact h.elim | succ d => cases e with | zero => exact absurd de (Nat.not_succ_le_zero _) | succ e => exact ⟨il (Nat.le_of_succ_le_succ de) h.1, ir (Nat.le_of_succ_le_succ de) h.2⟩
 | arb n t it => intro d e de h; cases d with | zero => exact h.elim | succ d => cases e with | zero => exact absurd de (Nat.not_succ_le_zero _) | succ e => exact it (d := d) (e := e) (Nat.le_of_succ_le_succ de) h
theorem sumN_sub {f : Int → Nat} {xs ys : List Int} (h : xs.Sublist ys) : sumN f xs ≤ sumN f ys := by
 induction h with
 | slnil => exact Nat.le_refl _
 | cons a h ih => exact Nat.le_trans ih (Nat.le_add_left _ _)
 | cons_cons a h ih => exact Nat.add_le_add_left ih _
theorem sumN_le {f g : Int → Nat} (h : ∀ e, f e ≤ g e) (xs : List Int) : sumN f xs ≤ sumN g xs := by
 induction xs with
 | nil => exact Nat.le_refl _
 | cons e xs ih => exact Nat.add_le_add (h e) ih
theorem odLf_len (lf : Lf) : (odLf lf).length ≤ 1 := by
 cases lf with
 | chars y =>
  show (if (y == "") = true then [] else [Od.one (.chars y)]).length ≤ 1
  by_cases h : (y == "") = true
  ·rw [if_pos h]; exact Nat.zero_le _
  ·rw [if_neg h]; exact Nat.le_refl _
 | _ => exact Nat.le_refl _
noncomputable def Sg (K : Nat → Nat) : Nat → Nat
 | 0 => K 0
 | r + 1 => K (r + 1) + Sg K r
noncomputable def tbl (F : (Nat → Nat) → Nat → Nat) (K : Nat → Nat) : Nat → Nat → Nat
 | 0, _ => 0
 | q + 1, j => if j = q then 3 + (K q + F (fun i => 2 + tbl F K q i) q) else tbl F K q j
noncomputable def Vb : Nat → (Nat → Nat) → Nat → Nat
 | 0, K, r => 2 + Sg (fun j => 2 + K j) r
 | d + 1, K, r => (2 + Sg (fun j => 2 + K j) r) + ((2 + Vb d (Vb d fun j => 1 + K j) r) + ((2 + (Vb d (fun j => 2 + K j) r + Vb d (fun j => 1 + K j) r)) + (1 + tbl (Vb d) (fun j => 1 + K j) (r + 1) r)))
noncomputable def Bd (x : Str) (r : Nat) (k : Int → Nat) (K : Nat → Nat) : Prop := ∀ j, j ≤ r → ∀ e : Int, e + j = x.length → k e ≤ K j
theorem Bd.add {x : Str} {r i j : Nat} {k : Int → Nat} {K : Nat → Nat} (h : Bd x r k K) (hij : i ≤ j) : Bd x r (fun e => i + k e) (fun q => j + K q) := fun q hq e he => Nat.add_le_add hij (h q hq e he)
theorem Bd.low {x : Str} {r s : Nat} {k : Int → Nat} {K : Nat → Nat} (h : Bd x r k K) (hs : s ≤ r) : Bd x s k K := fun q hq => h q (Nat.le_trans hq hs)
theorem sum_arb {x : Str} {k : Int → Nat} {K : Nat → Nat} {r : Nat} : ∀ {a : Int}, a + r = x.length → Bd x r k K → sumN k (pEnds x a .arb) ≤ Sg K r := by
 induction r with
 | zero => intro a ha h; rw [ends_arb (by lia), ends_arb0 (by lia)]; exact h 0 (Nat.le_refl _) a ha
 | succ r ih => intro a ha h; rw [ends_arb (by lia)]; exact Nat.add_le_add (h _ (Nat.le_refl _) a ha) (ih (by lia) (h.low (Nat.le_succ _)))
structure Cst (x : Str) (i : Nat) (C : Tr → (Int → Nat) → Int → Nat) (R : ((Int → Nat) → Int → Nat) → (Int → Nat) → Nat → Int → Nat) : Prop where
 small : i ≤ 1
 leaf : ∀ n lf k (a : Int), 0 ≤ a → a ≤ x.length → Lk x lf → C (.leaf n lf) k a ≤ 2 + sumN (fun e => 2 + k e) (pEnds x a .arb)
 cat : ∀ n l r k a, C (.cat n l r) k a ≤ 2 + C l (C r fun e => 1 + k e) a
 alt : ∀ n l r k a, C (.alt n l r) k a ≤ 2 + (C l (fun e => i + (1 + k e)) a + C r (fun e => 1 + k e) a)
 arb : ∀ n t k a, C (.arb n t) k a ≤ 1 + R (C t) (fun e => 1 + k e) 3 a
 zero : ∀ F k a, R F k 0 a = 0
 succ : ∀ F k m a, R F k (m + 1) a ≤ 3 + (k a + F (fun e => 1 + (if e = a then 0 else i + R F k m e)) a)
section
variable {x : Str} {i : Nat} {C : Tr → (Int → Nat) → Int → Nat} {R : ((Int → Nat) → Int → Nat) → (Int → Nat) → Nat → Int → Nat}
theorem Cst.rnd (S : Cst x i C R) {F : (Int → Nat) → Int → Nat} {V : (Nat → Nat) → Nat → Nat} (hF : ∀ (r : Nat) (a : Int) (k : Int → Nat) (K : Nat → Nat), 0 ≤ a → a + r = x.length → Bd x r k K → F k a ≤ V K r) {k : Int → Nat} {K : Nat → Nat} (q : Nat) : Bd x q k K → ∀ j, j ≤ q → ∀ (m : Nat) (a : Int), 0 ≤ a → a + j = x.length → R F k m a ≤ tbl V K (q + 1) j := by
 induction q with
 | zero =>
  intro hk j hj m a h0 ha
  cases Nat.le_zero.mp hj
  cases m with
  | zero => rw [S.zero]; exact Nat.zero_le _
  | succ m =>
   refine Nat.le_trans (S.succ F k m a) (Nat.le_trans ?_ (Nat.le_of_eq (if_pos rfl).symm))
   refine Nat.add_le_add_left (Nat.add_le_add (hk 0 (Nat.le_refl _) a ha) (hF 0 a _ _ h0 ha fun p hp e he => ?_)) 3
   cases Nat.le_zero.mp hp
   rw [if_pos (by lia : e = a)]
   exact Nat.le_trans (by decide : 1 + 0 ≤ 2) (Nat.le_add_right 2 _)
 | succ q ih =>
  intro hk j hj m a h0 ha
  by_cases c : j = q + 1
  ·subst c
   cases m with
   | zero => rw [S.zero]; exact Nat.zero_le _
   | succ m =>
    refine Nat.le_trans (S.succ F k m a) (Nat.le_trans ?_ (Nat.le_of_eq (if_pos rfl).symm))
    refine Nat.add_le_add_left (Nat.add_le_add (hk _ (Nat.le_refl _) a ha) (hF _ a _ _ h0 ha fun p hp e he => ?_)) 3
    by_cases d : e = a
    ·rw [if_pos d]; exact Nat.le_trans (by decide : 1 + 0 ≤ 2) (Nat.le_add_right 2 _)
    ·rw [if_neg d]
     have g := ih (hk.low (Nat.le_succ _)) p (by lia) m e (by lia) he
     have s := S.small
     lia
  ·exact Nat.le_trans (ih (hk.low (Nat.le_succ _)) j (by lia) m a h0 ha) (Nat.le_of_eq (if_neg c).symm)
theorem Cst.bd (S : Cst x i C R) (d : Nat) : ∀ {T : Tr}, inDeep d T → T.all (Lk x) → ∀ (r : Nat) (a : Int) (k : Int → Nat) (K : Nat → Nat), 0 ≤ a → a + r = x.length → Bd x r k K → C T k a ≤ Vb d K r := by
 have lf : ∀ {n lf}, Lk x lf → ∀ (r : Nat) (a : Int) (k : Int → Nat) (K : Nat → Nat), 0 ≤ a → a + r = x.length → Bd x r k K → C (.leaf n lf) k a ≤ 2 + Sg (fun j => 2 + K j) r := fun h r a k K h0 ha hk =>
  Nat.le_trans (S.leaf _ _ k a h0 (by lia) h) (Nat.add_le_add_left (sum_arb ha (hk.add (Nat.le_refl 2))) 2)
 induction d with
 | zero =>
  intro T hd hl r a k K h0 ha hk
  cases T with
  | leaf n l => exact lf hl r a k K h0 ha hk
  | _ => exact hd.elim
 | succ d ih =>
  intro T hd hl r a k K h0 ha hk
  have k1 := hk.add (Nat.le_refl 1)
  cases T with
  | leaf n l => exact Nat.le_trans (lf hl r a k K h0 ha hk) (Nat.le_add_right _ _)
  | cat n l t =>
   refine Nat.le_trans (S.cat n l t k a) (Nat.le_trans (Nat.add_le_add_left (ih hd.1 hl.1 r a _ (Vb d fun j => 1 + K j) h0 ha fun j hj e he => ?_) 2) (Nat.le_trans (Nat.le_add_right _ _) (Nat.le_add_left _ _)))
   exact ih hd.2 hl.2 j e _ _ (by lia) he (k1.low hj)
  | alt n l t =>
   have k2 : Bd x r (fun e => i + (1 + k e)) fun j => 2 + K j := fun j hj e he => by have := hk j hj e he; have := S.small; lia
   exact Nat.le_trans (S.alt n l t k a) (Nat.le_trans (Nat.add_le_add_left (Nat.add_le_add (ih hd.1 hl.1 r a _ _ h0 ha k2) (ih hd.2 hl.2 r a _ _ h0 ha k1)) 2) (Nat.le_trans (Nat.le_add_right _ _) (Nat.le_trans (Nat.le_add_left _ _) (Nat.le_add_left _ _))))
  | arb n t =>
   refine Nat.le_trans (S.arb n t k a) (Nat.le_trans (Nat.add_le_add_left (S.rnd (F := C t) (V := Vb d) (fun r a k K h0 ha hk => ih (T := t) hd hl r a k K h0 ha hk) r k1 r (Nat.le_refl _) 3 a h0 ha) 1) (Nat.le_trans (Nat.le_add_left _ _) (Nat.le_trans (Nat.le_add_left _ _) (Nat.le_add_left _ _))))
end
theorem cstT (x : Str) : Cst x 0 (CT x) rndC where
 small := Nat.zero_le _
 leaf n lf k a h0 h1 h := by
  have s := sumN_sub (f := fun e => 2 + k e) (h.sub a h0 h1)
  have t := sumN_le (f := fun e => 1 + k e) (g := fun e => 2 + k e) (fun e => Nat.add_le_add_right (by decide) _) (pEnds x a lf)
  show 1 + lfC x (fun e => 1 + k e) a lf ≤ _
  have e : sumN (fun e => 1 + (1 + k e)) (pEnds x a .arb) = sumN (fun e => 2 + k e) (pEnds x a .arb) := congrArg (fun f => sumN f (pEnds x a .arb)) (funext fun e => (Nat.add_assoc 1 1 (k e)).symm)
  cases lf with
  | arb => exact Nat.le_trans (Nat.add_le_add_left (Nat.le_of_eq e) 1) (Nat.add_le_add_right (by decide) _)
  | _ => exact Nat.le_trans (Nat.le_of_eq (Nat.add_assoc 1 1 _).symm) (Nat.add_le_add_left (Nat.le_trans t s) 2)
 cat n l r k a := Nat.le_refl _
 alt n l r k a := Nat.le_of_eq (congrArg (fun f => 2 + (CT x l f a + CT x r (fun e => 1 + k e) a)) (funext fun e => (Nat.zero_add _).symm))
 arb n t k a := Nat.le_refl _
 zero _ _ _ := rfl
 succ F k m a := Nat.add_le_add (by decide) (Nat.le_of_eq (congrArg (fun f => k a + F f a) (funext fun e => congrArg (1 + ·) (by by_cases c : e = a <;> simp only [c, if_true, if_false, Nat.zero_add]))))
theorem cstM (x : Str) : Cst x 1 (CM x) rndM where
 small := Nat.le_refl _
 leaf n lf k a h0 h1 h := by
  have s := sumN_sub (f := fun e => 2 + k e) (h.sub a h0 h1)
  have t := sumN_le (f := fun e => 1 + k e) (g := fun e => 2 + k e) (fun e => Nat.add_le_add_right (by decide) _) (pEnds x a lf)
  exact Nat.add_le_add (Nat.le_trans (odLf_len lf) (by decide)) (Nat.le_trans t s)
 cat n l r k a := Nat.le_add_left _ _
 alt n l r k a := Nat.add_le_add_right (by decide) _
 arb n t k a := Nat.le_add_left _ _
 zero _ _ _ := rfl
 succ F k m a := Nat.le_refl _
theorem vb_small : ((List.range 3).all fun r => decide (Vb 2 (fun _ => 1) r ≤ 20000) && decide (tbl (Vb 1) (fun _ => 1) (r + 1) r ≤ 20000)) = true := by decide +kernel
theorem vb_at {r : Nat} (h : r ≤ 2) : Vb 2 (fun _ => 1) r ≤ 20000 ∧ tbl (Vb 1) (fun _ => 1) (r + 1) r ≤ 20000 := by
 obtain ⟨p, q⟩ := (Bool.and_eq_true _ _).mp (List.all_eq_true.mp vb_small r (List.mem_range.mpr (Nat.lt_succ_of_le h)))
 exact ⟨of_decide_eq_true p, of_decide_eq_true q⟩
theorem Cst.le {x : Str} {i : Nat} {C : Tr → (Int → Nat) → Int → Nat} {R : ((Int → Nat) → Int → Nat) → (Int → Nat) → Nat → Int → Nat} (S : Cst x i C R) (hx : x.length ≤ 2) {T : Tr} (hd : inDeep 2 T) (hl : T.all (Lk x)) {a : Int} (h0 : 0 ≤ a) (h1 : a ≤ x.length) : C T (fun _ => 1) a ≤ 20000 := by
 obtain ⟨r, hr⟩ := Int.le.dest h1
 exact Nat.le_trans (S.bd 2 hd hl r a _ (fun _ => 1) h0 hr fun _ _ _ _ => Nat.le_refl _) (vb_at (by lia)).1
theorem rnd_le {x : Str} (hx : x.length ≤ 2) {T : Tr} (hd : inDeep 1 T) (hl : T.all (Lk x)) (m : Nat) {a : Int} (h0 : 0 ≤ a) (h1 : a ≤ x.length) : rndC (CT x T) (fun _ => 1) m a ≤ 20000 := by
 obtain ⟨r, hr⟩ := Int.le.dest h1
 exact Nat.le_trans ((cstT x).rnd (F := CT x T) (V := Vb 1) (fun r a k K h0 ha hk => (cstT x).bd 1 hd hl r a k K h0 ha hk) (K := fun _ => 1) r (fun _ _ _ _ => Nat.le_refl _) r (Nat.le_refl _) m a h0 hr) (vb_at (by lia)).2
end
section
theorem range_mem {x : Str} {a e : Int} (h1 : a ≤ x.length) (h : e ∈ pEnds x a .arb) : a ≤ e ∧ e ≤ x.length := by
 simp only [pEnds, List.mem_map, List.mem_range] at h
 refine cutP fun G1 up1 => ?_
 obtain ⟨i, hi, rfl⟩ := h
 refine up1 ?_
 lia
theorem Lk.okl {x : Str} {lf : Lf} (h : Lk x lf) : Okl x lf := ⟨h.fits, fun a h0 h1 e he => range_mem h1 ((h.sub a h0 h1).subset he)⟩
theorem Lk.okm {x : Str} {lf : Lf} (h : Lk x lf) : Okm x lf := fun hn a h0 h1 => h.nil hn a h0 h1
theorem Lk.oke {x : Str} {lf : Lf} (h : Lk x lf) : Oke x lf := ⟨h.fits, fun a h0 h1 e he => by rw [h.eq a h0 h1] at he; exact range_mem h1 ((h.sub a h0 h1).subset he)⟩
theorem Tr.all_mono {P R : Lf → Prop} (h : ∀ lf, P lf → R lf) {T : Tr} : T.all P → T.all R := by
 induction T with
 | leaf n lf => exact h lf
 | cat n l r il ir => exact fun p => ⟨il p.1, ir p.2⟩
 | alt n l r il ir => exact fun p => ⟨il p.1, ir p.2⟩
 | arb n t it => exact it
noncomputable def subK (k : Int → List Evt) (rows : List Evt) : List Evt := rows.flatMap fun r => if r.1 = eS then k r.2 else [r]
theorem sub_app (k : Int → List Evt) (xs ys : List Evt) : subK k (xs ++ ys) = subK k xs ++ subK k ys := by simp [subK]
theorem sub_done {n : Str} (hn : n ≠ eS) (k : Int → List Evt) : ∀ rows, subK k (doneR n rows) = subK (fun e => (n, e) :: k e) rows
 | [] => rfl
 | r :: rows => by
  rw [show doneR n (r :: rows) = (if r.1 = eS then [(n, r.2), r] else [r]) ++ doneR n rows from rfl, sub_app, sub_done hn k rows]
  by_cases h : r.1 = eS
  ·simp [subK, h, hn]
  ·simp [subK, h]
theorem sub_congr {k k' : Int → List Evt} : ∀ {rows : List Evt}, (∀ e, (eS, e) ∈ rows → k e = k' e) → subK k rows = subK k' rows
 | [], _ => rfl
 | r :: rows, h => by
  have ih := sub_congr (rows := rows) fun e he => h e (.tail _ he)
  unfold subK at ih ⊢
  rw [List.flatMap_cons, List.flatMap_cons, ih]
  by_cases hr : r.1 = eS
  ·rw [if_pos hr, if_pos hr, h r.2 (by rw [← hr]; exact .head _)]
  ·rw [if_neg hr, if_neg hr]
theorem sub_flat (k : Int → List Evt) (G : Int → List Evt) : ∀ rows, subK k (rows.flatMap fun row => if row.1 = eS then G row.2 else [row]) = subK (fun e => subK k (G e)) rows
 | [] => rfl
 | r :: rows => by
  rw [List.flatMap_cons, sub_app, sub_flat k G rows]
  by_cases h : r.1 = eS
  ·simp [subK, h]
  ·simp [subK, h]
theorem sub_ends (k : Int → List Evt) : ∀ is : List Int, subK k (is.map fun e => (eS, e)) = is.flatMap k
 | [] => rfl
 | e :: is => by
  rw [List.map_cons, show (eS, e) :: is.map (fun e => (eS, e)) = [(eS, e)] ++ is.map (fun e => (eS, e)) from rfl, sub_app, sub_ends k is]
  simp [subK]
theorem rnd_law {x : Str} {F : Int → List Evt} {G : (Int → List Evt) → Int → List Evt} (hr : ∀ a : Int, 0 ≤ a → a ≤ x.length → ∀ e, (eS, e) ∈ F a → a ≤ e ∧ e ≤ x.length) (h : ∀ (k : Int → List Evt) (a : Int), 0 ≤ a → a ≤ x.length → subK k (F a) = G k a) (k : Int → List Evt) :
  ∀ (m : Nat) (a : Int), 0 ≤ a → a ≤ x.length → subK k (rndT F m a) = rndE G k m a
 | 0, a, h0, h1 => rfl
 | m + 1, a, h0, h1 => by
  have e1 : rndT F (m + 1) a = [(eS, a)] ++ (F a).flatMap fun r => if r.1 = eS then (if a < r.2 then rndT F m r.2 else []) else [r] := rfl
  have e3 := sub_flat k (fun e => if a < e then rndT F m e else []) (F a)
  try dsimp only at e3
  rw [e1, sub_app, e3]
  have e2 : subK k [(eS, a)] = k a := by simp [subK]
  rw [e2]
  simp only [rndE.k2]
  congr 1
  rw [← h _ a h0 h1]
  refine sub_congr fun e he => ?_
  have := hr a h0 h1 e he
  by_cases hea : e = a
  ·subst hea
   simp [subK]
  ·rw [if_pos (show a < e by lia), if_neg hea]
   exact rnd_law hr h k m e (by lia) (by lia)
theorem plain {x : Str} : ∀ (T : Tr), okN T → T.all (Lk x) → ∀ (k : Int → List Evt) (a : Int), 0 ≤ a → a ≤ x.length → subK k (TD x T a) = ET x T k a
 | .leaf n lf, hn, hl, k, a, h0, h1 => by
  simp only [TD.k1, TD.k2, TD.k3, TD.k4, ET.k1, ET.k2, ET.k3, ET.k4]
  rw [sub_done hn, sub_ends, hl.eq a h0 h1]
 | .cat n l r, hn, hl, k, a, h0, h1 => by
  simp only [TD.k1, TD.k2, TD.k3, TD.k4, ET.k1, ET.k2, ET.k3, ET.k4]
  rw [sub_done hn.1, sub_flat, ← plain l hn.2.1 hl.1 _ a h0 h1]
  refine sub_congr fun e he => ?_
  have := TD_rng l hn.2.1 (Tr.all_mono (fun _ => Lk.oke) hl.1) a h0 h1 e he
  exact plain r hn.2.2 hl.2 _ e (by lia) (by lia)
 | .alt n l r, hn, hl, k, a, h0, h1 => by
  simp only [TD.k1, TD.k2, TD.k3, TD.k4, ET.k1, ET.k2, ET.k3, ET.k4]
  rw [sub_done hn.1, sub_app, plain l hn.2.1 hl.1 _ a h0 h1, plain r hn.2.2 hl.2 _ a h0 h1]
 | .arb n t, hn, hl, k, a, h0, h1 => by
  simp only [TD.k1, TD.k2, TD.k3, TD.k4, ET.k1, ET.k2, ET.k3, ET.k4]
  rw [sub_done hn.1]
  exact rnd_law (TD_rng t hn.2 (Tr.all_mono (fun _ => Lk.oke) (T := t) hl)) (fun k a h0 h1 => plain t hn.2 hl k a h0 h1) _ 3 a h0 h1
theorem due_law {x : Str} {T : Tr} (hn : okN T) (hl : T.all (Lk x)) : ∀ n : Nat, n ≤ x.length + 1 → DU x T n = EA x T n
 | 0, _ => rfl
 | n + 1, h => by
  simp only [DU.k2, EA.k2]
  rw [due_law hn hl n (by lia), ← flat_filter]
  congr 1
  exact plain T hn hl (fun _ => []) n (by lia) (by lia)
theorem flat_len {f : Int → List Evt} {g : Int → Nat} (h : ∀ e, (f e).length ≤ g e) : ∀ xs : List Int, (xs.flatMap f).length ≤ sumN g xs
 | [] => Nat.le_refl _
 | e :: xs => by
  have := flat_len h xs
  have := h e
  rw [List.flatMap_cons, List.length_append]; simp only [sumN.k2]; lia
theorem lfC_ge (x : Str) (k : Int → Nat) (a : Int) (lf : Lf) : sumN k (pEnds x a lf) ≤ lfC x k a lf := by
 have hk : ∀ xs : List Int, sumN k xs ≤ sumN (fun e => 1 + k e) xs := fun xs => by
  induction xs with
  | nil => exact Nat.le_refl _
  | cons e xs ih => simp only [sumN.k2]; lia
 cases lf with
 | arb => exact hk _
 | _ => exact Nat.le_add_left _ _
theorem rnd_len {F : (Int → List Evt) → Int → List Evt} {C : (Int → Nat) → Int → Nat} (h : ∀ (k : Int → List Evt) (kc : Int → Nat) (a : Int), (∀ e, (k e).length ≤ kc e) → (F k a).length ≤ C kc a) {k : Int → List Evt} {kc : Int → Nat} (hk : ∀ e, (k e).length ≤ kc e) :
  ∀ (m : Nat) (a : Int), (rndE F k m a).length ≤ rndC C kc m a
 | 0, a => Nat.le_refl _
 | m + 1, a => by
  simp only [rndE.k2, rndC.k2, List.length_append]
  have h1 := hk a
  have h2 := h (fun e => if e = a then [] else rndE F k m e) (fun e => 1 + (if e = a then 0 else rndC C kc m e)) a fun e => by
   try dsimp only
   by_cases q : e = a
   ·rw [if_pos q]; exact Nat.zero_le _
   ·rw [if_neg q, if_neg q]
    have := rnd_len h hk m e
    lia
  lia
theorem ET_len {x : Str} : ∀ (T : Tr) (k : Int → List Evt) (kc : Int → Nat) (a : Int), (∀ e, (k e).length ≤ kc e) → (ET x T k a).length ≤ CT x T kc a
 | .leaf n lf, k, kc, a, h => by
  simp only [ET.k1, ET.k2, ET.k3, ET.k4, CT.k1, CT.k2, CT.k3, CT.k4]
  have h1 := flat_len (f := fun e => (n, e) :: k e) (g := fun e => 1 + kc e) (fun e => by have := h e; simp only [List.length_cons]; lia) (pEnds x a lf)
  have h2 := lfC_ge x (fun e => 1 + kc e) a lf
  lia
 | .cat n l r, k, kc, a, h => by
  simp only [ET.k1, ET.k2, ET.k3, ET.k4, CT.k1, CT.k2, CT.k3, CT.k4]
  have := ET_len (x := x) l (ET x r fun e => (n, e) :: k e) (CT x r fun e => 1 + kc e) a fun e => ET_len (x := x) r _ _ e fun e => by have := h e; simp only [List.length_cons]; lia
  lia
 | .alt n l r, k, kc, a, h => by
  simp only [ET.k3, CT.k3, List.length_append]
  have h1 := ET_len (x := x) l (fun e => (n, e) :: k e) (fun e => 1 + kc e) a fun e => by have := h e; simp only [List.length_cons]; lia
  have h2 := ET_len (x := x) r (fun e => (n, e) :: k e) (fun e => 1 + kc e) a fun e => by have := h e; simp only [List.length_cons]; lia
  lia
 | .arb n t, k, kc, a, h => by
  simp only [ET.k1, ET.k2, ET.k3, ET.k4, CT.k1, CT.k2, CT.k3, CT.k4]
  have := rnd_len (F := ET x t) (C := CT x t) (fun k kc a h => ET_len t k kc a h) (k := fun e => (n, e) :: k e) (kc := fun e => 1 + kc e) (fun e => by have := h e; simp only [List.length_cons]; lia) 3 a
  lia
theorem sub_id : ∀ rows : List Evt, subK (fun e => [(eS, e)]) rows = rows
 | [] => rfl
 | r :: rows => by
  rw [show r :: rows = [r] ++ rows from rfl, sub_app, sub_id rows]
  congr 1
  by_cases h : r.1 = eS
  ·simp [subK, h]; rw [← h]
  ·simp [subK, h]
theorem TD_len {x : Str} {T : Tr} (hx : x.length ≤ 2) (hd : inDeep 2 T) (hn : okN T) (hl : T.all (Lk x)) : ∀ a : Int, 0 ≤ a → a ≤ x.length → (TD x T a).length ≤ 100000 := fun a h0 h1 => by
 have h := ET_len (x := x) T (fun e => [(eS, e)]) (fun _ => 1) a fun e => Nat.le_refl _
 rw [← plain T hn hl _ a h0 h1, sub_id] at h
 exact Nat.le_trans h (Nat.le_trans ((cstT x).le hx hd hl h0 h1) (by decide))
theorem RT_len {x : Str} {T : Tr} (hx : x.length ≤ 2) (hd : inDeep 1 T) (hn : okN T) (hl : T.all (Lk x)) : ∀ (m : Nat) (a : Int), 0 ≤ a → a ≤ x.length → (rndT (TD x T) m a).length ≤ 100000 := fun m a h0 h1 => by
 have h := rnd_len (F := ET x T) (C := CT x T) (fun k kc a h => ET_len T k kc a h) (k := fun e => [(eS, e)]) (kc := fun e => 1 + (fun _ => 0) e) (fun e => Nat.le_refl _) m a
 rw [← rnd_law (TD_rng T hn (Tr.all_mono (fun _ => Lk.oke) hl)) (fun k a h0 h1 => plain T hn hl k a h0 h1) _ m a h0 h1, sub_id] at h
 exact Nat.le_trans h (Nat.le_trans (rnd_le hx hd hl m h0 h1) (by decide))
theorem sz_of {x : Str} (hx : x.length ≤ 2) {T : Tr} : ∀ {d : Nat}, d ≤ 2 → inDeep d T → okN T → T.all (Lk x) → SzT x T := by
 induction T with
 | leaf n lf => intro d h2 hd hn hl; exact TD_len hx (deep_le h2 hd) hn hl
 | cat n l r il ir => intro d h2 hd hn hl; cases d with | zero => exact hd.elim | succ d => exact ⟨TD_len hx (deep_le h2 hd) hn hl, il (Nat.le_of_succ_le h2) hd.1 hn.2.1 hl.1, ir (Nat.le_of_succ_le h2) hd.2 hn.2.2 hl.2⟩
 | alt n l r il ir => intro d h2 hd hn hl; cases d with | zero => exact hd.elim | succ d => exact ⟨TD_len hx (deep_le h2 hd) hn hl, il (Nat.le_of_succ_le h2) hd.1 hn.2.1 hl.1, ir (Nat.le_of_succ_le h2) hd.2 hn.2.2 hl.2⟩
 | arb n t it => intro d h2 hd hn hl; cases d with | zero => exact hd.elim | succ d => exact ⟨TD_len hx (deep_le h2 hd) hn hl, RT_len hx (deep_le (T := t) (Nat.le_of_succ_le_succ h2) hd) hn.2 hl, it (d := d) (Nat.le_of_succ_le h2) hd hn.2 hl⟩
noncomputable def bb : Nat → Nat
 | 0 => 8
 | d + 1 => bb d + bb d + 8
theorem smallM {M : Tr → Nat} (hl : ∀ n lf, M (.leaf n lf) ≤ 8) (hc : ∀ n l r, M (.cat n l r) ≤ M l + M r + 8) (ha : ∀ n l r, M (.alt n l r) ≤ M l + M r + 8) (hr : ∀ n t, M (.arb n t) ≤ M t + 8) {T : Tr} (hd : inDeep 2 T) : M T ≤ 56 := by
 have h : ∀ d : Nat, ∀ T : Tr, inDeep d T → M T ≤ bb d := fun d => by
  induction d with
  | zero =>
   intro T h
   cases T with
   | leaf n lf => exact hl n lf
   | _ => exact h.elim
  | succ d ih =>
   intro T h
   cases T with
   | leaf n lf => exact Nat.le_trans (hl n lf) (Nat.le_add_left 8 _)
   | cat n l r => exact Nat.le_trans (hc n l r) (Nat.add_le_add_right (Nat.add_le_add (ih l h.1) (ih r h.2)) 8)
   | alt n l r => exact Nat.le_trans (ha n l r) (Nat.add_le_add_right (Nat.add_le_add (ih l h.1) (ih r h.2)) 8)
   | arb n t => exact Nat.le_trans (hr n t) (Nat.add_le_add_right (Nat.le_trans (ih t h) (Nat.le_add_left _ _)) 8)
 exact h 2 T hd
theorem costs {A C : Nat → Nat} {c m : Nat} (h0 : A 0 = 0) (h : ∀ n, n < m → A (n + 1) = A n + C n) (hC : ∀ n, n < m → C n ≤ c) : ∀ n, n ≤ m → A n ≤ c * n := fun n => by
 induction n with
 | zero => intro _; exact Nat.le_of_eq h0
 | succ n ih => intro hn; rw [h n hn]; exact Nat.add_le_add (ih (Nat.le_of_succ_le hn)) (hC n hn)
theorem fine {x : Str} (hxs : x ∈ subjects) {T : Tr} (hd : inDeep 2 T) (hn : okN T) : Fine x T := by
 have hx := sub_len hxs
 have hl : T.all (Lk x) := all_of (fun lf h => lk_of hxs h) hd
 have s1 : T.sz ≤ 56 := smallM (M := Tr.sz) (fun _ _ => (by decide : 3 ≤ 8)) (fun _ _ _ => Nat.add_le_add_left (by decide) _) (fun _ _ _ => Nat.add_le_add_left (by decide) _) (fun _ _ => Nat.add_le_add_left (by decide) _) hd
 have s2 : SJ.wz T ≤ 56 := smallM (M := SJ.wz) (fun _ _ => (by decide : 2 ≤ 8)) (fun _ _ _ => Nat.add_le_add_left (by decide) _) (fun _ _ _ => Nat.add_le_add_left (by decide) _) (fun _ _ => Nat.add_le_add_left (by decide) _) hd
 have s3 : lenT T ≤ 56 := smallM (M := lenT) (fun _ lf => Nat.le_trans (Nat.add_le_add_right (odLf_len lf) 1) (by decide)) (fun _ _ _ => Nat.add_le_add_left (by decide) _) (fun _ _ _ => Nat.add_le_add_left (by decide) _) (fun _ _ => Nat.add_le_add_left (by decide) _) hd
 have s4 : rmT T ≤ 56 := smallM (M := rmT) (fun _ _ => (by decide : 4 ≤ 8)) (fun _ _ _ => Nat.add_le_add_left (by decide) _) (fun _ _ _ => Nat.add_le_add_left (by decide) _) (fun _ _ => Nat.add_le_add_left (by decide) _) hd
 have a1 := costs (A := CA x T) (c := 20001) rfl (fun _ _ => rfl) (fun n hn => Nat.le_trans (Nat.add_le_add_left ((cstT x).le hx hd hl (Int.natCast_nonneg n) (Int.ofNat_le.mpr (Nat.le_of_lt_succ hn))) 1) (by decide)) (x.length + 1) (Nat.le_refl _)
 have a2 := costs (A := CAM x T) (c := 20000) rfl (fun _ _ => rfl) (fun n hn => (cstM x).le hx hd hl (Int.natCast_nonneg n) (Int.ofNat_le.mpr (Nat.le_of_lt_succ hn))) (x.length + 1) (Nat.le_refl _)
 have hdue := due_law hn hl (x.length + 1) (Nat.le_refl _)
 have c3 : ∀ n : Nat, (EA x T n).length ≤ CA x T n := fun n => by
  induction n with
  | zero => exact Nat.le_refl _
  | succ n ih =>
   rw [show EA x T (n + 1) = EA x T n ++ EW x T n from rfl, List.length_append]
   exact Nat.add_le_add ih (Nat.le_trans (ET_len (x := x) T (fun _ => []) (fun _ => 1) n fun e => Nat.zero_le _) (Nat.le_add_left _ 1))
 have a3 : CA x T (x.length + 1) ≤ 99999 := Nat.le_trans a1 (Nat.le_trans (Nat.mul_le_mul_left 20001 (Nat.succ_le_succ hx)) (by decide))
 have a4 : CAM x T (x.length + 1) ≤ 99999 := Nat.le_trans a2 (Nat.le_trans (Nat.mul_le_mul_left 20000 (Nat.succ_le_succ hx)) (by decide))
 exact ⟨Tr.all_mono (fun _ => Lk.okl) hl, Tr.all_mono (fun _ => Lk.okm) hl, Tr.all_mono (fun _ => Lk.oke) hl, sz_of hx (Nat.le_refl 2) hd hn hl, a3, a4, Nat.le_trans s1 (by decide), Nat.le_trans s2 (by decide), Nat.le_trans s3 (by decide), Nat.le_trans s4 (by decide), hdue, hdue ▸ Nat.le_trans (c3 _) (Nat.le_trans a3 (by decide))⟩
end
section
noncomputable def isLst (o : Obj) : Bool := match o.cls, o.data with | .type n, .seq _ _ => n == "list" | _, _ => false
theorem no_lst (P : Params) : ((List.range 707).all fun a => match (H1 P).get? a with | some o => !isLst o | none => true) = true := by kernel_rfl
theorem h1_sz (P : Params) : (H1 P).objs.size = 707 := absHeap_size _ _ _
theorem no_list {P : Params} {a : Addr} {o : Obj} (h : (H1 P).get? a = some o) : isLst o = false := by
 have h1 := List.all_eq_true.mp (no_lst P) a (List.mem_range.mpr (h1_sz P ▸ Heap.lt_size h))
 rw [h] at h1
 simpa using h1
theorem rm_caller : Rm callerA 80 := by unfold Rm; decide
theorem not_int {d : WData} (h : WShape.has [] d .int = true) : ∃ i, d = .int i := by
 cases d <;> first | exact ⟨_, rfl⟩ | exact absurd (show false = true from h) Bool.false_ne_true
theorem a_list {d : WData} (h : WShape.has [] d (.list .int) = true) : ∃ xs, d = .list xs ∧ WShape.hasItems [] xs .int = true := by
 cases d with
 | list xs => exact ⟨xs, rfl, ((Bool.or_eq_true _ _).mp (show (WShape.hasItems [] xs .int || false) = true from h)).resolve_right Bool.false_ne_true⟩
 | _ => exact absurd (show false = true from h) Bool.false_ne_true
theorem well_ints {P : Params} {h : Heap} {xs : List WData} : ∀ {vs : List Value}, WellAll P h vs xs → WShape.hasItems [] xs .int = true → AllInt vs ∧ vs.length = xs.length := by
 induction xs with
 | nil => intro vs W _; cases W; exact ⟨fun _ hv => absurd hv List.not_mem_nil, rfl⟩
 | cons d xs ih =>
  intro vs W hi
  cases W with
  | cons a b =>
   have hi := Bool.and_eq_true_iff.mp (show (WShape.has [] d .int && WShape.hasItems [] xs .int) = true from hi)
   obtain ⟨i1, i2⟩ := ih b hi.2
   obtain ⟨i, rfl⟩ := not_int hi.1
   cases a
   exact ⟨fun v hv => (List.mem_cons.mp hv).elim (fun e => e ▸ ⟨_, _, rfl⟩) (i1 v), congrArg (· + 1) i2⟩
theorem short {xs : List WData} (h : (OpenLaw.pre PySem.Challenge.rw_sj0202_01).holds [] { args := [.list xs] } = true) : xs.length ≤ 63 := by
 by_cases c : (63 : Int) < (xs.length : Int)
 ·have c2 : W.less? (WData.int 63) (WData.int xs.length) = some true := (show W.less? (WData.int 63) (WData.int xs.length) = some (decide ((63 : Int) < (xs.length : Int))) by first | rfl | kernel_rfl).trans (congrArg some (decide_eq_true c))
  have h : (match (match (match (W.less? (WData.int 63) (WData.int xs.length)).map WData.bool with | some (.bool b) => some (WData.bool (!b)) | _ => none) with | some (WData.bool false) => some (WData.bool false) | some (WData.bool true) => some (WData.bool true) | _ => none) with | some (.bool true) => true | _ => false) = true := h
  rw [c2] at h
  exact absurd (show false = true from h) Bool.false_ne_true
 ·exact Int.ofNat_le.mp (Int.not_lt.mp c)
theorem rets {xs : List WData} : (WShape.has [] (.bool true) .bool && WTm.holds [] (.eq .res (.lit (.bool true))) { args := [WData.list xs], res := some (.bool true), after := [WData.list xs] }) = true := by kernel_rfl
noncomputable def B0 (P : Params) (sl : Addr) (xs : List Value) : Bm := fun a => match (H1 P).get? a with
 | some o => some (.obj o)
 | none => if a = sl then some (.lst xs) else none
theorem B0_in {P : Params} {sl : Addr} {xs : List Value} {a : Addr} {o : Obj} (e : (H1 P).get? a = some o) : B0 P sl xs a = some (.obj o) := by unfold B0; rw [e]
theorem B0_sl {P : Params} {sl : Addr} {xs : List Value} (e : (H1 P).get? sl = none) : B0 P sl xs sl = some (.lst xs) := by unfold B0; rw [e]; exact if_pos rfl
theorem B0_is {P : Params} {sl : Addr} {xs : List Value} {a : Addr} {o : Slot} (h : B0 P sl xs a = some o) : (∃ o', (H1 P).get? a = some o' ∧ o = .obj o') ∨ a = sl ∧ o = .lst xs := by
 unfold B0 at h
 cases e : (H1 P).get? a with
 | some o' => rw [e] at h; exact .inl ⟨o', rfl, (Option.some.inj h).symm⟩
 | none =>
  rw [e] at h
  by_cases c : a = sl
  ·exact .inr ⟨c, (Option.some.inj ((if_pos c).symm.trans h)).symm⟩
  ·exact absurd ((if_neg c).symm.trans h) nofun
theorem h1_blt (P : Params) : ((H1 P).get? builtinsNs).isSome = true := by kernel_rfl
theorem walk : WalkO qq loose (fun _ _ => True) YP rr.toRowW lawD [] fun f vs => PySem.call f vs := by
 intro w s₀ s₁ mg mb G Y a o pm cd doc dV kV _ _ _ _ hm hg args vals as hpre hlay hrd hwell _
 have hgl : mg "law" = some (.ref 706) := by
  obtain ⟨o', es, ep, e1, e2, e3, e4⟩ := G.T.g
  have e0 : s₁.heap.get? mainGlobals = some (o3_14 w.params) := Y _ _ (h1_3 w.params)
  have e5 := Option.some.inj (e0.symm.trans e1)
  subst e5
  have e6 : es = gEs w.params := by unfold gEs entsOf; rw [e2]
  rw [← e4, e6]; exact g_law w
 have ha : a = 706 := by
  have : mg "law" = some (.ref a) := hm
  rw [hgl] at this; cases this; rfl
 subst ha
 have hpre' : (WShape.hasAll [] args [.list .int] && (OpenLaw.pre PySem.Challenge.rw_sj0202_01).holds [] { args := args }) = true := hpre
 obtain ⟨p1, p2⟩ := Bool.and_eq_true_iff.mp hpre'
 cases args with
 | nil => exact absurd (show false = true from p1) Bool.false_ne_true
 | cons d rest => cases rest with
  | cons _ _ => exact absurd (((Bool.and_eq_true _ _).mp (show (WShape.has [] d (.list .int) && false) = true from p1)).2) Bool.false_ne_true
  | nil =>
   obtain ⟨xs, rfl, hi⟩ := a_list (((Bool.and_eq_true _ _).mp (show (WShape.has [] d (.list .int) && true) = true from p1)).1)
   cases hwell with
   | cons W Wn =>
    cases Wn
    cases W with
    | list hsl Wx =>
     rename_i sl vs
     obtain ⟨q1, q2⟩ := well_ints Wx hi
     have q3 := short p2
     have hno : (H1 w.params).get? sl = none := Option.eq_none_iff_forall_ne_some.mpr fun o' e =>
      absurd ((congrArg isLst (Option.some.inj ((Y _ _ e).symm.trans hsl))).symm.trans (no_list e)) (fun z => Bool.false_ne_true (show true = false from z).symm)
     have K : KB w (B0 w.params sl vs) := by
      refine ⟨fun a o e => B0_in e, mb, fun h k => ?_, G.T.builtins⟩
      obtain ⟨ob, hob⟩ := Option.isSome_iff_exists.mp (h1_blt w.params)
      obtain ⟨o', es, ep, e1, r⟩ := G.T.b
      exact ⟨o', es, ep, (k builtinsNs (.obj ob) (B0_in hob)).trans (congrArg some (Option.some.inj (e1.symm.trans (Y _ _ hob))).symm), r⟩
     have F : F0 w (B0 w.params sl vs) [] s₁.heap := by
      refine ⟨fun a o e => ?_, fun _ hp => absurd hp List.not_mem_nil, List.nodup_nil⟩
      rcases B0_is e with ⟨o', e1, rfl⟩ | ⟨rfl, rfl⟩
      ·exact Y _ _ e1
      ·exact ⟨_, hsl⟩
     have L := (s_law (B := B0 w.params sl vs) (N := []) (sl := sl) (xs := vs) K rm_caller (B0_sl hno) q1 (Nat.le_trans (Nat.le_of_eq q2) q3) fun x hx T hd hn => fine hx hd hn).run s₁ F
     refine enter_call (codeAny_mono L fun r s' h => ?_)
     refine cutP fun C up => ?_
     obtain ⟨v, B', N', hr, F', X, hv⟩ := h
     subst hr
     subst hv
     exact up ⟨.inl ⟨_, .bool true, [], rfl, fun _ => rfl, .bool true, rets, fun _ => ⟨List.nodup_nil, fun _ hp => absurd hp List.not_mem_nil⟩⟩, .of_keep fun b o e => (X.same b o e (fun _ hp => absurd hp List.not_mem_nil) nofun).1, X.os, .of_eq (X.gens.trans hg)⟩
end
end SJ
set_option maxHeartbeats 4000000 in
theorem PySem.Challenge.cw_sj0202_01_holds : PySem.Challenge.rw_sj0202_01.Holds :=
  SJ.top SJ.walk
