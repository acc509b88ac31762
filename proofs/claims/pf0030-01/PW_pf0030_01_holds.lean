import PyProof.Rows.All
import Wide.All
import OpenK.AllK
import Wide.FinOn
import Lean
import PySem.Challenge.RW_pf0030_01
open PySem PySem.W PySem.Spec PySem.Calls PyProof.Rows
set_option Elab.async false
set_option maxRecDepth 100000
set_option maxHeartbeats 0
set_option linter.unusedVariables false
set_option linter.unusedSimpArgs false

namespace Mine
/-! the states of the top's run, written by a program of mine -/
noncomputable def nthS (l : List Stmt) : Nat → Stmt := @List.rec Stmt (fun _ => Nat → Stmt) (fun _ => .Pass default) (fun a _ ih n => @Nat.rec (fun _ => Stmt) a (fun m _ => ih m) n) l
noncomputable abbrev pE : Program := PySem.Challenge.rw_pf0030_01.row.toRowW.1
noncomputable def tS (i : Nat) : Stmt := nthS PySem.Challenge.pw_pf0030_01.main.body i
noncomputable def mS (i j : Nat) : Stmt := match tS i with | .ClassDef _ _ _ b _ _ _ _ _ _ _ => nthS b j | _ => .Pass default
noncomputable abbrev vN : Value := .none
noncomputable abbrev vI (i : Int) (t : Nat) : Value := .int i t
noncomputable abbrev vS (s : String) (t : Nat) : Value := .str (Str.ofString s) t
noncomputable abbrev vR (a : Nat) : Value := .ref a
noncomputable abbrev vT (s : String) : Value := .type s
noncomputable abbrev vB (s : String) : Value := .builtin s
noncomputable abbrev dS (l : List Value) : Data := .seq l.toArray 0
noncomputable abbrev dF (l : List Value) : Data := .fields l.toArray
noncomputable abbrev oO (c : Value) (d : Data) : Obj := ⟨c, none, d, #[]⟩
noncomputable abbrev dE (P : Params) (k : String) (t : Nat) (v : Value) : DictEntry := ⟨PyData.keyHash P (Str.ofString k), .str (Str.ofString k) t, v⟩
noncomputable abbrev bN (o : Obj) (l r : BT) : BT := .node o l r
noncomputable abbrev bO : BT := .nil
noncomputable abbrev fD (s : Stmt) (qn : String) (g : Addr) (cl : List (Str × Addr)) (dV kV pm cd ct : Value) : FuncData := match s with
  | .FunctionDef name args body _ _ _ scope _ _ _ => { name := name, qualname := Str.ofString qn, params := args, body := .stmts body, scope := scope, globals := g, closure := cl, defaults := dV, kwdefaults := kV, pyModule := pm, code := cd, closureTuple := ct }
  | _ => default
noncomputable section
noncomputable def o0 : Obj := oO (vT "tuple") (dS [])
noncomputable def o1 : Obj := oO vN (dF [])
noncomputable def o2 : Obj := oO (vT "code") (dF [(vS "<module>" 182), (vS "<module>" 183), (vS "/claim/cut.py" 184), (vI 1 0), (vI 0 0), (vI 0 0), (vI 0 0), (vI 0 0), (vR 11), (.bool false), (vI 181 0), (vR 12), vN, vN, vN, vN, (vI 185 0), (vI 1 0), (vS "/claim/cut.py" 186)])
noncomputable def o3 : Obj := ⟨(vT "frame"), none, .plain, List.toArray [(some (vR 13)), (some (vR 3)), (some (vR 3)), none, (some (vS "__main__" 164)), none, (some (vR 0))]⟩
noncomputable def o4 (P : Params) : Obj := oO vN (.dict (List.toArray [dE P "type.__subclasses__.Exception.0" 230 (vI 41 0), dE P "type.__subclasses__.Exception.n" 231 (vI 1 0)]) 2)
noncomputable def o5 (P : Params) : Obj := oO (vT "dict") (.dict (List.toArray [dE P "__name__" 165 (vS "basicplus.printing" 639), dE P "__doc__" 166 vN, dE P "__package__" 167 vN, dE P "__loader__" 168 (vB "__main__.__loader__#opaque"), dE P "__spec__" 169 vN, dE P "__annotations__" 170 (vR 6), dE P "__builtins__" 171 (vR 4), dE P "__file__" 173 (vS "/claim/cut.py" 172), dE P "__cached__" 174 vN, dE P "_wall" 193 (vR 21), dE P "MOST_TEXT" 197 (vI 255 196), dE P "MOST_EXPONENT" 199 (vI 99 198), dE P "BasicError" 233 (vR 41), dE P "error_codes" 240 (vR 51), dE P "number_of_error" 250 (vR 58), dE P "code_of_error" 258 (vR 65), dE P "kind_of" 265 (vR 72), dE P "kind_of_name" 274 (vR 79), dE P "first_value" 281 (vR 86), dE P "figures_of" 290 (vR 93), dE P "rounded_by" 301 (vR 100), dE P "made" 313 (vR 107), dE P "whole_near" 323 (vR 114), dE P "fits" 331 (vR 121), dE P "whole_of" 340 (vR 128), dE P "decimal_of" 348 (vR 135), dE P "text_of" 355 (vR 142), dE P "checked_text" 362 (vR 149), dE P "suited" 372 (vR 156), dE P "truth" 379 (vR 163), dE P "ONE" 384 (vR 164), dE P "MOST_POWER" 386 (vI 9999 385), dE P "d_negated" 393 (vR 171), dE P "alike" 402 (vR 178), dE P "d_add" 414 (vR 185), dE P "d_sub" 423 (vR 192), dE P "d_mul" 432 (vR 199), dE P "with_rest" 441 (vR 206), dE P "d_div" 455 (vR 213), dE P "d_compare" 466 (vR 220), dE P "d_power" 478 (vR 227), dE P "square_or_end" 486 (vR 234), dE P "figures_text" 494 (vR 241), dE P "exponent_text" 502 (vR 248), dE P "size_text" 514 (vR 255), dE P "d_text" 522 (vR 262), dE P "whole_text" 529 (vR 269), dE P "MOST_CHANNEL" 533 (vI 15 532), dE P "MOST_NAME" 535 (vI 30 534), dE P "MOST_SIZE" 537 (vI 255 536), dE P "ROW_END" 539 (vS "\n" 538), dE P "check_name" 545 (vR 274), dE P "open_file" 558 (vR 281), dE P "is_written_elsewhere" 569 (vR 288), dE P "channel_of" 579 (vR 295), dE P "write_text" 589 (vR 302), dE P "write_text_files" 590 (vR 302), dE P "write_row" 599 (vR 309), dE P "field_text" 610 (vR 316), dE P "no_field" 618 (vR 323), dE P "hide_fields" 628 (vR 330), dE P "lay_fields" 638 (vR 337), dE P "ZONE" 642 (vI 14 641), dE P "WIDTH" 644 (vI 72 643), dE P "MOST_COLUMN" 646 (vI 255 645), dE P "Page" 675 (vR 354)]) 66)
noncomputable def o6 : Obj := oO vN (dF [(vI 1 0), (vI 0 0), (vR 20), (vI 7 0), (vI 0 0), (vR 28), (vI 13 0), (vI 0 0), (vR 50), (vI 16 0), (vI 0 0), (vR 57), (vI 24 0), (vI 0 0), (vR 64), (vI 27 0), (vI 0 0), (vR 71), (vI 31 0), (vI 0 0), (vR 78), (vI 38 0), (vI 0 0), (vR 85), (vI 42 0), (vI 0 0), (vR 92), (vI 48 0), (vI 0 0), (vR 99), (vI 58 0), (vI 0 0), (vR 106), (vI 73 0), (vI 0 0), (vR 113), (vI 79 0), (vI 0 0), (vR 120), (vI 81 0), (vI 0 0), (vR 127), (vI 88 0), (vI 0 0), (vR 134), (vI 92 0), (vI 0 0), (vR 141), (vI 96 0), (vI 0 0), (vR 148), (vI 100 0), (vI 0 0), (vR 155), (vI 104 0), (vI 0 0), (vR 162), (vI 109 0), (vI 0 0), (vR 170), (vI 111 0), (vI 0 0), (vR 177), (vI 114 0), (vI 0 0), (vR 184), (vI 117 0), (vI 0 0), (vR 191), (vI 119 0), (vI 0 0), (vR 198), (vI 121 0), (vI 0 0), (vR 205), (vI 123 0), (vI 0 0), (vR 212), (vI 131 0), (vI 0 0), (vR 219), (vI 134 0), (vI 0 0), (vR 226), (vI 148 0), (vI 0 0), (vR 233), (vI 150 0), (vI 0 0), (vR 240), (vI 156 0), (vI 0 0), (vR 247), (vI 159 0), (vI 0 0), (vR 254), (vI 170 0), (vI 0 0), (vR 261), (vI 174 0), (vI 0 0), (vR 268), (vI 181 0), (vI 0 0), (vR 273), (vI 185 0), (vI 0 0), (vR 280), (vI 202 0), (vI 0 0), (vR 287), (vI 208 0), (vI 0 0), (vR 294), (vI 215 0), (vI 0 0), (vR 301), (vI 220 0), (vI 0 0), (vR 308), (vI 222 0), (vI 0 0), (vR 315), (vI 227 0), (vI 0 0), (vR 322), (vI 230 0), (vI 0 0), (vR 329), (vI 234 0), (vI 0 0), (vR 336), (vI 244 0), (vI 0 0), (vR 343)])
noncomputable def o7 : Obj := oO (vT "tuple") (dS [(vS "k" 190)])
noncomputable def o8 : Obj := oO vN (.func (fD (tS 0) "_wall" 0 [] vN vN vN vN vN))
noncomputable def o9 : Obj := oO (vT "code") (dF [(vS "_wall" 187), (vS "_wall" 188), (vS "/claim/cut.py" 189), (vI 1 0), (vI 1 0), (vI 0 0), (vI 0 0), (vI 3 0), (vR 15), (.bool true), (vI 181 0), (vR 16), vN, (vR 17), (vR 18), (vR 19), (vI 191 0), (vI 1 0), (vS "/claim/cut.py" 192)])
noncomputable def o10 : Obj := oO (vT "function") (.func (fD (tS 0) "_wall" 3 [] vN vN (vS "__main__" 164) (vR 20) vN))
noncomputable def o11 : Obj := oO (vT "tuple") (dS [(vT "Exception")])
noncomputable def o12 : Obj := oO (vT "builtin_function_or_method") (dF [(vB "type.__prepare__"), (vT "type")])
noncomputable def o13 (P : Params) : Obj := oO (vT "dict") (.dict (List.toArray [dE P "__module__" 207 (vS "basicplus.values" 194), dE P "__qualname__" 209 (vS "BasicError" 208), dE P "__firstlineno__" 211 (vI 7 210), dE P "__init__" 222 (vR 38), dE P "__static_attributes__" 225 (vR 39), dE P "__classcell__" 226 (vR 25)]) 6)
noncomputable def o14 : Obj := oO (vT "cell") (.cell (some (vR 41)))
noncomputable def o15 : Obj := oO vN (dF [(vI 9 0), (vI 4 0), (vR 37)])
noncomputable def o16 : Obj := oO (vT "code") (dF [(vS "BasicError" 202), (vS "BasicError" 203), (vS "/claim/cut.py" 204), (vI 7 0), (vI 0 0), (vI 0 0), (vI 0 0), (vI 0 0), (vR 26), (.bool false), (vI 181 0), (vR 27), vN, vN, vN, vN, (vI 205 0), (vI 7 0), (vS "/claim/cut.py" 206)])
noncomputable def o17 : Obj := ⟨(vT "frame"), none, .plain, List.toArray [(some (vR 28)), (some (vR 3)), (some (vR 24)), none, (some (vS "basicplus.values" 194)), none, (some (vR 0))]⟩
noncomputable def o18 : Obj := oO (vT "tuple") (dS [(vS "" 212)])
noncomputable def o19 : Obj := oO (vT "tuple") (dS [(vR 25)])
noncomputable def o20 : Obj := oO (vT "tuple") (dS [(vS "__class__" 216)])
noncomputable def o21 : Obj := oO (vT "tuple") (dS [(vS "self" 217), (vS "code" 218), (vS "told" 219)])
noncomputable def o22 : Obj := oO vN (.func (fD (mS 4 0) "BasicError.__init__" 0 [] vN vN vN vN vN))
noncomputable def o23 : Obj := oO (vT "code") (dF [(vS "__init__" 213), (vS "BasicError.__init__" 214), (vS "/claim/cut.py" 215), (vI 9 0), (vI 3 0), (vI 0 0), (vI 0 0), (vI 3 0), (vR 32), (.bool true), (vI 181 0), (vR 33), vN, (vR 34), (vR 35), (vR 36), (vI 220 0), (vI 9 0), (vS "/claim/cut.py" 221)])
noncomputable def o24 : Obj := oO (vT "function") (.func (fD (mS 4 0) "BasicError.__init__" 3 [(Str.ofString "__class__", 25)] (vR 30) vN (vS "basicplus.values" 194) (vR 37) (vR 31)))
noncomputable def o25 : Obj := oO (vT "tuple") (dS [(vS "code" 223), (vS "told" 224)])
noncomputable def o26 (P : Params) : Obj := oO (vT "dict") (.dict (List.toArray [dE P "__module__" 207 (vS "basicplus.values" 194), dE P "__firstlineno__" 211 (vI 7 210), dE P "__init__" 222 (vR 38), dE P "__static_attributes__" 225 (vR 39), dE P "__weakref__" 228 (vR 42), dE P "__doc__" 229 vN]) 4)
noncomputable def o27 : Obj := ⟨(vT "type"), none, (.cls ⟨Str.ofString "BasicError", [(vT "Exception")], [(vR 41), (vT "Exception"), (vT "BaseException"), (vT "object")], 40, Str.ofString "BasicError", true, [], [], false, none, false⟩), List.toArray [(some (vR 22)), none, (some (vS "BasicError" 200)), (some (vS "BasicError" 208)), (some (vB "Exception.__new__")), (some (.bool true))]⟩
noncomputable def o28 : Obj := oO (vT "getset_descriptor") (dF [(vS "__weakref__" 227), (vR 41), (vB "ExceptionGroup.__weakref__"), vN])
noncomputable def o29 : Obj := oO (vT "super") (dF [(vR 41), (vR 41), (vR 41)])
noncomputable def o30 : Obj := oO (vT "builtin_function_or_method") (dF [(vB "object.__init_subclass__"), (vR 41)])
noncomputable def o31 : Obj := oO (vT "tuple") (dS [(vS "rows" 237)])
noncomputable def o32 : Obj := oO vN (.func (fD (tS 5) "error_codes" 0 [] vN vN vN vN vN))
noncomputable def o33 : Obj := oO (vT "code") (dF [(vS "error_codes" 234), (vS "error_codes" 235), (vS "/claim/cut.py" 236), (vI 13 0), (vI 0 0), (vI 0 0), (vI 0 0), (vI 3 0), (vR 45), (.bool true), (vI 181 0), (vR 46), vN, (vR 47), (vR 48), (vR 49), (vI 238 0), (vI 13 0), (vS "/claim/cut.py" 239)])
noncomputable def o34 : Obj := oO (vT "function") (.func (fD (tS 5) "error_codes" 3 [] vN vN (vS "basicplus.values" 194) (vR 50) vN))
noncomputable def o35 : Obj := oO (vT "tuple") (dS [(vS "code" 244), (vS "known" 245), (vS "number" 246), (vS "sign" 247)])
noncomputable def o36 : Obj := oO vN (.func (fD (tS 6) "number_of_error" 0 [] vN vN vN vN vN))
noncomputable def o37 : Obj := oO (vT "code") (dF [(vS "number_of_error" 241), (vS "number_of_error" 242), (vS "/claim/cut.py" 243), (vI 16 0), (vI 1 0), (vI 0 0), (vI 0 0), (vI 3 0), (vR 52), (.bool true), (vI 181 0), (vR 53), vN, (vR 54), (vR 55), (vR 56), (vI 248 0), (vI 16 0), (vS "/claim/cut.py" 249)])
noncomputable def o38 : Obj := oO (vT "function") (.func (fD (tS 6) "number_of_error" 3 [] vN vN (vS "basicplus.values" 194) (vR 57) vN))
noncomputable def o39 : Obj := oO (vT "tuple") (dS [(vS "number" 254), (vS "known" 255)])
noncomputable def o40 : Obj := oO vN (.func (fD (tS 7) "code_of_error" 0 [] vN vN vN vN vN))
noncomputable def o41 : Obj := oO (vT "code") (dF [(vS "code_of_error" 251), (vS "code_of_error" 252), (vS "/claim/cut.py" 253), (vI 24 0), (vI 1 0), (vI 0 0), (vI 0 0), (vI 3 0), (vR 59), (.bool true), (vI 181 0), (vR 60), vN, (vR 61), (vR 62), (vR 63), (vI 256 0), (vI 24 0), (vS "/claim/cut.py" 257)])
noncomputable def o42 : Obj := oO (vT "function") (.func (fD (tS 7) "code_of_error" 3 [] vN vN (vS "basicplus.values" 194) (vR 64) vN))
noncomputable def o43 : Obj := oO (vT "tuple") (dS [(vS "value" 262)])
noncomputable def o44 : Obj := oO vN (.func (fD (tS 8) "kind_of" 0 [] vN vN vN vN vN))
noncomputable def o45 : Obj := oO (vT "code") (dF [(vS "kind_of" 259), (vS "kind_of" 260), (vS "/claim/cut.py" 261), (vI 27 0), (vI 1 0), (vI 0 0), (vI 0 0), (vI 3 0), (vR 66), (.bool true), (vI 181 0), (vR 67), vN, (vR 68), (vR 69), (vR 70), (vI 263 0), (vI 27 0), (vS "/claim/cut.py" 264)])
noncomputable def o46 : Obj := oO (vT "function") (.func (fD (tS 8) "kind_of" 3 [] vN vN (vS "basicplus.values" 194) (vR 71) vN))
noncomputable def o47 : Obj := oO (vT "tuple") (dS [(vS "name" 269), (vS "kinds" 270), (vS "last" 271)])
noncomputable def o48 : Obj := oO vN (.func (fD (tS 9) "kind_of_name" 0 [] vN vN vN vN vN))
noncomputable def o49 : Obj := oO (vT "code") (dF [(vS "kind_of_name" 266), (vS "kind_of_name" 267), (vS "/claim/cut.py" 268), (vI 31 0), (vI 2 0), (vI 0 0), (vI 0 0), (vI 3 0), (vR 73), (.bool true), (vI 181 0), (vR 74), vN, (vR 75), (vR 76), (vR 77), (vI 272 0), (vI 31 0), (vS "/claim/cut.py" 273)])
noncomputable def o50 : Obj := oO (vT "function") (.func (fD (tS 9) "kind_of_name" 3 [] vN vN (vS "basicplus.values" 194) (vR 78) vN))
noncomputable def o51 : Obj := oO (vT "tuple") (dS [(vS "kind" 278)])
noncomputable def o52 : Obj := oO vN (.func (fD (tS 10) "first_value" 0 [] vN vN vN vN vN))
noncomputable def o53 : Obj := oO (vT "code") (dF [(vS "first_value" 275), (vS "first_value" 276), (vS "/claim/cut.py" 277), (vI 38 0), (vI 1 0), (vI 0 0), (vI 0 0), (vI 3 0), (vR 80), (.bool true), (vI 181 0), (vR 81), vN, (vR 82), (vR 83), (vR 84), (vI 279 0), (vI 38 0), (vS "/claim/cut.py" 280)])
noncomputable def o54 : Obj := oO (vT "function") (.func (fD (tS 10) "first_value" 3 [] vN vN (vS "basicplus.values" 194) (vR 85) vN))
noncomputable def o55 : Obj := oO (vT "tuple") (dS [(vS "number" 285), (vS "many" 286), (vS "bound" 287)])
noncomputable def o56 : Obj := oO vN (.func (fD (tS 11) "figures_of" 0 [] vN vN vN vN vN))
noncomputable def o57 : Obj := oO (vT "code") (dF [(vS "figures_of" 282), (vS "figures_of" 283), (vS "/claim/cut.py" 284), (vI 42 0), (vI 1 0), (vI 0 0), (vI 0 0), (vI 3 0), (vR 87), (.bool true), (vI 181 0), (vR 88), vN, (vR 89), (vR 90), (vR 91), (vI 288 0), (vI 42 0), (vS "/claim/cut.py" 289)])
noncomputable def o58 : Obj := oO (vT "function") (.func (fD (tS 11) "figures_of" 3 [] vN vN (vS "basicplus.values" 194) (vR 92) vN))
noncomputable def o59 : Obj := oO (vT "tuple") (dS [(vS "number" 294), (vS "places" 295), (vS "unit" 296), (vS "found" 297), (vS "rest" 298)])
noncomputable def o60 : Obj := oO vN (.func (fD (tS 12) "rounded_by" 0 [] vN vN vN vN vN))
noncomputable def o61 : Obj := oO (vT "code") (dF [(vS "rounded_by" 291), (vS "rounded_by" 292), (vS "/claim/cut.py" 293), (vI 48 0), (vI 2 0), (vI 0 0), (vI 0 0), (vI 3 0), (vR 94), (.bool true), (vI 181 0), (vR 95), vN, (vR 96), (vR 97), (vR 98), (vI 299 0), (vI 48 0), (vS "/claim/cut.py" 300)])
noncomputable def o62 : Obj := oO (vT "function") (.func (fD (tS 12) "rounded_by" 3 [] vN vN (vS "basicplus.values" 194) (vR 99) vN))
noncomputable def o63 : Obj := oO (vT "tuple") (dS [(vS "coefficient" 305), (vS "exponent" 306), (vS "digits" 307), (vS "size" 308), (vS "more" 309), (vS "first" 310)])
noncomputable def o64 : Obj := oO vN (.func (fD (tS 13) "made" 0 [] vN vN vN vN vN))
noncomputable def o65 : Obj := oO (vT "code") (dF [(vS "made" 302), (vS "made" 303), (vS "/claim/cut.py" 304), (vI 58 0), (vI 3 0), (vI 0 0), (vI 0 0), (vI 3 0), (vR 101), (.bool true), (vI 181 0), (vR 102), vN, (vR 103), (vR 104), (vR 105), (vI 311 0), (vI 58 0), (vS "/claim/cut.py" 312)])
noncomputable def o66 : Obj := oO (vT "function") (.func (fD (tS 13) "made" 3 [] vN vN (vS "basicplus.values" 194) (vR 106) vN))
noncomputable def o67 : Obj := oO (vT "tuple") (dS [(vS "value" 317), (vS "coefficient" 318), (vS "exponent" 319), (vS "size" 320)])
noncomputable def o68 : Obj := oO vN (.func (fD (tS 14) "whole_near" 0 [] vN vN vN vN vN))
noncomputable def o69 : Obj := oO (vT "code") (dF [(vS "whole_near" 314), (vS "whole_near" 315), (vS "/claim/cut.py" 316), (vI 73 0), (vI 1 0), (vI 0 0), (vI 0 0), (vI 3 0), (vR 108), (.bool true), (vI 181 0), (vR 109), vN, (vR 110), (vR 111), (vR 112), (vI 321 0), (vI 73 0), (vS "/claim/cut.py" 322)])
noncomputable def o70 : Obj := oO (vT "function") (.func (fD (tS 14) "whole_near" 3 [] vN vN (vS "basicplus.values" 194) (vR 113) vN))
noncomputable def o71 : Obj := oO (vT "tuple") (dS [(vS "number" 327), (vS "bits" 328)])
noncomputable def o72 : Obj := oO vN (.func (fD (tS 15) "fits" 0 [] vN vN vN vN vN))
noncomputable def o73 : Obj := oO (vT "code") (dF [(vS "fits" 324), (vS "fits" 325), (vS "/claim/cut.py" 326), (vI 79 0), (vI 2 0), (vI 0 0), (vI 0 0), (vI 3 0), (vR 115), (.bool true), (vI 181 0), (vR 116), vN, (vR 117), (vR 118), (vR 119), (vI 329 0), (vI 79 0), (vS "/claim/cut.py" 330)])
noncomputable def o74 : Obj := oO (vT "function") (.func (fD (tS 15) "fits" 3 [] vN vN (vS "basicplus.values" 194) (vR 120) vN))
noncomputable def o75 : Obj := oO (vT "tuple") (dS [(vS "value" 335), (vS "bits" 336), (vS "number" 337)])
noncomputable def o76 : Obj := oO vN (.func (fD (tS 16) "whole_of" 0 [] vN vN vN vN vN))
noncomputable def o77 : Obj := oO (vT "code") (dF [(vS "whole_of" 332), (vS "whole_of" 333), (vS "/claim/cut.py" 334), (vI 81 0), (vI 2 0), (vI 0 0), (vI 0 0), (vI 3 0), (vR 122), (.bool true), (vI 181 0), (vR 123), vN, (vR 124), (vR 125), (vR 126), (vI 338 0), (vI 81 0), (vS "/claim/cut.py" 339)])
noncomputable def o78 : Obj := oO (vT "function") (.func (fD (tS 16) "whole_of" 3 [] vN vN (vS "basicplus.values" 194) (vR 127) vN))
noncomputable def o79 : Obj := oO (vT "tuple") (dS [(vS "value" 344), (vS "digits" 345)])
noncomputable def o80 : Obj := oO vN (.func (fD (tS 17) "decimal_of" 0 [] vN vN vN vN vN))
noncomputable def o81 : Obj := oO (vT "code") (dF [(vS "decimal_of" 341), (vS "decimal_of" 342), (vS "/claim/cut.py" 343), (vI 88 0), (vI 2 0), (vI 0 0), (vI 0 0), (vI 3 0), (vR 129), (.bool true), (vI 181 0), (vR 130), vN, (vR 131), (vR 132), (vR 133), (vI 346 0), (vI 88 0), (vS "/claim/cut.py" 347)])
noncomputable def o82 : Obj := oO (vT "function") (.func (fD (tS 17) "decimal_of" 3 [] vN vN (vS "basicplus.values" 194) (vR 134) vN))
noncomputable def o83 : Obj := oO (vT "tuple") (dS [(vS "value" 352)])
noncomputable def o84 : Obj := oO vN (.func (fD (tS 18) "text_of" 0 [] vN vN vN vN vN))
noncomputable def o85 : Obj := oO (vT "code") (dF [(vS "text_of" 349), (vS "text_of" 350), (vS "/claim/cut.py" 351), (vI 92 0), (vI 1 0), (vI 0 0), (vI 0 0), (vI 3 0), (vR 136), (.bool true), (vI 181 0), (vR 137), vN, (vR 138), (vR 139), (vR 140), (vI 353 0), (vI 92 0), (vS "/claim/cut.py" 354)])
noncomputable def o86 : Obj := oO (vT "function") (.func (fD (tS 18) "text_of" 3 [] vN vN (vS "basicplus.values" 194) (vR 141) vN))
noncomputable def o87 : Obj := oO (vT "tuple") (dS [(vS "text" 359)])
noncomputable def o88 : Obj := oO vN (.func (fD (tS 19) "checked_text" 0 [] vN vN vN vN vN))
noncomputable def o89 : Obj := oO (vT "code") (dF [(vS "checked_text" 356), (vS "checked_text" 357), (vS "/claim/cut.py" 358), (vI 96 0), (vI 1 0), (vI 0 0), (vI 0 0), (vI 3 0), (vR 143), (.bool true), (vI 181 0), (vR 144), vN, (vR 145), (vR 146), (vR 147), (vI 360 0), (vI 96 0), (vS "/claim/cut.py" 361)])
noncomputable def o90 : Obj := oO (vT "function") (.func (fD (tS 19) "checked_text" 3 [] vN vN (vS "basicplus.values" 194) (vR 148) vN))
noncomputable def o91 : Obj := oO (vT "tuple") (dS [(vS "value" 366), (vS "kind" 367), (vS "bits" 368), (vS "digits" 369)])
noncomputable def o92 : Obj := oO vN (.func (fD (tS 20) "suited" 0 [] vN vN vN vN vN))
noncomputable def o93 : Obj := oO (vT "code") (dF [(vS "suited" 363), (vS "suited" 364), (vS "/claim/cut.py" 365), (vI 100 0), (vI 4 0), (vI 0 0), (vI 0 0), (vI 3 0), (vR 150), (.bool true), (vI 181 0), (vR 151), vN, (vR 152), (vR 153), (vR 154), (vI 370 0), (vI 100 0), (vS "/claim/cut.py" 371)])
noncomputable def o94 : Obj := oO (vT "function") (.func (fD (tS 20) "suited" 3 [] vN vN (vS "basicplus.values" 194) (vR 155) vN))
noncomputable def o95 : Obj := oO (vT "tuple") (dS [(vS "is_so" 376)])
noncomputable def o96 : Obj := oO vN (.func (fD (tS 21) "truth" 0 [] vN vN vN vN vN))
noncomputable def o97 : Obj := oO (vT "code") (dF [(vS "truth" 373), (vS "truth" 374), (vS "/claim/cut.py" 375), (vI 104 0), (vI 1 0), (vI 0 0), (vI 0 0), (vI 3 0), (vR 157), (.bool true), (vI 181 0), (vR 158), vN, (vR 159), (vR 160), (vR 161), (vI 377 0), (vI 104 0), (vS "/claim/cut.py" 378)])
noncomputable def o98 : Obj := oO (vT "function") (.func (fD (tS 21) "truth" 3 [] vN vN (vS "basicplus.values" 194) (vR 162) vN))
noncomputable def o99 : Obj := oO (vT "tuple") (dS [(vI 1 382), (vI 0 383)])
noncomputable def o100 : Obj := oO (vT "tuple") (dS [(vS "a" 390)])
noncomputable def o101 : Obj := oO vN (.func (fD (tS 25) "d_negated" 0 [] vN vN vN vN vN))
noncomputable def o102 : Obj := oO (vT "code") (dF [(vS "d_negated" 387), (vS "d_negated" 388), (vS "/claim/cut.py" 389), (vI 109 0), (vI 1 0), (vI 0 0), (vI 0 0), (vI 3 0), (vR 165), (.bool true), (vI 181 0), (vR 166), vN, (vR 167), (vR 168), (vR 169), (vI 391 0), (vI 109 0), (vS "/claim/cut.py" 392)])
noncomputable def o103 : Obj := oO (vT "function") (.func (fD (tS 25) "d_negated" 3 [] vN vN (vS "basicplus.decimals" 380) (vR 170) vN))
noncomputable def o104 : Obj := oO (vT "tuple") (dS [(vS "a" 397), (vS "b" 398), (vS "least" 399)])
noncomputable def o105 : Obj := oO vN (.func (fD (tS 26) "alike" 0 [] vN vN vN vN vN))
noncomputable def o106 : Obj := oO (vT "code") (dF [(vS "alike" 394), (vS "alike" 395), (vS "/claim/cut.py" 396), (vI 111 0), (vI 2 0), (vI 0 0), (vI 0 0), (vI 3 0), (vR 172), (.bool true), (vI 181 0), (vR 173), vN, (vR 174), (vR 175), (vR 176), (vI 400 0), (vI 111 0), (vS "/claim/cut.py" 401)])
noncomputable def o107 : Obj := oO (vT "function") (.func (fD (tS 26) "alike" 3 [] vN vN (vS "basicplus.decimals" 380) (vR 177) vN))
noncomputable def o108 : Obj := oO (vT "tuple") (dS [(vS "a" 406), (vS "b" 407), (vS "digits" 408), (vS "one" 409), (vS "other" 410), (vS "exponent" 411)])
noncomputable def o109 : Obj := oO vN (.func (fD (tS 27) "d_add" 0 [] vN vN vN vN vN))
noncomputable def o110 : Obj := oO (vT "code") (dF [(vS "d_add" 403), (vS "d_add" 404), (vS "/claim/cut.py" 405), (vI 114 0), (vI 3 0), (vI 0 0), (vI 0 0), (vI 3 0), (vR 179), (.bool true), (vI 181 0), (vR 180), vN, (vR 181), (vR 182), (vR 183), (vI 412 0), (vI 114 0), (vS "/claim/cut.py" 413)])
noncomputable def o111 : Obj := oO (vT "function") (.func (fD (tS 27) "d_add" 3 [] vN vN (vS "basicplus.decimals" 380) (vR 184) vN))
noncomputable def o112 : Obj := oO (vT "tuple") (dS [(vS "a" 418), (vS "b" 419), (vS "digits" 420)])
noncomputable def o113 : Obj := oO vN (.func (fD (tS 28) "d_sub" 0 [] vN vN vN vN vN))
noncomputable def o114 : Obj := oO (vT "code") (dF [(vS "d_sub" 415), (vS "d_sub" 416), (vS "/claim/cut.py" 417), (vI 117 0), (vI 3 0), (vI 0 0), (vI 0 0), (vI 3 0), (vR 186), (.bool true), (vI 181 0), (vR 187), vN, (vR 188), (vR 189), (vR 190), (vI 421 0), (vI 117 0), (vS "/claim/cut.py" 422)])
noncomputable def o115 : Obj := oO (vT "function") (.func (fD (tS 28) "d_sub" 3 [] vN vN (vS "basicplus.decimals" 380) (vR 191) vN))
noncomputable def o116 : Obj := oO (vT "tuple") (dS [(vS "a" 427), (vS "b" 428), (vS "digits" 429)])
noncomputable def o117 : Obj := oO vN (.func (fD (tS 29) "d_mul" 0 [] vN vN vN vN vN))
noncomputable def o118 : Obj := oO (vT "code") (dF [(vS "d_mul" 424), (vS "d_mul" 425), (vS "/claim/cut.py" 426), (vI 119 0), (vI 3 0), (vI 0 0), (vI 0 0), (vI 3 0), (vR 193), (.bool true), (vI 181 0), (vR 194), vN, (vR 195), (vR 196), (vR 197), (vI 430 0), (vI 119 0), (vS "/claim/cut.py" 431)])
noncomputable def o119 : Obj := oO (vT "function") (.func (fD (tS 29) "d_mul" 3 [] vN vN (vS "basicplus.decimals" 380) (vR 198) vN))
noncomputable def o120 : Obj := oO (vT "tuple") (dS [(vS "whole" 436), (vS "rest" 437), (vS "exponent" 438)])
noncomputable def o121 : Obj := oO vN (.func (fD (tS 30) "with_rest" 0 [] vN vN vN vN vN))
noncomputable def o122 : Obj := oO (vT "code") (dF [(vS "with_rest" 433), (vS "with_rest" 434), (vS "/claim/cut.py" 435), (vI 121 0), (vI 3 0), (vI 0 0), (vI 0 0), (vI 3 0), (vR 200), (.bool true), (vI 181 0), (vR 201), vN, (vR 202), (vR 203), (vR 204), (vI 439 0), (vI 121 0), (vS "/claim/cut.py" 440)])
noncomputable def o123 : Obj := oO (vT "function") (.func (fD (tS 30) "with_rest" 3 [] vN vN (vS "basicplus.decimals" 380) (vR 205) vN))
noncomputable def o124 : Obj := oO (vT "tuple") (dS [(vS "a" 445), (vS "b" 446), (vS "digits" 447), (vS "size" 448), (vS "below" 449), (vS "places" 450), (vS "whole" 451), (vS "exponent" 452)])
noncomputable def o125 : Obj := oO vN (.func (fD (tS 31) "d_div" 0 [] vN vN vN vN vN))
noncomputable def o126 : Obj := oO (vT "code") (dF [(vS "d_div" 442), (vS "d_div" 443), (vS "/claim/cut.py" 444), (vI 123 0), (vI 3 0), (vI 0 0), (vI 0 0), (vI 3 0), (vR 207), (.bool true), (vI 181 0), (vR 208), vN, (vR 209), (vR 210), (vR 211), (vI 453 0), (vI 123 0), (vS "/claim/cut.py" 454)])
noncomputable def o127 : Obj := oO (vT "function") (.func (fD (tS 31) "d_div" 3 [] vN vN (vS "basicplus.decimals" 380) (vR 212) vN))
noncomputable def o128 : Obj := oO (vT "tuple") (dS [(vS "a" 459), (vS "b" 460), (vS "one" 461), (vS "other" 462), (vS "exponent" 463)])
noncomputable def o129 : Obj := oO vN (.func (fD (tS 32) "d_compare" 0 [] vN vN vN vN vN))
noncomputable def o130 : Obj := oO (vT "code") (dF [(vS "d_compare" 456), (vS "d_compare" 457), (vS "/claim/cut.py" 458), (vI 131 0), (vI 2 0), (vI 0 0), (vI 0 0), (vI 3 0), (vR 214), (.bool true), (vI 181 0), (vR 215), vN, (vR 216), (vR 217), (vR 218), (vI 464 0), (vI 131 0), (vS "/claim/cut.py" 465)])
noncomputable def o131 : Obj := oO (vT "function") (.func (fD (tS 32) "d_compare" 3 [] vN vN (vS "basicplus.decimals" 380) (vR 219) vN))
noncomputable def o132 : Obj := oO (vT "tuple") (dS [(vS "a" 470), (vS "n" 471), (vS "digits" 472), (vS "work" 473), (vS "found" 474), (vS "left" 475)])
noncomputable def o133 : Obj := oO vN (.func (fD (tS 33) "d_power" 0 [] vN vN vN vN vN))
noncomputable def o134 : Obj := oO (vT "code") (dF [(vS "d_power" 467), (vS "d_power" 468), (vS "/claim/cut.py" 469), (vI 134 0), (vI 3 0), (vI 0 0), (vI 0 0), (vI 3 0), (vR 221), (.bool true), (vI 181 0), (vR 222), vN, (vR 223), (vR 224), (vR 225), (vI 476 0), (vI 134 0), (vS "/claim/cut.py" 477)])
noncomputable def o135 : Obj := oO (vT "function") (.func (fD (tS 33) "d_power" 3 [] vN vN (vS "basicplus.decimals" 380) (vR 226) vN))
noncomputable def o136 : Obj := oO (vT "tuple") (dS [(vS "a" 482), (vS "work" 483)])
noncomputable def o137 : Obj := oO vN (.func (fD (tS 34) "square_or_end" 0 [] vN vN vN vN vN))
noncomputable def o138 : Obj := oO (vT "code") (dF [(vS "square_or_end" 479), (vS "square_or_end" 480), (vS "/claim/cut.py" 481), (vI 148 0), (vI 2 0), (vI 0 0), (vI 0 0), (vI 3 0), (vR 228), (.bool true), (vI 181 0), (vR 229), vN, (vR 230), (vR 231), (vR 232), (vI 484 0), (vI 148 0), (vS "/claim/cut.py" 485)])
noncomputable def o139 : Obj := oO (vT "function") (.func (fD (tS 34) "square_or_end" 3 [] vN vN (vS "basicplus.decimals" 380) (vR 233) vN))
noncomputable def o140 : Obj := oO (vT "tuple") (dS [(vS "number" 490), (vS "found" 491)])
noncomputable def o141 : Obj := oO vN (.func (fD (tS 35) "figures_text" 0 [] vN vN vN vN vN))
noncomputable def o142 : Obj := oO (vT "code") (dF [(vS "figures_text" 487), (vS "figures_text" 488), (vS "/claim/cut.py" 489), (vI 150 0), (vI 1 0), (vI 0 0), (vI 0 0), (vI 3 0), (vR 235), (.bool true), (vI 181 0), (vR 236), vN, (vR 237), (vR 238), (vR 239), (vI 492 0), (vI 150 0), (vS "/claim/cut.py" 493)])
noncomputable def o143 : Obj := oO (vT "function") (.func (fD (tS 35) "figures_text" 3 [] vN vN (vS "basicplus.decimals" 380) (vR 240) vN))
noncomputable def o144 : Obj := oO (vT "tuple") (dS [(vS "exponent" 498), (vS "told" 499)])
noncomputable def o145 : Obj := oO vN (.func (fD (tS 36) "exponent_text" 0 [] vN vN vN vN vN))
noncomputable def o146 : Obj := oO (vT "code") (dF [(vS "exponent_text" 495), (vS "exponent_text" 496), (vS "/claim/cut.py" 497), (vI 156 0), (vI 1 0), (vI 0 0), (vI 0 0), (vI 3 0), (vR 242), (.bool true), (vI 181 0), (vR 243), vN, (vR 244), (vR 245), (vR 246), (vI 500 0), (vI 156 0), (vS "/claim/cut.py" 501)])
noncomputable def o147 : Obj := oO (vT "function") (.func (fD (tS 36) "exponent_text" 3 [] vN vN (vS "basicplus.decimals" 380) (vR 247) vN))
noncomputable def o148 : Obj := oO (vT "tuple") (dS [(vS "size" 506), (vS "exponent" 507), (vS "digits" 508), (vS "figures" 509), (vS "many" 510), (vS "top" 511)])
noncomputable def o149 : Obj := oO vN (.func (fD (tS 37) "size_text" 0 [] vN vN vN vN vN))
noncomputable def o150 : Obj := oO (vT "code") (dF [(vS "size_text" 503), (vS "size_text" 504), (vS "/claim/cut.py" 505), (vI 159 0), (vI 3 0), (vI 0 0), (vI 0 0), (vI 3 0), (vR 249), (.bool true), (vI 181 0), (vR 250), vN, (vR 251), (vR 252), (vR 253), (vI 512 0), (vI 159 0), (vS "/claim/cut.py" 513)])
noncomputable def o151 : Obj := oO (vT "function") (.func (fD (tS 37) "size_text" 3 [] vN vN (vS "basicplus.decimals" 380) (vR 254) vN))
noncomputable def o152 : Obj := oO (vT "tuple") (dS [(vS "a" 518), (vS "digits" 519)])
noncomputable def o153 : Obj := oO vN (.func (fD (tS 38) "d_text" 0 [] vN vN vN vN vN))
noncomputable def o154 : Obj := oO (vT "code") (dF [(vS "d_text" 515), (vS "d_text" 516), (vS "/claim/cut.py" 517), (vI 170 0), (vI 2 0), (vI 0 0), (vI 0 0), (vI 3 0), (vR 256), (.bool true), (vI 181 0), (vR 257), vN, (vR 258), (vR 259), (vR 260), (vI 520 0), (vI 170 0), (vS "/claim/cut.py" 521)])
noncomputable def o155 : Obj := oO (vT "function") (.func (fD (tS 38) "d_text" 3 [] vN vN (vS "basicplus.decimals" 380) (vR 261) vN))
noncomputable def o156 : Obj := oO (vT "tuple") (dS [(vS "number" 526)])
noncomputable def o157 : Obj := oO vN (.func (fD (tS 39) "whole_text" 0 [] vN vN vN vN vN))
noncomputable def o158 : Obj := oO (vT "code") (dF [(vS "whole_text" 523), (vS "whole_text" 524), (vS "/claim/cut.py" 525), (vI 174 0), (vI 1 0), (vI 0 0), (vI 0 0), (vI 3 0), (vR 263), (.bool true), (vI 181 0), (vR 264), vN, (vR 265), (vR 266), (vR 267), (vI 527 0), (vI 174 0), (vS "/claim/cut.py" 528)])
noncomputable def o159 : Obj := oO (vT "function") (.func (fD (tS 39) "whole_text" 3 [] vN vN (vS "basicplus.decimals" 380) (vR 268) vN))
noncomputable def o160 : Obj := oO vN (.func (fD (tS 45) "check_name" 0 [] vN vN vN vN vN))
noncomputable def o161 : Obj := oO (vT "code") (dF [(vS "check_name" 540), (vS "check_name" 541), (vS "/claim/cut.py" 542), (vI 181 0), (vI 1 0), (vI 0 0), (vI 0 0), (vI 3 0), (vR 270), (.bool true), (vI 181 0), (vR 271), vN, vN, vN, (vR 272), (vI 543 0), (vI 181 0), (vS "/claim/cut.py" 544)])
noncomputable def o162 : Obj := oO (vT "function") (.func (fD (tS 45) "check_name" 3 [] vN vN (vS "basicplus.files" 530) (vR 273) vN))
noncomputable def o163 : Obj := oO (vT "tuple") (dS [(vS "world" 549), (vS "mode" 550), (vS "channel" 551), (vS "name" 552), (vS "size" 553), (vS "at" 554), (vS "made" 555)])
noncomputable def o164 : Obj := oO vN (.func (fD (tS 46) "open_file" 0 [] vN vN vN vN vN))
noncomputable def o165 : Obj := oO (vT "code") (dF [(vS "open_file" 546), (vS "open_file" 547), (vS "/claim/cut.py" 548), (vI 185 0), (vI 5 0), (vI 0 0), (vI 0 0), (vI 3 0), (vR 275), (.bool true), (vI 181 0), (vR 276), vN, (vR 277), (vR 278), (vR 279), (vI 556 0), (vI 185 0), (vS "/claim/cut.py" 557)])
noncomputable def o166 : Obj := oO (vT "function") (.func (fD (tS 46) "open_file" 3 [] vN vN (vS "basicplus.files" 530) (vR 280) vN))
noncomputable def o167 : Obj := oO (vT "tuple") (dS [(vS "world" 562), (vS "mode" 563), (vS "name" 564), (vS "channel" 565), (vS "other" 566)])
noncomputable def o168 : Obj := oO vN (.func (fD (tS 47) "is_written_elsewhere" 0 [] vN vN vN vN vN))
noncomputable def o169 : Obj := oO (vT "code") (dF [(vS "is_written_elsewhere" 559), (vS "is_written_elsewhere" 560), (vS "/claim/cut.py" 561), (vI 202 0), (vI 3 0), (vI 0 0), (vI 0 0), (vI 3 0), (vR 282), (.bool true), (vI 181 0), (vR 283), vN, (vR 284), (vR 285), (vR 286), (vI 567 0), (vI 202 0), (vS "/claim/cut.py" 568)])
noncomputable def o170 : Obj := oO (vT "function") (.func (fD (tS 47) "is_written_elsewhere" 3 [] vN vN (vS "basicplus.files" 530) (vR 287) vN))
noncomputable def o171 : Obj := oO (vT "tuple") (dS [(vS "world" 573), (vS "channel" 574), (vS "modes" 575), (vS "found" 576)])
noncomputable def o172 : Obj := oO vN (.func (fD (tS 48) "channel_of" 0 [] vN vN vN vN vN))
noncomputable def o173 : Obj := oO (vT "code") (dF [(vS "channel_of" 570), (vS "channel_of" 571), (vS "/claim/cut.py" 572), (vI 208 0), (vI 3 0), (vI 0 0), (vI 0 0), (vI 3 0), (vR 289), (.bool true), (vI 181 0), (vR 290), vN, (vR 291), (vR 292), (vR 293), (vI 577 0), (vI 208 0), (vS "/claim/cut.py" 578)])
noncomputable def o174 : Obj := oO (vT "function") (.func (fD (tS 48) "channel_of" 3 [] vN vN (vS "basicplus.files" 530) (vR 294) vN))
noncomputable def o175 : Obj := oO (vT "tuple") (dS [(vS "world" 583), (vS "channel" 584), (vS "text" 585), (vS "found" 586)])
noncomputable def o176 : Obj := oO vN (.func (fD (tS 49) "write_text" 0 [] vN vN vN vN vN))
noncomputable def o177 : Obj := oO (vT "code") (dF [(vS "write_text" 580), (vS "write_text" 581), (vS "/claim/cut.py" 582), (vI 215 0), (vI 3 0), (vI 0 0), (vI 0 0), (vI 3 0), (vR 296), (.bool true), (vI 181 0), (vR 297), vN, (vR 298), (vR 299), (vR 300), (vI 587 0), (vI 215 0), (vS "/claim/cut.py" 588)])
noncomputable def o178 : Obj := oO (vT "function") (.func (fD (tS 49) "write_text" 3 [] vN vN (vS "basicplus.files" 530) (vR 301) vN))
noncomputable def o179 : Obj := oO (vT "tuple") (dS [(vS "world" 594), (vS "channel" 595), (vS "text" 596)])
noncomputable def o180 : Obj := oO vN (.func (fD (tS 51) "write_row" 0 [] vN vN vN vN vN))
noncomputable def o181 : Obj := oO (vT "code") (dF [(vS "write_row" 591), (vS "write_row" 592), (vS "/claim/cut.py" 593), (vI 220 0), (vI 3 0), (vI 0 0), (vI 0 0), (vI 3 0), (vR 303), (.bool true), (vI 181 0), (vR 304), vN, (vR 305), (vR 306), (vR 307), (vI 597 0), (vI 220 0), (vS "/claim/cut.py" 598)])
noncomputable def o182 : Obj := oO (vT "function") (.func (fD (tS 51) "write_row" 3 [] vN vN (vS "basicplus.files" 530) (vR 308) vN))
noncomputable def o183 : Obj := oO (vT "tuple") (dS [(vS "world" 603), (vS "name" 604), (vS "channel" 605), (vS "at" 606), (vS "many" 607)])
noncomputable def o184 : Obj := oO vN (.func (fD (tS 52) "field_text" 0 [] vN vN vN vN vN))
noncomputable def o185 : Obj := oO (vT "code") (dF [(vS "field_text" 600), (vS "field_text" 601), (vS "/claim/cut.py" 602), (vI 222 0), (vI 2 0), (vI 0 0), (vI 0 0), (vI 3 0), (vR 310), (.bool true), (vI 181 0), (vR 311), vN, (vR 312), (vR 313), (vR 314), (vI 608 0), (vI 222 0), (vS "/claim/cut.py" 609)])
noncomputable def o186 : Obj := oO (vT "function") (.func (fD (tS 52) "field_text" 3 [] vN vN (vS "basicplus.files" 530) (vR 315) vN))
noncomputable def o187 : Obj := oO (vT "tuple") (dS [(vS "world" 614), (vS "name" 615)])
noncomputable def o188 : Obj := oO vN (.func (fD (tS 53) "no_field" 0 [] vN vN vN vN vN))
noncomputable def o189 : Obj := oO (vT "code") (dF [(vS "no_field" 611), (vS "no_field" 612), (vS "/claim/cut.py" 613), (vI 227 0), (vI 2 0), (vI 0 0), (vI 0 0), (vI 3 0), (vR 317), (.bool true), (vI 181 0), (vR 318), vN, (vR 319), (vR 320), (vR 321), (vI 616 0), (vI 227 0), (vS "/claim/cut.py" 617)])
noncomputable def o190 : Obj := oO (vT "function") (.func (fD (tS 53) "no_field" 3 [] vN vN (vS "basicplus.files" 530) (vR 322) vN))
noncomputable def o191 : Obj := oO (vT "tuple") (dS [(vS "world" 622), (vS "names" 623), (vS "depth" 624), (vS "name" 625)])
noncomputable def o192 : Obj := oO vN (.func (fD (tS 54) "hide_fields" 0 [] vN vN vN vN vN))
noncomputable def o193 : Obj := oO (vT "code") (dF [(vS "hide_fields" 619), (vS "hide_fields" 620), (vS "/claim/cut.py" 621), (vI 230 0), (vI 3 0), (vI 0 0), (vI 0 0), (vI 3 0), (vR 324), (.bool true), (vI 181 0), (vR 325), vN, (vR 326), (vR 327), (vR 328), (vI 626 0), (vI 230 0), (vS "/claim/cut.py" 627)])
noncomputable def o194 : Obj := oO (vT "function") (.func (fD (tS 54) "hide_fields" 3 [] vN vN (vS "basicplus.files" 530) (vR 329) vN))
noncomputable def o195 : Obj := oO (vT "tuple") (dS [(vS "world" 632), (vS "names" 633), (vS "depth" 634), (vS "name" 635)])
noncomputable def o196 : Obj := oO vN (.func (fD (tS 55) "lay_fields" 0 [] vN vN vN vN vN))
noncomputable def o197 : Obj := oO (vT "code") (dF [(vS "lay_fields" 629), (vS "lay_fields" 630), (vS "/claim/cut.py" 631), (vI 234 0), (vI 3 0), (vI 0 0), (vI 0 0), (vI 3 0), (vR 331), (.bool true), (vI 181 0), (vR 332), vN, (vR 333), (vR 334), (vR 335), (vI 636 0), (vI 234 0), (vS "/claim/cut.py" 637)])
noncomputable def o198 : Obj := oO (vT "function") (.func (fD (tS 55) "lay_fields" 3 [] vN vN (vS "basicplus.files" 530) (vR 336) vN))
noncomputable def o199 (P : Params) : Obj := oO (vT "dict") (.dict (List.toArray [dE P "__module__" 654 (vS "basicplus.printing" 639), dE P "__qualname__" 656 (vS "Page" 655), dE P "__firstlineno__" 658 (vI 244 657), dE P "__init__" 665 (vR 351), dE P "__static_attributes__" 668 (vR 352)]) 5)
noncomputable def o200 : Obj := oO vN (dF [(vI 246 0), (vI 4 0), (vR 350)])
noncomputable def o201 : Obj := oO (vT "code") (dF [(vS "Page" 649), (vS "Page" 650), (vS "/claim/cut.py" 651), (vI 244 0), (vI 0 0), (vI 0 0), (vI 0 0), (vI 0 0), (vR 341), (.bool false), (vI 181 0), (vR 342), vN, vN, vN, vN, (vI 652 0), (vI 244 0), (vS "/claim/cut.py" 653)])
noncomputable def o202 : Obj := ⟨(vT "frame"), none, .plain, List.toArray [(some (vR 343)), (some (vR 3)), (some (vR 340)), none, (some (vS "basicplus.printing" 639)), none, (some (vR 0))]⟩
noncomputable def o203 : Obj := oO (vT "tuple") (dS [(vS "self" 662)])
noncomputable def o204 : Obj := oO vN (.func (fD (mS 60 0) "Page.__init__" 0 [] vN vN vN vN vN))
noncomputable def o205 : Obj := oO (vT "code") (dF [(vS "__init__" 659), (vS "Page.__init__" 660), (vS "/claim/cut.py" 661), (vI 246 0), (vI 1 0), (vI 0 0), (vI 0 0), (vI 3 0), (vR 345), (.bool true), (vI 181 0), (vR 346), vN, (vR 347), (vR 348), (vR 349), (vI 663 0), (vI 246 0), (vS "/claim/cut.py" 664)])
noncomputable def o206 : Obj := oO (vT "function") (.func (fD (mS 60 0) "Page.__init__" 3 [] vN vN (vS "basicplus.printing" 639) (vR 350) vN))
noncomputable def o207 : Obj := oO (vT "tuple") (dS [(vS "out" 666), (vS "row" 667)])
noncomputable def o208 (P : Params) : Obj := oO (vT "dict") (.dict (List.toArray [dE P "__module__" 654 (vS "basicplus.printing" 639), dE P "__firstlineno__" 658 (vI 244 657), dE P "__init__" 665 (vR 351), dE P "__static_attributes__" 668 (vR 352), dE P "__dict__" 670 (vR 355), dE P "__weakref__" 672 (vR 356), dE P "__doc__" 673 vN]) 4)
noncomputable def o209 : Obj := ⟨(vT "type"), none, (.cls ⟨Str.ofString "Page", [(vT "object")], [(vR 354), (vT "object")], 353, Str.ofString "Page", true, [], [], false, none, false⟩), List.toArray [none, none, (some (vS "Page" 647)), (some (vS "Page" 655)), (some (vB "object.__new__")), (some (.bool true))]⟩
noncomputable def o210 : Obj := oO (vT "getset_descriptor") (dF [(vS "__dict__" 669), (vR 354), (vB "function.__dict__"), (vB "function.__dict__#set")])
noncomputable def o211 : Obj := oO (vT "getset_descriptor") (dF [(vS "__weakref__" 671), (vR 354), (vB "ExceptionGroup.__weakref__"), vN])
noncomputable def o212 : Obj := oO (vT "super") (dF [(vR 354), (vR 354), (vR 354)])
noncomputable def o213 : Obj := oO (vT "builtin_function_or_method") (dF [(vB "object.__init_subclass__"), (vR 354)])
noncomputable def o214 (P : Params) : Obj := oO (vT "dict") (.dict (List.toArray [dE P "__name__" 165 (vS "basicplus.arith" 1031), dE P "__doc__" 166 vN, dE P "__package__" 167 vN, dE P "__loader__" 168 (vB "__main__.__loader__#opaque"), dE P "__spec__" 169 vN, dE P "__annotations__" 170 (vR 6), dE P "__builtins__" 171 (vR 4), dE P "__file__" 173 (vS "/claim/cut.py" 172), dE P "__cached__" 174 vN, dE P "_wall" 193 (vR 21), dE P "MOST_TEXT" 197 (vI 255 196), dE P "MOST_EXPONENT" 199 (vI 99 198), dE P "BasicError" 233 (vR 41), dE P "error_codes" 240 (vR 51), dE P "number_of_error" 250 (vR 58), dE P "code_of_error" 258 (vR 65), dE P "kind_of" 265 (vR 72), dE P "kind_of_name" 274 (vR 79), dE P "first_value" 281 (vR 86), dE P "figures_of" 290 (vR 93), dE P "rounded_by" 301 (vR 100), dE P "made" 313 (vR 107), dE P "whole_near" 323 (vR 114), dE P "fits" 331 (vR 121), dE P "whole_of" 340 (vR 128), dE P "decimal_of" 348 (vR 135), dE P "text_of" 355 (vR 142), dE P "checked_text" 362 (vR 149), dE P "suited" 372 (vR 156), dE P "truth" 379 (vR 163), dE P "ONE" 384 (vR 164), dE P "MOST_POWER" 386 (vI 9999 385), dE P "d_negated" 393 (vR 171), dE P "alike" 402 (vR 178), dE P "d_add" 414 (vR 185), dE P "d_sub" 423 (vR 192), dE P "d_mul" 432 (vR 199), dE P "with_rest" 441 (vR 206), dE P "d_div" 455 (vR 213), dE P "d_compare" 466 (vR 220), dE P "d_power" 478 (vR 227), dE P "square_or_end" 486 (vR 234), dE P "figures_text" 494 (vR 241), dE P "exponent_text" 502 (vR 248), dE P "size_text" 514 (vR 255), dE P "d_text" 522 (vR 262), dE P "whole_text" 529 (vR 269), dE P "MOST_CHANNEL" 533 (vI 15 532), dE P "MOST_NAME" 535 (vI 30 534), dE P "MOST_SIZE" 537 (vI 255 536), dE P "ROW_END" 539 (vS "\n" 538), dE P "check_name" 545 (vR 274), dE P "open_file" 558 (vR 281), dE P "is_written_elsewhere" 569 (vR 288), dE P "channel_of" 579 (vR 295), dE P "write_text" 589 (vR 372), dE P "write_text_files" 590 (vR 302), dE P "write_row" 599 (vR 309), dE P "field_text" 610 (vR 316), dE P "no_field" 618 (vR 323), dE P "hide_fields" 628 (vR 330), dE P "lay_fields" 638 (vR 337), dE P "ZONE" 642 (vI 14 641), dE P "WIDTH" 644 (vI 72 643), dE P "MOST_COLUMN" 646 (vI 255 645), dE P "Page" 675 (vR 354), dE P "end_row" 682 (vR 365), dE P "write_text_printing" 692 (vR 372), dE P "write_zone" 702 (vR 379), dE P "within_row" 710 (vR 386), dE P "write_blanks" 719 (vR 393), dE P "write_tab" 729 (vR 400), dE P "write_part" 740 (vR 407), dE P "write_parts" 752 (vR 414), dE P "Picture" 789 (vR 431), dE P "begins_number" 797 (vR 442), dE P "read_ahead" 806 (vR 449), dE P "read_places" 815 (vR 456), dE P "read_picture" 824 (vR 463), dE P "read_pieces" 836 (vR 470), dE P "piece_at" 846 (vR 477), dE P "padded_figures" 855 (vR 484), dE P "scaled" 864 (vR 491), dE P "grouped" 872 (vR 498), dE P "split_figures" 881 (vR 505), dE P "with_exponent" 896 (vR 512), dE P "lead_of" 904 (vR 519), dE P "tail_of" 912 (vR 526), dE P "number_by" 932 (vR 533), dE P "value_by" 940 (vR 540), dE P "is_plain" 947 (vR 547), dE P "using_text" 953 (vR 552), dE P "shown" 963 (vR 559), dE P "print_parts" 973 (vR 566), dE P "channel_told" 982 (vR 573), dE P "unfinished" 992 (vR 580), dE P "file_page" 1001 (vR 587), dE P "write_page" 1007 (vR 592), dE P "do_print" 1018 (vR 599), dE P "do_using" 1024 (vR 604), dE P "do_write" 1030 (vR 609), dE P "is_whole" 1039 (vR 616), dE P "settled" 1048 (vR 623), dE P "whole_reckoned" 1059 (vR 630), dE P "cut_quotient" 1068 (vR 637), dE P "cut_rest" 1076 (vR 644), dE P "exponent_of" 1083 (vR 651), dE P "whole_power" 1093 (vR 658), dE P "raised" 1104 (vR 665), dE P "reckoned" 1120 (vR 672), dE P "negated" 1129 (vR 679), dE P "order_of" 1137 (vR 686), dE P "inverted" 1145 (vR 693), dE P "logic" 1157 (vR 700)]) 114)
noncomputable def o215 : Obj := oO vN (dF [(vI 1 0), (vI 0 0), (vR 20), (vI 7 0), (vI 0 0), (vR 28), (vI 13 0), (vI 0 0), (vR 50), (vI 16 0), (vI 0 0), (vR 57), (vI 24 0), (vI 0 0), (vR 64), (vI 27 0), (vI 0 0), (vR 71), (vI 31 0), (vI 0 0), (vR 78), (vI 38 0), (vI 0 0), (vR 85), (vI 42 0), (vI 0 0), (vR 92), (vI 48 0), (vI 0 0), (vR 99), (vI 58 0), (vI 0 0), (vR 106), (vI 73 0), (vI 0 0), (vR 113), (vI 79 0), (vI 0 0), (vR 120), (vI 81 0), (vI 0 0), (vR 127), (vI 88 0), (vI 0 0), (vR 134), (vI 92 0), (vI 0 0), (vR 141), (vI 96 0), (vI 0 0), (vR 148), (vI 100 0), (vI 0 0), (vR 155), (vI 104 0), (vI 0 0), (vR 162), (vI 109 0), (vI 0 0), (vR 170), (vI 111 0), (vI 0 0), (vR 177), (vI 114 0), (vI 0 0), (vR 184), (vI 117 0), (vI 0 0), (vR 191), (vI 119 0), (vI 0 0), (vR 198), (vI 121 0), (vI 0 0), (vR 205), (vI 123 0), (vI 0 0), (vR 212), (vI 131 0), (vI 0 0), (vR 219), (vI 134 0), (vI 0 0), (vR 226), (vI 148 0), (vI 0 0), (vR 233), (vI 150 0), (vI 0 0), (vR 240), (vI 156 0), (vI 0 0), (vR 247), (vI 159 0), (vI 0 0), (vR 254), (vI 170 0), (vI 0 0), (vR 261), (vI 174 0), (vI 0 0), (vR 268), (vI 181 0), (vI 0 0), (vR 273), (vI 185 0), (vI 0 0), (vR 280), (vI 202 0), (vI 0 0), (vR 287), (vI 208 0), (vI 0 0), (vR 294), (vI 215 0), (vI 0 0), (vR 301), (vI 220 0), (vI 0 0), (vR 308), (vI 222 0), (vI 0 0), (vR 315), (vI 227 0), (vI 0 0), (vR 322), (vI 230 0), (vI 0 0), (vR 329), (vI 234 0), (vI 0 0), (vR 336), (vI 244 0), (vI 0 0), (vR 343), (vI 249 0), (vI 0 0), (vR 364), (vI 252 0), (vI 0 0), (vR 371), (vI 260 0), (vI 0 0), (vR 378), (vI 266 0), (vI 0 0), (vR 385), (vI 270 0), (vI 0 0), (vR 392), (vI 272 0), (vI 0 0), (vR 399), (vI 279 0), (vI 0 0), (vR 406), (vI 293 0), (vI 0 0), (vR 413), (vI 300 0), (vI 0 0), (vR 420), (vI 311 0), (vI 0 0), (vR 441), (vI 315 0), (vI 0 0), (vR 448), (vI 325 0), (vI 0 0), (vR 455), (vI 334 0), (vI 0 0), (vR 462), (vI 342 0), (vI 0 0), (vR 469), (vI 354 0), (vI 0 0), (vR 476), (vI 370 0), (vI 0 0), (vR 483), (vI 375 0), (vI 0 0), (vR 490), (vI 379 0), (vI 0 0), (vR 497), (vI 385 0), (vI 0 0), (vR 504), (vI 388 0), (vI 0 0), (vR 511), (vI 401 0), (vI 0 0), (vR 518), (vI 405 0), (vI 0 0), (vR 525), (vI 409 0), (vI 0 0), (vR 532), (vI 426 0), (vI 0 0), (vR 539), (vI 438 0), (vI 0 0), (vR 546), (vI 440 0), (vI 0 0), (vR 551), (vI 455 0), (vI 0 0), (vR 558), (vI 459 0), (vI 0 0), (vR 565), (vI 469 0), (vI 0 0), (vR 572), (vI 475 0), (vI 0 0), (vR 579), (vI 479 0), (vI 0 0), (vR 586), (vI 483 0), (vI 0 0), (vR 591), (vI 486 0), (vI 0 0), (vR 598), (vI 495 0), (vI 0 0), (vR 603), (vI 505 0), (vI 0 0), (vR 608), (vI 516 0), (vI 0 0), (vR 615), (vI 520 0), (vI 0 0), (vR 622), (vI 522 0), (vI 0 0), (vR 629), (vI 526 0), (vI 0 0), (vR 636), (vI 531 0), (vI 0 0), (vR 643), (vI 533 0), (vI 0 0), (vR 650), (vI 539 0), (vI 0 0), (vR 657), (vI 545 0), (vI 0 0), (vR 664), (vI 550 0), (vI 0 0), (vR 671), (vI 565 0), (vI 0 0), (vR 678), (vI 567 0), (vI 0 0), (vR 685), (vI 573 0), (vI 0 0), (vR 692), (vI 575 0), (vI 0 0), (vR 699)])
noncomputable def o216 : Obj := oO (vT "tuple") (dS [(vS "page" 679)])
noncomputable def o217 : Obj := oO vN (.func (fD (tS 61) "end_row" 0 [] vN vN vN vN vN))
noncomputable def o218 : Obj := oO (vT "code") (dF [(vS "end_row" 676), (vS "end_row" 677), (vS "/claim/cut.py" 678), (vI 249 0), (vI 1 0), (vI 0 0), (vI 0 0), (vI 3 0), (vR 359), (.bool true), (vI 181 0), (vR 360), vN, (vR 361), (vR 362), (vR 363), (vI 680 0), (vI 249 0), (vS "/claim/cut.py" 681)])
noncomputable def o219 : Obj := oO (vT "function") (.func (fD (tS 61) "end_row" 3 [] vN vN (vS "basicplus.printing" 639) (vR 364) vN))
noncomputable def o220 : Obj := oO (vT "tuple") (dS [(vS "page" 686), (vS "text" 687), (vS "width" 688)])
noncomputable def o221 : Obj := oO vN (.func (fD (tS 62) "write_text" 0 [] vN vN vN vN vN))
noncomputable def o222 : Obj := oO (vT "code") (dF [(vS "write_text" 683), (vS "write_text" 684), (vS "/claim/cut.py" 685), (vI 252 0), (vI 3 0), (vI 0 0), (vI 0 0), (vI 3 0), (vR 366), (.bool true), (vI 181 0), (vR 367), vN, (vR 368), (vR 369), (vR 370), (vI 689 0), (vI 252 0), (vS "/claim/cut.py" 690)])
noncomputable def o223 : Obj := oO (vT "function") (.func (fD (tS 62) "write_text" 3 [] vN vN (vS "basicplus.printing" 639) (vR 371) vN))
noncomputable def o224 : Obj := oO (vT "tuple") (dS [(vS "page" 696), (vS "zone" 697), (vS "width" 698), (vS "column" 699)])
noncomputable def o225 : Obj := oO vN (.func (fD (tS 64) "write_zone" 0 [] vN vN vN vN vN))
noncomputable def o226 : Obj := oO (vT "code") (dF [(vS "write_zone" 693), (vS "write_zone" 694), (vS "/claim/cut.py" 695), (vI 260 0), (vI 3 0), (vI 0 0), (vI 0 0), (vI 3 0), (vR 373), (.bool true), (vI 181 0), (vR 374), vN, (vR 375), (vR 376), (vR 377), (vI 700 0), (vI 260 0), (vS "/claim/cut.py" 701)])
noncomputable def o227 : Obj := oO (vT "function") (.func (fD (tS 64) "write_zone" 3 [] vN vN (vS "basicplus.printing" 639) (vR 378) vN))
noncomputable def o228 : Obj := oO (vT "tuple") (dS [(vS "many" 706), (vS "width" 707)])
noncomputable def o229 : Obj := oO vN (.func (fD (tS 65) "within_row" 0 [] vN vN vN vN vN))
noncomputable def o230 : Obj := oO (vT "code") (dF [(vS "within_row" 703), (vS "within_row" 704), (vS "/claim/cut.py" 705), (vI 266 0), (vI 2 0), (vI 0 0), (vI 0 0), (vI 3 0), (vR 380), (.bool true), (vI 181 0), (vR 381), vN, (vR 382), (vR 383), (vR 384), (vI 708 0), (vI 266 0), (vS "/claim/cut.py" 709)])
noncomputable def o231 : Obj := oO (vT "function") (.func (fD (tS 65) "within_row" 3 [] vN vN (vS "basicplus.printing" 639) (vR 385) vN))
noncomputable def o232 : Obj := oO (vT "tuple") (dS [(vS "page" 714), (vS "many" 715), (vS "width" 716)])
noncomputable def o233 : Obj := oO vN (.func (fD (tS 66) "write_blanks" 0 [] vN vN vN vN vN))
noncomputable def o234 : Obj := oO (vT "code") (dF [(vS "write_blanks" 711), (vS "write_blanks" 712), (vS "/claim/cut.py" 713), (vI 270 0), (vI 3 0), (vI 0 0), (vI 0 0), (vI 3 0), (vR 387), (.bool true), (vI 181 0), (vR 388), vN, (vR 389), (vR 390), (vR 391), (vI 717 0), (vI 270 0), (vS "/claim/cut.py" 718)])
noncomputable def o235 : Obj := oO (vT "function") (.func (fD (tS 66) "write_blanks" 3 [] vN vN (vS "basicplus.printing" 639) (vR 392) vN))
noncomputable def o236 : Obj := oO (vT "tuple") (dS [(vS "page" 723), (vS "column" 724), (vS "width" 725), (vS "goal" 726)])
noncomputable def o237 : Obj := oO vN (.func (fD (tS 67) "write_tab" 0 [] vN vN vN vN vN))
noncomputable def o238 : Obj := oO (vT "code") (dF [(vS "write_tab" 720), (vS "write_tab" 721), (vS "/claim/cut.py" 722), (vI 272 0), (vI 3 0), (vI 0 0), (vI 0 0), (vI 3 0), (vR 394), (.bool true), (vI 181 0), (vR 395), vN, (vR 396), (vR 397), (vR 398), (vI 727 0), (vI 272 0), (vS "/claim/cut.py" 728)])
noncomputable def o239 : Obj := oO (vT "function") (.func (fD (tS 67) "write_tab" 3 [] vN vN (vS "basicplus.printing" 639) (vR 399) vN))
noncomputable def o240 : Obj := oO (vT "tuple") (dS [(vS "page" 733), (vS "part" 734), (vS "zone" 735), (vS "width" 736), (vS "kind" 737)])
noncomputable def o241 : Obj := oO vN (.func (fD (tS 68) "write_part" 0 [] vN vN vN vN vN))
noncomputable def o242 : Obj := oO (vT "code") (dF [(vS "write_part" 730), (vS "write_part" 731), (vS "/claim/cut.py" 732), (vI 279 0), (vI 4 0), (vI 0 0), (vI 0 0), (vI 3 0), (vR 401), (.bool true), (vI 181 0), (vR 402), vN, (vR 403), (vR 404), (vR 405), (vI 738 0), (vI 279 0), (vS "/claim/cut.py" 739)])
noncomputable def o243 : Obj := oO (vT "function") (.func (fD (tS 68) "write_part" 3 [] vN vN (vS "basicplus.printing" 639) (vR 406) vN))
noncomputable def o244 : Obj := oO (vT "tuple") (dS [(vS "page" 744), (vS "parts" 745), (vS "zone" 746), (vS "width" 747), (vS "is_ended" 748), (vS "part" 749)])
noncomputable def o245 : Obj := oO vN (.func (fD (tS 69) "write_parts" 0 [] vN vN vN vN vN))
noncomputable def o246 : Obj := oO (vT "code") (dF [(vS "write_parts" 741), (vS "write_parts" 742), (vS "/claim/cut.py" 743), (vI 293 0), (vI 4 0), (vI 0 0), (vI 0 0), (vI 3 0), (vR 408), (.bool true), (vI 181 0), (vR 409), vN, (vR 410), (vR 411), (vR 412), (vI 750 0), (vI 293 0), (vS "/claim/cut.py" 751)])
noncomputable def o247 : Obj := oO (vT "function") (.func (fD (tS 69) "write_parts" 3 [] vN vN (vS "basicplus.printing" 639) (vR 413) vN))
noncomputable def o248 (P : Params) : Obj := oO (vT "dict") (.dict (List.toArray [dE P "__module__" 762 (vS "basicplus.using" 753), dE P "__qualname__" 764 (vS "Picture" 763), dE P "__firstlineno__" 766 (vI 300 765), dE P "__init__" 773 (vR 428), dE P "__static_attributes__" 782 (vR 429)]) 5)
noncomputable def o249 : Obj := oO vN (dF [(vI 302 0), (vI 4 0), (vR 427)])
noncomputable def o250 : Obj := oO (vT "code") (dF [(vS "Picture" 757), (vS "Picture" 758), (vS "/claim/cut.py" 759), (vI 300 0), (vI 0 0), (vI 0 0), (vI 0 0), (vI 0 0), (vR 418), (.bool false), (vI 181 0), (vR 419), vN, vN, vN, vN, (vI 760 0), (vI 300 0), (vS "/claim/cut.py" 761)])
noncomputable def o251 : Obj := ⟨(vT "frame"), none, .plain, List.toArray [(some (vR 420)), (some (vR 3)), (some (vR 417)), none, (some (vS "basicplus.using" 753)), none, (some (vR 0))]⟩
noncomputable def o252 : Obj := oO (vT "tuple") (dS [(vS "self" 770)])
noncomputable def o253 : Obj := oO vN (.func (fD (mS 71 0) "Picture.__init__" 0 [] vN vN vN vN vN))
noncomputable def o254 : Obj := oO (vT "code") (dF [(vS "__init__" 767), (vS "Picture.__init__" 768), (vS "/claim/cut.py" 769), (vI 302 0), (vI 1 0), (vI 0 0), (vI 0 0), (vI 3 0), (vR 422), (.bool true), (vI 181 0), (vR 423), vN, (vR 424), (vR 425), (vR 426), (vI 771 0), (vI 302 0), (vS "/claim/cut.py" 772)])
noncomputable def o255 : Obj := oO (vT "function") (.func (fD (mS 71 0) "Picture.__init__" 3 [] vN vN (vS "basicplus.using" 753) (vR 427) vN))
noncomputable def o256 : Obj := oO (vT "tuple") (dS [(vS "has_comma" 774), (vS "has_dollar" 775), (vS "has_exponent" 776), (vS "has_point" 777), (vS "has_star" 778), (vS "left" 779), (vS "right" 780), (vS "sign" 781)])
noncomputable def o257 (P : Params) : Obj := oO (vT "dict") (.dict (List.toArray [dE P "__module__" 762 (vS "basicplus.using" 753), dE P "__firstlineno__" 766 (vI 300 765), dE P "__init__" 773 (vR 428), dE P "__static_attributes__" 782 (vR 429), dE P "__dict__" 784 (vR 432), dE P "__weakref__" 786 (vR 433), dE P "__doc__" 787 vN]) 4)
noncomputable def o258 : Obj := ⟨(vT "type"), none, (.cls ⟨Str.ofString "Picture", [(vT "object")], [(vR 431), (vT "object")], 430, Str.ofString "Picture", true, [], [], false, none, false⟩), List.toArray [none, none, (some (vS "Picture" 755)), (some (vS "Picture" 763)), (some (vB "object.__new__")), (some (.bool true))]⟩
noncomputable def o259 : Obj := oO (vT "getset_descriptor") (dF [(vS "__dict__" 783), (vR 431), (vB "function.__dict__"), (vB "function.__dict__#set")])
noncomputable def o260 : Obj := oO (vT "getset_descriptor") (dF [(vS "__weakref__" 785), (vR 431), (vB "ExceptionGroup.__weakref__"), vN])
noncomputable def o261 : Obj := oO (vT "super") (dF [(vR 431), (vR 431), (vR 431)])
noncomputable def o262 : Obj := oO (vT "builtin_function_or_method") (dF [(vB "object.__init_subclass__"), (vR 431)])
noncomputable def o263 : Obj := oO (vT "tuple") (dS [(vS "text" 793), (vS "at" 794)])
noncomputable def o264 : Obj := oO vN (.func (fD (tS 72) "begins_number" 0 [] vN vN vN vN vN))
noncomputable def o265 : Obj := oO (vT "code") (dF [(vS "begins_number" 790), (vS "begins_number" 791), (vS "/claim/cut.py" 792), (vI 311 0), (vI 2 0), (vI 0 0), (vI 0 0), (vI 3 0), (vR 436), (.bool true), (vI 181 0), (vR 437), vN, (vR 438), (vR 439), (vR 440), (vI 795 0), (vI 311 0), (vS "/claim/cut.py" 796)])
noncomputable def o266 : Obj := oO (vT "function") (.func (fD (tS 72) "begins_number" 3 [] vN vN (vS "basicplus.using" 753) (vR 441) vN))
noncomputable def o267 : Obj := oO (vT "tuple") (dS [(vS "picture" 801), (vS "text" 802), (vS "at" 803)])
noncomputable def o268 : Obj := oO vN (.func (fD (tS 73) "read_ahead" 0 [] vN vN vN vN vN))
noncomputable def o269 : Obj := oO (vT "code") (dF [(vS "read_ahead" 798), (vS "read_ahead" 799), (vS "/claim/cut.py" 800), (vI 315 0), (vI 3 0), (vI 0 0), (vI 0 0), (vI 3 0), (vR 443), (.bool true), (vI 181 0), (vR 444), vN, (vR 445), (vR 446), (vR 447), (vI 804 0), (vI 315 0), (vS "/claim/cut.py" 805)])
noncomputable def o270 : Obj := oO (vT "function") (.func (fD (tS 73) "read_ahead" 3 [] vN vN (vS "basicplus.using" 753) (vR 448) vN))
noncomputable def o271 : Obj := oO (vT "tuple") (dS [(vS "picture" 810), (vS "text" 811), (vS "at" 812)])
noncomputable def o272 : Obj := oO vN (.func (fD (tS 74) "read_places" 0 [] vN vN vN vN vN))
noncomputable def o273 : Obj := oO (vT "code") (dF [(vS "read_places" 807), (vS "read_places" 808), (vS "/claim/cut.py" 809), (vI 325 0), (vI 3 0), (vI 0 0), (vI 0 0), (vI 3 0), (vR 450), (.bool true), (vI 181 0), (vR 451), vN, (vR 452), (vR 453), (vR 454), (vI 813 0), (vI 325 0), (vS "/claim/cut.py" 814)])
noncomputable def o274 : Obj := oO (vT "function") (.func (fD (tS 74) "read_places" 3 [] vN vN (vS "basicplus.using" 753) (vR 455) vN))
noncomputable def o275 : Obj := oO (vT "tuple") (dS [(vS "text" 819), (vS "at" 820), (vS "picture" 821)])
noncomputable def o276 : Obj := oO vN (.func (fD (tS 75) "read_picture" 0 [] vN vN vN vN vN))
noncomputable def o277 : Obj := oO (vT "code") (dF [(vS "read_picture" 816), (vS "read_picture" 817), (vS "/claim/cut.py" 818), (vI 334 0), (vI 2 0), (vI 0 0), (vI 0 0), (vI 3 0), (vR 457), (.bool true), (vI 181 0), (vR 458), vN, (vR 459), (vR 460), (vR 461), (vI 822 0), (vI 334 0), (vS "/claim/cut.py" 823)])
noncomputable def o278 : Obj := oO (vT "function") (.func (fD (tS 75) "read_picture" 3 [] vN vN (vS "basicplus.using" 753) (vR 462) vN))
noncomputable def o279 : Obj := oO (vT "tuple") (dS [(vS "text" 828), (vS "found" 829), (vS "plain" 830), (vS "at" 831), (vS "piece" 832), (vS "end" 833)])
noncomputable def o280 : Obj := oO vN (.func (fD (tS 76) "read_pieces" 0 [] vN vN vN vN vN))
noncomputable def o281 : Obj := oO (vT "code") (dF [(vS "read_pieces" 825), (vS "read_pieces" 826), (vS "/claim/cut.py" 827), (vI 342 0), (vI 1 0), (vI 0 0), (vI 0 0), (vI 3 0), (vR 464), (.bool true), (vI 181 0), (vR 465), vN, (vR 466), (vR 467), (vR 468), (vI 834 0), (vI 342 0), (vS "/claim/cut.py" 835)])
noncomputable def o282 : Obj := oO (vT "function") (.func (fD (tS 76) "read_pieces" 3 [] vN vN (vS "basicplus.using" 753) (vR 469) vN))
noncomputable def o283 : Obj := oO (vT "tuple") (dS [(vS "text" 840), (vS "at" 841), (vS "sign" 842), (vS "end" 843)])
noncomputable def o284 : Obj := oO vN (.func (fD (tS 77) "piece_at" 0 [] vN vN vN vN vN))
noncomputable def o285 : Obj := oO (vT "code") (dF [(vS "piece_at" 837), (vS "piece_at" 838), (vS "/claim/cut.py" 839), (vI 354 0), (vI 2 0), (vI 0 0), (vI 0 0), (vI 3 0), (vR 471), (.bool true), (vI 181 0), (vR 472), vN, (vR 473), (vR 474), (vR 475), (vI 844 0), (vI 354 0), (vS "/claim/cut.py" 845)])
noncomputable def o286 : Obj := oO (vT "function") (.func (fD (tS 77) "piece_at" 3 [] vN vN (vS "basicplus.using" 753) (vR 476) vN))
noncomputable def o287 : Obj := oO (vT "tuple") (dS [(vS "number" 850), (vS "many" 851), (vS "found" 852)])
noncomputable def o288 : Obj := oO vN (.func (fD (tS 78) "padded_figures" 0 [] vN vN vN vN vN))
noncomputable def o289 : Obj := oO (vT "code") (dF [(vS "padded_figures" 847), (vS "padded_figures" 848), (vS "/claim/cut.py" 849), (vI 370 0), (vI 2 0), (vI 0 0), (vI 0 0), (vI 3 0), (vR 478), (.bool true), (vI 181 0), (vR 479), vN, (vR 480), (vR 481), (vR 482), (vI 853 0), (vI 370 0), (vS "/claim/cut.py" 854)])
noncomputable def o290 : Obj := oO (vT "function") (.func (fD (tS 78) "padded_figures" 3 [] vN vN (vS "basicplus.using" 753) (vR 483) vN))
noncomputable def o291 : Obj := oO (vT "tuple") (dS [(vS "size" 859), (vS "exponent" 860), (vS "places" 861)])
noncomputable def o292 : Obj := oO vN (.func (fD (tS 79) "scaled" 0 [] vN vN vN vN vN))
noncomputable def o293 : Obj := oO (vT "code") (dF [(vS "scaled" 856), (vS "scaled" 857), (vS "/claim/cut.py" 858), (vI 375 0), (vI 3 0), (vI 0 0), (vI 0 0), (vI 3 0), (vR 485), (.bool true), (vI 181 0), (vR 486), vN, (vR 487), (vR 488), (vR 489), (vI 862 0), (vI 375 0), (vS "/claim/cut.py" 863)])
noncomputable def o294 : Obj := oO (vT "function") (.func (fD (tS 79) "scaled" 3 [] vN vN (vS "basicplus.using" 753) (vR 490) vN))
noncomputable def o295 : Obj := oO (vT "tuple") (dS [(vS "figures" 868), (vS "found" 869)])
noncomputable def o296 : Obj := oO vN (.func (fD (tS 80) "grouped" 0 [] vN vN vN vN vN))
noncomputable def o297 : Obj := oO (vT "code") (dF [(vS "grouped" 865), (vS "grouped" 866), (vS "/claim/cut.py" 867), (vI 379 0), (vI 1 0), (vI 0 0), (vI 0 0), (vI 3 0), (vR 492), (.bool true), (vI 181 0), (vR 493), vN, (vR 494), (vR 495), (vR 496), (vI 870 0), (vI 379 0), (vS "/claim/cut.py" 871)])
noncomputable def o298 : Obj := oO (vT "function") (.func (fD (tS 80) "grouped" 3 [] vN vN (vS "basicplus.using" 753) (vR 497) vN))
noncomputable def o299 : Obj := oO (vT "tuple") (dS [(vS "units" 876), (vS "places" 877), (vS "figures" 878)])
noncomputable def o300 : Obj := oO vN (.func (fD (tS 81) "split_figures" 0 [] vN vN vN vN vN))
noncomputable def o301 : Obj := oO (vT "code") (dF [(vS "split_figures" 873), (vS "split_figures" 874), (vS "/claim/cut.py" 875), (vI 385 0), (vI 2 0), (vI 0 0), (vI 0 0), (vI 3 0), (vR 499), (.bool true), (vI 181 0), (vR 500), vN, (vR 501), (vR 502), (vR 503), (vI 879 0), (vI 385 0), (vS "/claim/cut.py" 880)])
noncomputable def o302 : Obj := oO (vT "function") (.func (fD (tS 81) "split_figures" 3 [] vN vN (vS "basicplus.using" 753) (vR 504) vN))
noncomputable def o303 : Obj := oO (vT "tuple") (dS [(vS "picture" 885), (vS "size" 886), (vS "exponent" 887), (vS "places" 888), (vS "many" 889), (vS "lift" 890), (vS "units" 891), (vS "figures" 892), (vS "told" 893)])
noncomputable def o304 : Obj := oO vN (.func (fD (tS 82) "with_exponent" 0 [] vN vN vN vN vN))
noncomputable def o305 : Obj := oO (vT "code") (dF [(vS "with_exponent" 882), (vS "with_exponent" 883), (vS "/claim/cut.py" 884), (vI 388 0), (vI 3 0), (vI 0 0), (vI 0 0), (vI 3 0), (vR 506), (.bool true), (vI 181 0), (vR 507), vN, (vR 508), (vR 509), (vR 510), (vI 894 0), (vI 388 0), (vS "/claim/cut.py" 895)])
noncomputable def o306 : Obj := oO (vT "function") (.func (fD (tS 82) "with_exponent" 3 [] vN vN (vS "basicplus.using" 753) (vR 511) vN))
noncomputable def o307 : Obj := oO (vT "tuple") (dS [(vS "picture" 900), (vS "is_below" 901)])
noncomputable def o308 : Obj := oO vN (.func (fD (tS 83) "lead_of" 0 [] vN vN vN vN vN))
noncomputable def o309 : Obj := oO (vT "code") (dF [(vS "lead_of" 897), (vS "lead_of" 898), (vS "/claim/cut.py" 899), (vI 401 0), (vI 2 0), (vI 0 0), (vI 0 0), (vI 3 0), (vR 513), (.bool true), (vI 181 0), (vR 514), vN, (vR 515), (vR 516), (vR 517), (vI 902 0), (vI 401 0), (vS "/claim/cut.py" 903)])
noncomputable def o310 : Obj := oO (vT "function") (.func (fD (tS 83) "lead_of" 3 [] vN vN (vS "basicplus.using" 753) (vR 518) vN))
noncomputable def o311 : Obj := oO (vT "tuple") (dS [(vS "picture" 908), (vS "is_below" 909)])
noncomputable def o312 : Obj := oO vN (.func (fD (tS 84) "tail_of" 0 [] vN vN vN vN vN))
noncomputable def o313 : Obj := oO (vT "code") (dF [(vS "tail_of" 905), (vS "tail_of" 906), (vS "/claim/cut.py" 907), (vI 405 0), (vI 2 0), (vI 0 0), (vI 0 0), (vI 3 0), (vR 520), (.bool true), (vI 181 0), (vR 521), vN, (vR 522), (vR 523), (vR 524), (vI 910 0), (vI 405 0), (vS "/claim/cut.py" 911)])
noncomputable def o314 : Obj := oO (vT "function") (.func (fD (tS 84) "tail_of" 3 [] vN vN (vS "basicplus.using" 753) (vR 525) vN))
noncomputable def o315 : Obj := oO (vT "tuple") (dS [(vS "picture" 916), (vS "value" 917), (vS "coefficient" 918), (vS "exponent" 919), (vS "size" 920), (vS "is_below" 921), (vS "told" 922), (vS "ahead" 923), (vS "behind" 924), (vS "lead" 925), (vS "width" 926), (vS "room" 927), (vS "filled" 928), (vS "whole" 929)])
noncomputable def o316 : Obj := oO vN (.func (fD (tS 85) "number_by" 0 [] vN vN vN vN vN))
noncomputable def o317 : Obj := oO (vT "code") (dF [(vS "number_by" 913), (vS "number_by" 914), (vS "/claim/cut.py" 915), (vI 409 0), (vI 2 0), (vI 0 0), (vI 0 0), (vI 3 0), (vR 527), (.bool true), (vI 181 0), (vR 528), vN, (vR 529), (vR 530), (vR 531), (vI 930 0), (vI 409 0), (vS "/claim/cut.py" 931)])
noncomputable def o318 : Obj := oO (vT "function") (.func (fD (tS 85) "number_by" 3 [] vN vN (vS "basicplus.using" 753) (vR 532) vN))
noncomputable def o319 : Obj := oO (vT "tuple") (dS [(vS "piece" 936), (vS "value" 937)])
noncomputable def o320 : Obj := oO vN (.func (fD (tS 86) "value_by" 0 [] vN vN vN vN vN))
noncomputable def o321 : Obj := oO (vT "code") (dF [(vS "value_by" 933), (vS "value_by" 934), (vS "/claim/cut.py" 935), (vI 426 0), (vI 2 0), (vI 0 0), (vI 0 0), (vI 3 0), (vR 534), (.bool true), (vI 181 0), (vR 535), vN, (vR 536), (vR 537), (vR 538), (vI 938 0), (vI 426 0), (vS "/claim/cut.py" 939)])
noncomputable def o322 : Obj := oO (vT "function") (.func (fD (tS 86) "value_by" 3 [] vN vN (vS "basicplus.using" 753) (vR 539) vN))
noncomputable def o323 : Obj := oO (vT "tuple") (dS [(vS "piece" 944)])
noncomputable def o324 : Obj := oO vN (.func (fD (tS 87) "is_plain" 0 [] vN vN vN vN vN))
noncomputable def o325 : Obj := oO (vT "code") (dF [(vS "is_plain" 941), (vS "is_plain" 942), (vS "/claim/cut.py" 943), (vI 438 0), (vI 1 0), (vI 0 0), (vI 0 0), (vI 3 0), (vR 541), (.bool true), (vI 181 0), (vR 542), vN, (vR 543), (vR 544), (vR 545), (vI 945 0), (vI 438 0), (vS "/claim/cut.py" 946)])
noncomputable def o326 : Obj := oO (vT "function") (.func (fD (tS 87) "is_plain" 3 [] vN vN (vS "basicplus.using" 753) (vR 546) vN))
noncomputable def o327 : Obj := oO vN (.func (fD (tS 88) "using_text" 0 [] vN vN vN vN vN))
noncomputable def o328 : Obj := oO (vT "code") (dF [(vS "using_text" 948), (vS "using_text" 949), (vS "/claim/cut.py" 950), (vI 440 0), (vI 2 0), (vI 0 0), (vI 0 0), (vI 3 0), (vR 548), (.bool true), (vI 181 0), (vR 549), vN, vN, vN, (vR 550), (vI 951 0), (vI 440 0), (vS "/claim/cut.py" 952)])
noncomputable def o329 : Obj := oO (vT "function") (.func (fD (tS 88) "using_text" 3 [] vN vN (vS "basicplus.using" 753) (vR 551) vN))
noncomputable def o330 : Obj := oO (vT "tuple") (dS [(vS "value" 959), (vS "digits" 960)])
noncomputable def o331 : Obj := oO vN (.func (fD (tS 90) "shown" 0 [] vN vN vN vN vN))
noncomputable def o332 : Obj := oO (vT "code") (dF [(vS "shown" 956), (vS "shown" 957), (vS "/claim/cut.py" 958), (vI 455 0), (vI 2 0), (vI 0 0), (vI 0 0), (vI 3 0), (vR 553), (.bool true), (vI 181 0), (vR 554), vN, (vR 555), (vR 556), (vR 557), (vI 961 0), (vI 455 0), (vS "/claim/cut.py" 962)])
noncomputable def o333 : Obj := oO (vT "function") (.func (fD (tS 90) "shown" 3 [] vN vN (vS "basicplus.rundo" 954) (vR 558) vN))
noncomputable def o334 : Obj := oO (vT "tuple") (dS [(vS "run" 967), (vS "items" 968), (vS "found" 969), (vS "item" 970)])
noncomputable def o335 : Obj := oO vN (.func (fD (tS 91) "print_parts" 0 [] vN vN vN vN vN))
noncomputable def o336 : Obj := oO (vT "code") (dF [(vS "print_parts" 964), (vS "print_parts" 965), (vS "/claim/cut.py" 966), (vI 459 0), (vI 2 0), (vI 0 0), (vI 0 0), (vI 3 0), (vR 560), (.bool true), (vI 181 0), (vR 561), vN, (vR 562), (vR 563), (vR 564), (vI 971 0), (vI 459 0), (vS "/claim/cut.py" 972)])
noncomputable def o337 : Obj := oO (vT "function") (.func (fD (tS 91) "print_parts" 3 [] vN vN (vS "basicplus.rundo" 954) (vR 565) vN))
noncomputable def o338 : Obj := oO (vT "tuple") (dS [(vS "run" 977), (vS "tree" 978), (vS "channel" 979)])
noncomputable def o339 : Obj := oO vN (.func (fD (tS 92) "channel_told" 0 [] vN vN vN vN vN))
noncomputable def o340 : Obj := oO (vT "code") (dF [(vS "channel_told" 974), (vS "channel_told" 975), (vS "/claim/cut.py" 976), (vI 469 0), (vI 2 0), (vI 0 0), (vI 0 0), (vI 3 0), (vR 567), (.bool true), (vI 181 0), (vR 568), vN, (vR 569), (vR 570), (vR 571), (vI 980 0), (vI 469 0), (vS "/claim/cut.py" 981)])
noncomputable def o341 : Obj := oO (vT "function") (.func (fD (tS 92) "channel_told" 3 [] vN vN (vS "basicplus.rundo" 954) (vR 572) vN))
noncomputable def o342 : Obj := oO (vT "tuple") (dS [(vS "run" 986), (vS "channel" 987), (vS "found" 988), (vS "text" 989)])
noncomputable def o343 : Obj := oO vN (.func (fD (tS 93) "unfinished" 0 [] vN vN vN vN vN))
noncomputable def o344 : Obj := oO (vT "code") (dF [(vS "unfinished" 983), (vS "unfinished" 984), (vS "/claim/cut.py" 985), (vI 475 0), (vI 2 0), (vI 0 0), (vI 0 0), (vI 3 0), (vR 574), (.bool true), (vI 181 0), (vR 575), vN, (vR 576), (vR 577), (vR 578), (vI 990 0), (vI 475 0), (vS "/claim/cut.py" 991)])
noncomputable def o345 : Obj := oO (vT "function") (.func (fD (tS 93) "unfinished" 3 [] vN vN (vS "basicplus.rundo" 954) (vR 579) vN))
noncomputable def o346 : Obj := oO (vT "tuple") (dS [(vS "run" 996), (vS "channel" 997), (vS "page" 998)])
noncomputable def o347 : Obj := oO vN (.func (fD (tS 94) "file_page" 0 [] vN vN vN vN vN))
noncomputable def o348 : Obj := oO (vT "code") (dF [(vS "file_page" 993), (vS "file_page" 994), (vS "/claim/cut.py" 995), (vI 479 0), (vI 2 0), (vI 0 0), (vI 0 0), (vI 3 0), (vR 581), (.bool true), (vI 181 0), (vR 582), vN, (vR 583), (vR 584), (vR 585), (vI 999 0), (vI 479 0), (vS "/claim/cut.py" 1000)])
noncomputable def o349 : Obj := oO (vT "function") (.func (fD (tS 94) "file_page" 3 [] vN vN (vS "basicplus.rundo" 954) (vR 586) vN))
noncomputable def o350 : Obj := oO vN (.func (fD (tS 95) "write_page" 0 [] vN vN vN vN vN))
noncomputable def o351 : Obj := oO (vT "code") (dF [(vS "write_page" 1002), (vS "write_page" 1003), (vS "/claim/cut.py" 1004), (vI 483 0), (vI 3 0), (vI 0 0), (vI 0 0), (vI 3 0), (vR 588), (.bool true), (vI 181 0), (vR 589), vN, vN, vN, (vR 590), (vI 1005 0), (vI 483 0), (vS "/claim/cut.py" 1006)])
noncomputable def o352 : Obj := oO (vT "function") (.func (fD (tS 95) "write_page" 3 [] vN vN (vS "basicplus.rundo" 954) (vR 591) vN))
noncomputable def o353 : Obj := oO (vT "tuple") (dS [(vS "run" 1011), (vS "statement" 1012), (vS "channel" 1013), (vS "parts" 1014), (vS "page" 1015)])
noncomputable def o354 : Obj := oO vN (.func (fD (tS 96) "do_print" 0 [] vN vN vN vN vN))
noncomputable def o355 : Obj := oO (vT "code") (dF [(vS "do_print" 1008), (vS "do_print" 1009), (vS "/claim/cut.py" 1010), (vI 486 0), (vI 2 0), (vI 0 0), (vI 0 0), (vI 3 0), (vR 593), (.bool true), (vI 181 0), (vR 594), vN, (vR 595), (vR 596), (vR 597), (vI 1016 0), (vI 486 0), (vS "/claim/cut.py" 1017)])
noncomputable def o356 : Obj := oO (vT "function") (.func (fD (tS 96) "do_print" 3 [] vN vN (vS "basicplus.rundo" 954) (vR 598) vN))
noncomputable def o357 : Obj := oO vN (.func (fD (tS 97) "do_using" 0 [] vN vN vN vN vN))
noncomputable def o358 : Obj := oO (vT "code") (dF [(vS "do_using" 1019), (vS "do_using" 1020), (vS "/claim/cut.py" 1021), (vI 495 0), (vI 2 0), (vI 0 0), (vI 0 0), (vI 3 0), (vR 600), (.bool true), (vI 181 0), (vR 601), vN, vN, vN, (vR 602), (vI 1022 0), (vI 495 0), (vS "/claim/cut.py" 1023)])
noncomputable def o359 : Obj := oO (vT "function") (.func (fD (tS 97) "do_using" 3 [] vN vN (vS "basicplus.rundo" 954) (vR 603) vN))
noncomputable def o360 : Obj := oO vN (.func (fD (tS 98) "do_write" 0 [] vN vN vN vN vN))
noncomputable def o361 : Obj := oO (vT "code") (dF [(vS "do_write" 1025), (vS "do_write" 1026), (vS "/claim/cut.py" 1027), (vI 505 0), (vI 2 0), (vI 0 0), (vI 0 0), (vI 3 0), (vR 605), (.bool true), (vI 181 0), (vR 606), vN, vN, vN, (vR 607), (vI 1028 0), (vI 505 0), (vS "/claim/cut.py" 1029)])
noncomputable def o362 : Obj := oO (vT "function") (.func (fD (tS 98) "do_write" 3 [] vN vN (vS "basicplus.rundo" 954) (vR 608) vN))
noncomputable def o363 : Obj := oO (vT "tuple") (dS [(vS "value" 1036)])
noncomputable def o364 : Obj := oO vN (.func (fD (tS 100) "is_whole" 0 [] vN vN vN vN vN))
noncomputable def o365 : Obj := oO (vT "code") (dF [(vS "is_whole" 1033), (vS "is_whole" 1034), (vS "/claim/cut.py" 1035), (vI 516 0), (vI 1 0), (vI 0 0), (vI 0 0), (vI 3 0), (vR 610), (.bool true), (vI 181 0), (vR 611), vN, (vR 612), (vR 613), (vR 614), (vI 1037 0), (vI 516 0), (vS "/claim/cut.py" 1038)])
noncomputable def o366 : Obj := oO (vT "function") (.func (fD (tS 100) "is_whole" 3 [] vN vN (vS "basicplus.arith" 1031) (vR 615) vN))
noncomputable def o367 : Obj := oO (vT "tuple") (dS [(vS "number" 1043), (vS "bits" 1044), (vS "digits" 1045)])
noncomputable def o368 : Obj := oO vN (.func (fD (tS 101) "settled" 0 [] vN vN vN vN vN))
noncomputable def o369 : Obj := oO (vT "code") (dF [(vS "settled" 1040), (vS "settled" 1041), (vS "/claim/cut.py" 1042), (vI 520 0), (vI 3 0), (vI 0 0), (vI 0 0), (vI 3 0), (vR 617), (.bool true), (vI 181 0), (vR 618), vN, (vR 619), (vR 620), (vR 621), (vI 1046 0), (vI 520 0), (vS "/claim/cut.py" 1047)])
noncomputable def o370 : Obj := oO (vT "function") (.func (fD (tS 101) "settled" 3 [] vN vN (vS "basicplus.arith" 1031) (vR 622) vN))
noncomputable def o371 : Obj := oO (vT "tuple") (dS [(vS "op" 1052), (vS "a" 1053), (vS "b" 1054), (vS "bits" 1055), (vS "digits" 1056)])
noncomputable def o372 : Obj := oO vN (.func (fD (tS 102) "whole_reckoned" 0 [] vN vN vN vN vN))
noncomputable def o373 : Obj := oO (vT "code") (dF [(vS "whole_reckoned" 1049), (vS "whole_reckoned" 1050), (vS "/claim/cut.py" 1051), (vI 522 0), (vI 5 0), (vI 0 0), (vI 0 0), (vI 3 0), (vR 624), (.bool true), (vI 181 0), (vR 625), vN, (vR 626), (vR 627), (vR 628), (vI 1057 0), (vI 522 0), (vS "/claim/cut.py" 1058)])
noncomputable def o374 : Obj := oO (vT "function") (.func (fD (tS 102) "whole_reckoned" 3 [] vN vN (vS "basicplus.arith" 1031) (vR 629) vN))
noncomputable def o375 : Obj := oO (vT "tuple") (dS [(vS "a" 1063), (vS "b" 1064), (vS "found" 1065)])
noncomputable def o376 : Obj := oO vN (.func (fD (tS 103) "cut_quotient" 0 [] vN vN vN vN vN))
noncomputable def o377 : Obj := oO (vT "code") (dF [(vS "cut_quotient" 1060), (vS "cut_quotient" 1061), (vS "/claim/cut.py" 1062), (vI 526 0), (vI 2 0), (vI 0 0), (vI 0 0), (vI 3 0), (vR 631), (.bool true), (vI 181 0), (vR 632), vN, (vR 633), (vR 634), (vR 635), (vI 1066 0), (vI 526 0), (vS "/claim/cut.py" 1067)])
noncomputable def o378 : Obj := oO (vT "function") (.func (fD (tS 103) "cut_quotient" 3 [] vN vN (vS "basicplus.arith" 1031) (vR 636) vN))
noncomputable def o379 : Obj := oO (vT "tuple") (dS [(vS "a" 1072), (vS "b" 1073)])
noncomputable def o380 : Obj := oO vN (.func (fD (tS 104) "cut_rest" 0 [] vN vN vN vN vN))
noncomputable def o381 : Obj := oO (vT "code") (dF [(vS "cut_rest" 1069), (vS "cut_rest" 1070), (vS "/claim/cut.py" 1071), (vI 531 0), (vI 2 0), (vI 0 0), (vI 0 0), (vI 3 0), (vR 638), (.bool true), (vI 181 0), (vR 639), vN, (vR 640), (vR 641), (vR 642), (vI 1074 0), (vI 531 0), (vS "/claim/cut.py" 1075)])
noncomputable def o382 : Obj := oO (vT "function") (.func (fD (tS 104) "cut_rest" 3 [] vN vN (vS "basicplus.arith" 1031) (vR 643) vN))
noncomputable def o383 : Obj := oO (vT "tuple") (dS [(vS "value" 1080)])
noncomputable def o384 : Obj := oO vN (.func (fD (tS 105) "exponent_of" 0 [] vN vN vN vN vN))
noncomputable def o385 : Obj := oO (vT "code") (dF [(vS "exponent_of" 1077), (vS "exponent_of" 1078), (vS "/claim/cut.py" 1079), (vI 533 0), (vI 1 0), (vI 0 0), (vI 0 0), (vI 3 0), (vR 645), (.bool true), (vI 181 0), (vR 646), vN, (vR 647), (vR 648), (vR 649), (vI 1081 0), (vI 533 0), (vS "/claim/cut.py" 1082)])
noncomputable def o386 : Obj := oO (vT "function") (.func (fD (tS 105) "exponent_of" 3 [] vN vN (vS "basicplus.arith" 1031) (vR 650) vN))
noncomputable def o387 : Obj := oO (vT "tuple") (dS [(vS "a" 1087), (vS "n" 1088), (vS "bits" 1089), (vS "digits" 1090)])
noncomputable def o388 : Obj := oO vN (.func (fD (tS 106) "whole_power" 0 [] vN vN vN vN vN))
noncomputable def o389 : Obj := oO (vT "code") (dF [(vS "whole_power" 1084), (vS "whole_power" 1085), (vS "/claim/cut.py" 1086), (vI 539 0), (vI 4 0), (vI 0 0), (vI 0 0), (vI 3 0), (vR 652), (.bool true), (vI 181 0), (vR 653), vN, (vR 654), (vR 655), (vR 656), (vI 1091 0), (vI 539 0), (vS "/claim/cut.py" 1092)])
noncomputable def o390 : Obj := oO (vT "function") (.func (fD (tS 106) "whole_power" 3 [] vN vN (vS "basicplus.arith" 1031) (vR 657) vN))
noncomputable def o391 : Obj := oO (vT "tuple") (dS [(vS "a" 1097), (vS "b" 1098), (vS "bits" 1099), (vS "digits" 1100), (vS "n" 1101)])
noncomputable def o392 : Obj := oO vN (.func (fD (tS 107) "raised" 0 [] vN vN vN vN vN))
noncomputable def o393 : Obj := oO (vT "code") (dF [(vS "raised" 1094), (vS "raised" 1095), (vS "/claim/cut.py" 1096), (vI 545 0), (vI 4 0), (vI 0 0), (vI 0 0), (vI 3 0), (vR 659), (.bool true), (vI 181 0), (vR 660), vN, (vR 661), (vR 662), (vR 663), (vI 1102 0), (vI 545 0), (vS "/claim/cut.py" 1103)])
noncomputable def o394 : Obj := oO (vT "function") (.func (fD (tS 107) "raised" 3 [] vN vN (vS "basicplus.arith" 1031) (vR 664) vN))
noncomputable def o395 : Obj := oO (vT "tuple") (dS [(vS "op" 1108), (vS "a" 1109), (vS "b" 1110), (vS "bits" 1111), (vS "digits" 1112), (vS "is_first" 1113), (vS "is_second" 1114), (vS "work" 1115), (vS "one" 1116), (vS "other" 1117)])
noncomputable def o396 : Obj := oO vN (.func (fD (tS 108) "reckoned" 0 [] vN vN vN vN vN))
noncomputable def o397 : Obj := oO (vT "code") (dF [(vS "reckoned" 1105), (vS "reckoned" 1106), (vS "/claim/cut.py" 1107), (vI 550 0), (vI 5 0), (vI 0 0), (vI 0 0), (vI 3 0), (vR 666), (.bool true), (vI 181 0), (vR 667), vN, (vR 668), (vR 669), (vR 670), (vI 1118 0), (vI 550 0), (vS "/claim/cut.py" 1119)])
noncomputable def o398 : Obj := oO (vT "function") (.func (fD (tS 108) "reckoned" 3 [] vN vN (vS "basicplus.arith" 1031) (vR 671) vN))
noncomputable def o399 : Obj := oO (vT "tuple") (dS [(vS "a" 1124), (vS "bits" 1125), (vS "digits" 1126)])
noncomputable def o400 : Obj := oO vN (.func (fD (tS 109) "negated" 0 [] vN vN vN vN vN))
noncomputable def o401 : Obj := oO (vT "code") (dF [(vS "negated" 1121), (vS "negated" 1122), (vS "/claim/cut.py" 1123), (vI 565 0), (vI 3 0), (vI 0 0), (vI 0 0), (vI 3 0), (vR 673), (.bool true), (vI 181 0), (vR 674), vN, (vR 675), (vR 676), (vR 677), (vI 1127 0), (vI 565 0), (vS "/claim/cut.py" 1128)])
noncomputable def o402 : Obj := oO (vT "function") (.func (fD (tS 109) "negated" 3 [] vN vN (vS "basicplus.arith" 1031) (vR 678) vN))
noncomputable def o403 : Obj := oO (vT "tuple") (dS [(vS "a" 1133), (vS "b" 1134)])
noncomputable def o404 : Obj := oO vN (.func (fD (tS 110) "order_of" 0 [] vN vN vN vN vN))
noncomputable def o405 : Obj := oO (vT "code") (dF [(vS "order_of" 1130), (vS "order_of" 1131), (vS "/claim/cut.py" 1132), (vI 567 0), (vI 2 0), (vI 0 0), (vI 0 0), (vI 3 0), (vR 680), (.bool true), (vI 181 0), (vR 681), vN, (vR 682), (vR 683), (vR 684), (vI 1135 0), (vI 567 0), (vS "/claim/cut.py" 1136)])
noncomputable def o406 : Obj := oO (vT "function") (.func (fD (tS 110) "order_of" 3 [] vN vN (vS "basicplus.arith" 1031) (vR 685) vN))
noncomputable def o407 : Obj := oO (vT "tuple") (dS [(vS "a" 1141), (vS "bits" 1142)])
noncomputable def o408 : Obj := oO vN (.func (fD (tS 111) "inverted" 0 [] vN vN vN vN vN))
noncomputable def o409 : Obj := oO (vT "code") (dF [(vS "inverted" 1138), (vS "inverted" 1139), (vS "/claim/cut.py" 1140), (vI 573 0), (vI 2 0), (vI 0 0), (vI 0 0), (vI 3 0), (vR 687), (.bool true), (vI 181 0), (vR 688), vN, (vR 689), (vR 690), (vR 691), (vI 1143 0), (vI 573 0), (vS "/claim/cut.py" 1144)])
noncomputable def o410 : Obj := oO (vT "function") (.func (fD (tS 111) "inverted" 3 [] vN vN (vS "basicplus.arith" 1031) (vR 692) vN))
noncomputable def o411 : Obj := oO (vT "tuple") (dS [(vS "op" 1149), (vS "a" 1150), (vS "b" 1151), (vS "bits" 1152), (vS "one" 1153), (vS "other" 1154)])
noncomputable def o412 : Obj := oO vN (.func (fD (tS 112) "logic" 0 [] vN vN vN vN vN))
noncomputable def o413 : Obj := oO (vT "code") (dF [(vS "logic" 1146), (vS "logic" 1147), (vS "/claim/cut.py" 1148), (vI 575 0), (vI 4 0), (vI 0 0), (vI 0 0), (vI 3 0), (vR 694), (.bool true), (vI 181 0), (vR 695), vN, (vR 696), (vR 697), (vR 698), (vI 1155 0), (vI 575 0), (vS "/claim/cut.py" 1156)])
noncomputable def o414 : Obj := oO (vT "function") (.func (fD (tS 112) "logic" 3 [] vN vN (vS "basicplus.arith" 1031) (vR 699) vN))
noncomputable def t0 (P : Params) : BT := (bN (boot_o_0 P) (bN (boot_o_1 P) (bN (boot_o_3 P) (bN (boot_o_7 P) bO bO) (bN o0 bO bO)) (bN (boot_o_5 P) (bN (boot_o_9 P) bO bO) (bN o2 bO bO))) (bN (boot_o_2 P) (bN (boot_o_4 P) (bN (boot_o_8 P) bO bO) (bN o1 bO bO)) (bN (boot_o_6 P) (bN (boot_o_10 P) bO bO) (bN o3 bO bO))))
noncomputable def t1 (P : Params) : BT := (bN (boot_o_0 P) (bN (boot_o_1 P) (bN (o5 P) (bN (boot_o_7 P) (bN o0 (bN o19 (bN o40 (bN o77 (bN o151 bO bO) bO) (bN o114 (bN o187 bO bO) bO)) (bN o1 (bN o95 (bN o169 bO bO) bO) (bN o132 (bN o206 bO bO) bO))) (bN o31 (bN o50 (bN o0 (bN o1 bO bO) bO) (bN o0 (bN o196 bO bO) bO)) (bN o0 (bN o0 (bN o0 bO bO) bO) (bN o141 bO bO)))) (bN o12 (bN o25 (bN o45 (bN o82 (bN o0 bO bO) bO) (bN o119 (bN o0 bO bO) bO)) (bN o63 (bN o100 (bN o174 bO bO) bO) (bN o0 bO bO))) (bN o0 (bN o0 (bN o1 (bN o164 bO bO) bO) (bN o1 (bN o201 bO bO) bO)) (bN o72 (bN o109 (bN o1 bO bO) bO) (bN o146 bO bO))))) (bN o0 (bN o8 (bN o0 (bN o1 (bN o79 (bN o0 bO bO) bO) (bN o116 (bN o190 bO bO) bO)) (bN o61 (bN o98 (bN o171 bO bO) bO) (bN o135 (bN o210 bO bO) bO))) (bN o34 (bN o0 (bN o88 (bN o0 bO bO) bO) (bN o125 (bN o12 bO bO) bO)) (bN o0 (bN o0 (bN o180 bO bO) bO) (bN o1 bO bO)))) (bN o15 (bN o29 (bN o47 (bN o0 (bN o157 bO bO) bO) (bN o0 (bN o0 bO bO) bO)) (bN o66 (bN o103 (bN o0 bO bO) bO) (bN o0 bO bO))) (bN o0 (bN o56 (bN o93 (bN o1 bO bO) bO) (bN o130 (bN o203 bO bO) bO)) (bN o1 (bN o1 (bN o185 bO bO) bO) (bN o148 bO bO)))))) (bN (boot_o_5 P) (bN (boot_o_9 P) (bN o7 (bN o1 (bN o42 (bN o0 (bN o1 bO bO) bO) (bN o0 (bN o188 bO bO) bO)) (bN o0 (bN o96 (bN o0 bO bO) bO) (bN o133 (bN (o208 P) bO bO) bO))) (bN o32 (bN o1 (bN o87 (bN o161 bO bO) bO) (bN o124 (bN o198 bO bO) bO)) (bN o69 (bN o106 (bN o179 bO bO) bO) (bN o143 bO bO)))) (bN o14 (bN o27 (bN o0 (bN o1 (bN o156 bO bO) bO) (bN o1 (bN o193 bO bO) bO)) (bN o64 (bN o101 (bN o1 bO bO) bO) (bN o138 bO bO))) (bN o37 (bN o55 (bN o0 (bN o166 bO bO) bO) (bN o0 (bN o0 bO bO) bO)) (bN o74 (bN o111 (bN o0 bO bO) bO) (bN o0 bO bO))))) (bN o2 (bN o10 (bN o23 (bN o0 (bN o80 (bN o154 bO bO) bO) (bN o117 (bN o1 bO bO) bO)) (bN o0 (bN o0 (bN o172 bO bO) bO) (bN o1 (bN o212 bO bO) bO))) (bN o1 (bN o53 (bN o90 (bN o163 bO bO) bO) (bN o127 (bN o0 bO bO) bO)) (bN o71 (bN o108 (bN o182 bO bO) bO) (bN o0 bO bO)))) (bN o17 (bN o0 (bN o48 (bN o85 (bN o159 bO bO) bO) (bN o122 (bN o195 bO bO) bO)) (bN o1 (bN o1 (bN o177 bO bO) bO) (bN o140 bO bO))) (bN o39 (bN o58 (bN o0 (bN o0 bO bO) bO) (bN o0 (bN o204 bO bO) bO)) (bN o0 (bN o0 (bN o0 bO bO) bO) (bN o149 bO bO))))))) (bN (o4 P) (bN (boot_o_4 P) (bN (boot_o_8 P) (bN o1 (bN o20 (bN o41 (bN o78 (bN o0 bO bO) bO) (bN o115 (bN o0 bO bO) bO)) (bN o59 (bN o0 (bN o170 bO bO) bO) (bN o0 (bN o207 bO bO) bO))) (bN o0 (bN o0 (bN o1 (bN o160 bO bO) bO) (bN o1 (bN o197 bO bO) bO)) (bN o68 (bN o105 (bN o1 bO bO) bO) (bN o142 bO bO)))) (bN (o13 P) (bN (o26 P) (bN o46 (bN o0 (bN o1 bO bO) bO) (bN o0 (bN o192 bO bO) bO)) (bN o0 (bN o0 (bN o0 bO bO) bO) (bN o137 bO bO))) (bN o36 (bN o1 (bN o91 (bN o165 bO bO) bO) (bN o128 (bN o202 bO bO) bO)) (bN o73 (bN o110 (bN o183 bO bO) bO) (bN o147 bO bO))))) (bN o6 (bN o9 (bN o22 (bN o43 (bN o0 (bN o153 bO bO) bO) (bN o0 (bN o0 bO bO) bO)) (bN o62 (bN o99 (bN o0 bO bO) bO) (bN o0 (bN o211 bO bO) bO))) (bN o0 (bN o52 (bN o89 (bN o1 bO bO) bO) (bN o126 (bN (o199 P) bO bO) bO)) (bN o1 (bN o1 (bN o181 bO bO) bO) (bN o144 bO bO)))) (bN o16 (bN o30 (bN o0 (bN o84 (bN o158 bO bO) bO) (bN o121 (bN o1 bO bO) bO)) (bN o0 (bN o0 (bN o176 bO bO) bO) (bN o1 bO bO))) (bN o1 (bN o57 (bN o94 (bN o167 bO bO) bO) (bN o131 (bN o0 bO bO) bO)) (bN o75 (bN o112 (bN o186 bO bO) bO) (bN o0 bO bO)))))) (bN (boot_o_6 P) (bN (boot_o_10 P) (bN o0 (bN o21 (bN o0 (bN o1 (bN o152 bO bO) bO) (bN o1 (bN o189 bO bO) bO)) (bN o60 (bN o97 (bN o1 bO bO) bO) (bN o134 (bN o209 bO bO) bO))) (bN o33 (bN o51 (bN o0 (bN o162 bO bO) bO) (bN o0 (bN o0 bO bO) bO)) (bN o70 (bN o107 (bN o0 bO bO) bO) (bN o0 bO bO)))) (bN o0 (bN o28 (bN o1 (bN o83 (bN o0 bO bO) bO) (bN o120 (bN o194 bO bO) bO)) (bN o65 (bN o102 (bN o175 bO bO) bO) (bN o139 bO bO))) (bN o38 (bN o0 (bN o92 (bN o0 bO bO) bO) (bN o129 (bN o1 bO bO) bO)) (bN o0 (bN o0 (bN o184 bO bO) bO) (bN o1 bO bO))))) (bN o3 (bN o11 (bN o24 (bN o44 (bN o81 (bN o155 bO bO) bO) (bN o118 (bN o191 bO bO) bO)) (bN o1 (bN o1 (bN o173 bO bO) bO) (bN o136 (bN o213 bO bO) bO))) (bN o35 (bN o54 (bN o0 (bN o0 bO bO) bO) (bN o0 (bN o200 bO bO) bO)) (bN o0 (bN o0 (bN o0 bO bO) bO) (bN o145 bO bO)))) (bN o18 (bN o1 (bN o49 (bN o86 (bN o0 bO bO) bO) (bN o123 (bN o0 bO bO) bO)) (bN o67 (bN o104 (bN o178 bO bO) bO) (bN o0 bO bO))) (bN o0 (bN o0 (bN o1 (bN o168 bO bO) bO) (bN o1 (bN o205 bO bO) bO)) (bN o76 (bN o113 (bN o1 bO bO) bO) (bN o150 bO bO))))))))
noncomputable def t2 (P : Params) : BT := (bN (boot_o_0 P) (bN (boot_o_1 P) (bN (o214 P) (bN (boot_o_7 P) (bN o0 (bN o19 (bN o40 (bN o77 (bN o151 (bN o305 bO bO) bO) (bN o0 (bN o1 bO bO) bO)) (bN o114 (bN o187 (bN o1 bO bO) bO) (bN o268 bO bO))) (bN o1 (bN o95 (bN o169 (bN o323 bO bO) bO) (bN o0 (bN o397 bO bO) bO)) (bN o132 (bN o206 (bN o360 bO bO) bO) (bN o1 bO bO)))) (bN o31 (bN o50 (bN o0 (bN o1 (bN o0 bO bO) bO) (bN o238 (bN o0 bO bO) bO)) (bN o0 (bN o196 (bN o351 bO bO) bO) (bN o278 bO bO))) (bN o0 (bN o0 (bN o0 (bN o333 bO bO) bO) (bN o258 (bN o0 bO bO) bO)) (bN o141 (bN o1 (bN o370 bO bO) bO) (bN o0 bO bO))))) (bN o12 (bN o25 (bN o45 (bN o82 (bN o0 (bN o310 bO bO) bO) (bN o233 (bN o383 bO bO) bO)) (bN o119 (bN o0 (bN o346 bO bO) bO) (bN o273 bO bO))) (bN o63 (bN o100 (bN o174 (bN o328 bO bO) bO) (bN o1 (bN o402 bO bO) bO)) (bN o0 (bN o0 (bN o365 bO bO) bO) (bN o291 bO bO)))) (bN o0 (bN o0 (bN o1 (bN o164 (bN o1 bO bO) bO) (bN o243 (bN o392 bO bO) bO)) (bN o1 (bN o201 (bN o356 bO bO) bO) (bN o0 bO bO))) (bN o72 (bN o109 (bN o1 (bN o0 bO bO) bO) (bN o0 (bN o1 bO bO) bO)) (bN o146 (bN o224 (bN o0 bO bO) bO) (bN o300 bO bO)))))) (bN o0 (bN o8 (bN o0 (bN o1 (bN o79 (bN o0 (bN o307 bO bO) bO) (bN o0 (bN o381 bO bO) bO)) (bN o116 (bN o190 (bN o344 bO bO) bO) (bN o1 bO bO))) (bN o61 (bN o98 (bN o171 (bN o326 bO bO) bO) (bN o249 (bN o399 bO bO) bO)) (bN o135 (bN o210 (bN o1 bO bO) bO) (bN o289 bO bO)))) (bN o34 (bN o0 (bN o88 (bN o0 (bN o316 bO bO) bO) (bN o240 (bN o0 bO bO) bO)) (bN o125 (bN o12 (bN o353 bO bO) bO) (bN o0 bO bO))) (bN o0 (bN o0 (bN o180 (bN o0 bO bO) bO) (bN o262 (bN o408 bO bO) bO)) (bN o1 (bN o222 (bN o0 bO bO) bO) (bN o0 bO bO))))) (bN o15 (bN o29 (bN o47 (bN o0 (bN o157 (bN o0 bO bO) bO) (bN o1 (bN o386 bO bO) bO)) (bN o0 (bN o0 (bN o349 bO bO) bO) (bN o275 bO bO))) (bN o66 (bN o103 (bN o0 (bN o330 bO bO) bO) (bN o254 (bN o0 bO bO) bO)) (bN o0 (bN o217 (bN o367 bO bO) bO) (bN o294 bO bO)))) (bN o0 (bN o56 (bN o93 (bN o1 (bN o321 bO bO) bO) (bN o0 (bN o1 bO bO) bO)) (bN o130 (bN o203 (bN o358 bO bO) bO) (bN o284 bO bO))) (bN o1 (bN o1 (bN o185 (bN o339 bO bO) bO) (bN o0 (bN o413 bO bO) bO)) (bN o148 (bN o227 (bN o376 bO bO) bO) (bN o1 bO bO))))))) (bN (boot_o_5 P) (bN (boot_o_9 P) (bN o7 (bN o1 (bN o42 (bN o0 (bN o1 (bN o0 bO bO) bO) (bN o230 (bN o0 bO bO) bO)) (bN o0 (bN o188 (bN o0 bO bO) bO) (bN o270 bO bO))) (bN o0 (bN o96 (bN o0 (bN o324 bO bO) bO) (bN (o248 P) (bN o0 bO bO) bO)) (bN o133 (bN (o208 P) (bN o362 bO bO) bO) (bN o0 bO bO)))) (bN o32 (bN o1 (bN o87 (bN o161 (bN o315 bO bO) bO) (bN o0 (bN o389 bO bO) bO)) (bN o124 (bN o198 (bN o0 bO bO) bO) (bN o1 bO bO))) (bN o69 (bN o106 (bN o179 (bN o1 bO bO) bO) (bN o260 (bN o407 bO bO) bO)) (bN o143 (bN o0 (bN o1 bO bO) bO) (bN o297 bO bO))))) (bN o14 (bN o27 (bN o0 (bN o1 (bN o156 (bN o1 bO bO) bO) (bN o235 (bN o384 bO bO) bO)) (bN o1 (bN o193 (bN o347 bO bO) bO) (bN o0 bO bO))) (bN o64 (bN o101 (bN o1 (bN o0 bO bO) bO) (bN o0 (bN o1 bO bO) bO)) (bN o138 (bN o216 (bN o0 bO bO) bO) (bN o292 bO bO)))) (bN o37 (bN o55 (bN o0 (bN o166 (bN o0 bO bO) bO) (bN o1 (bN o394 bO bO) bO)) (bN o0 (bN o0 (bN o1 bO bO) bO) (bN o283 bO bO))) (bN o74 (bN o111 (bN o0 (bN o338 bO bO) bO) (bN o265 (bN o0 bO bO) bO)) (bN o0 (bN o225 (bN o375 bO bO) bO) (bN o302 bO bO)))))) (bN o2 (bN o10 (bN o23 (bN o0 (bN o80 (bN o154 (bN o308 bO bO) bO) (bN o232 (bN o0 bO bO) bO)) (bN o117 (bN o1 (bN o0 bO bO) bO) (bN o0 bO bO))) (bN o0 (bN o0 (bN o172 (bN o1 bO bO) bO) (bN o251 (bN o400 bO bO) bO)) (bN o1 (bN o212 (bN o0 bO bO) bO) (bN o0 bO bO)))) (bN o1 (bN o53 (bN o90 (bN o163 (bN o318 bO bO) bO) (bN o241 (bN o391 bO bO) bO)) (bN o127 (bN o0 (bN o354 bO bO) bO) (bN o281 bO bO))) (bN o71 (bN o108 (bN o182 (bN o336 bO bO) bO) (bN o1 (bN o410 bO bO) bO)) (bN o0 (bN o0 (bN o373 bO bO) bO) (bN o299 bO bO))))) (bN o17 (bN o0 (bN o48 (bN o85 (bN o159 (bN o313 bO bO) bO) (bN o0 (bN o1 bO bO) bO)) (bN o122 (bN o195 (bN o1 bO bO) bO) (bN o276 bO bO))) (bN o1 (bN o1 (bN o177 (bN o331 bO bO) bO) (bN o256 (bN o405 bO bO) bO)) (bN o140 (bN o219 (bN o368 bO bO) bO) (bN o1 bO bO)))) (bN o39 (bN o58 (bN o0 (bN o0 (bN o0 bO bO) bO) (bN o246 (bN o0 bO bO) bO)) (bN o0 (bN o204 (bN o0 bO bO) bO) (bN o286 bO bO))) (bN o0 (bN o0 (bN o0 (bN o341 bO bO) bO) (bN o267 bO bO)) (bN o149 (bN o1 (bN o378 bO bO) bO) (bN o0 bO bO)))))))) (bN (o4 P) (bN (boot_o_4 P) (bN (boot_o_8 P) (bN o1 (bN o20 (bN o41 (bN o78 (bN o0 (bN o306 bO bO) bO) (bN o229 (bN o379 bO bO) bO)) (bN o115 (bN o0 (bN o342 bO bO) bO) (bN o269 bO bO))) (bN o59 (bN o0 (bN o170 (bN o0 bO bO) bO) (bN o12 (bN o398 bO bO) bO)) (bN o0 (bN o207 (bN o361 bO bO) bO) (bN o287 bO bO)))) (bN o0 (bN o0 (bN o1 (bN o160 (bN o1 bO bO) bO) (bN o239 (bN o388 bO bO) bO)) (bN o1 (bN o197 (bN o352 bO bO) bO) (bN o0 bO bO))) (bN o68 (bN o105 (bN o1 (bN o0 bO bO) bO) (bN o259 (bN o1 bO bO) bO)) (bN o142 (bN o220 (bN o0 bO bO) bO) (bN o296 bO bO))))) (bN (o13 P) (bN (o26 P) (bN o46 (bN o0 (bN o1 (bN o0 bO bO) bO) (bN o234 (bN o0 bO bO) bO)) (bN o0 (bN o192 (bN o0 bO bO) bO) (bN o274 bO bO))) (bN o0 (bN o0 (bN o0 (bN o329 bO bO) bO) (bN o252 (bN o0 bO bO) bO)) (bN o137 (bN o1 (bN o366 bO bO) bO) (bN o0 bO bO)))) (bN o36 (bN o1 (bN o91 (bN o165 (bN o319 bO bO) bO) (bN o0 (bN o393 bO bO) bO)) (bN o128 (bN o202 (bN o0 bO bO) bO) (bN o1 bO bO))) (bN o73 (bN o110 (bN o183 (bN o1 bO bO) bO) (bN o264 (bN o411 bO bO) bO)) (bN o147 (bN o0 (bN o1 bO bO) bO) (bN o301 bO bO)))))) (bN o215 (bN o9 (bN o22 (bN o43 (bN o0 (bN o153 (bN o0 bO bO) bO) (bN o1 (bN o382 bO bO) bO)) (bN o0 (bN o0 (bN o345 bO bO) bO) (bN o271 bO bO))) (bN o62 (bN o99 (bN o0 (bN o0 bO bO) bO) (bN o250 (bN o0 bO bO) bO)) (bN o0 (bN o211 (bN o363 bO bO) bO) (bN o290 bO bO)))) (bN o0 (bN o52 (bN o89 (bN o1 (bN o317 bO bO) bO) (bN o0 (bN o1 bO bO) bO)) (bN o126 (bN (o199 P) (bN o0 bO bO) bO) (bN o280 bO bO))) (bN o1 (bN o1 (bN o181 (bN o335 bO bO) bO) (bN o0 (bN o409 bO bO) bO)) (bN o144 (bN o223 (bN o372 bO bO) bO) (bN o1 bO bO))))) (bN o16 (bN o30 (bN o0 (bN o84 (bN o158 (bN o312 bO bO) bO) (bN o236 (bN o0 bO bO) bO)) (bN o121 (bN o1 (bN o0 bO bO) bO) (bN o0 bO bO))) (bN o0 (bN o0 (bN o176 (bN o0 bO bO) bO) (bN o255 (bN o404 bO bO) bO)) (bN o1 (bN o218 (bN o0 bO bO) bO) (bN o0 bO bO)))) (bN o1 (bN o57 (bN o94 (bN o167 (bN o322 bO bO) bO) (bN o245 (bN o395 bO bO) bO)) (bN o131 (bN o0 (bN o359 bO bO) bO) (bN o285 bO bO))) (bN o75 (bN o112 (bN o186 (bN o340 bO bO) bO) (bN o1 (bN o414 bO bO) bO)) (bN o0 (bN o0 (bN o377 bO bO) bO) (bN o303 bO bO))))))) (bN (boot_o_6 P) (bN (boot_o_10 P) (bN o0 (bN o21 (bN o0 (bN o1 (bN o152 (bN o1 bO bO) bO) (bN o231 (bN o380 bO bO) bO)) (bN o1 (bN o189 (bN o343 bO bO) bO) (bN o0 bO bO))) (bN o60 (bN o97 (bN o1 (bN o325 bO bO) bO) (bN o0 (bN o1 bO bO) bO)) (bN o134 (bN o209 (bN o0 bO bO) bO) (bN o288 bO bO)))) (bN o33 (bN o51 (bN o0 (bN o162 (bN o0 bO bO) bO) (bN o1 (bN o390 bO bO) bO)) (bN o0 (bN o0 (bN o1 bO bO) bO) (bN o279 bO bO))) (bN o70 (bN o107 (bN o0 (bN o334 bO bO) bO) (bN o261 (bN o0 bO bO) bO)) (bN o0 (bN o221 (bN o371 bO bO) bO) (bN o298 bO bO))))) (bN o0 (bN o28 (bN o1 (bN o83 (bN o0 (bN o311 bO bO) bO) (bN o0 (bN o385 bO bO) bO)) (bN o120 (bN o194 (bN o348 bO bO) bO) (bN o1 bO bO))) (bN o65 (bN o102 (bN o175 (bN o1 bO bO) bO) (bN o253 (bN o403 bO bO) bO)) (bN o139 (bN o0 (bN o1 bO bO) bO) (bN o293 bO bO)))) (bN o38 (bN o0 (bN o92 (bN o0 (bN o320 bO bO) bO) (bN o244 (bN o0 bO bO) bO)) (bN o129 (bN o1 (bN o357 bO bO) bO) (bN o0 bO bO))) (bN o0 (bN o0 (bN o184 (bN o0 bO bO) bO) (bN o266 (bN o412 bO bO) bO)) (bN o1 (bN o226 (bN o0 bO bO) bO) (bN o0 bO bO)))))) (bN o3 (bN o11 (bN o24 (bN o44 (bN o81 (bN o155 (bN o309 bO bO) bO) (bN o0 (bN o1 bO bO) bO)) (bN o118 (bN o191 (bN o1 bO bO) bO) (bN o272 bO bO))) (bN o1 (bN o1 (bN o173 (bN o327 bO bO) bO) (bN o0 (bN o401 bO bO) bO)) (bN o136 (bN o213 (bN o364 bO bO) bO) (bN o1 bO bO)))) (bN o35 (bN o54 (bN o0 (bN o0 (bN o0 bO bO) bO) (bN o242 (bN o0 bO bO) bO)) (bN o0 (bN o200 (bN o355 bO bO) bO) (bN o282 bO bO))) (bN o0 (bN o0 (bN o0 (bN o337 bO bO) bO) (bN o263 (bN o0 bO bO) bO)) (bN o145 (bN o1 (bN o374 bO bO) bO) (bN o0 bO bO))))) (bN o18 (bN o1 (bN o49 (bN o86 (bN o0 (bN o314 bO bO) bO) (bN o237 (bN o387 bO bO) bO)) (bN o123 (bN o0 (bN o350 bO bO) bO) (bN o277 bO bO))) (bN o67 (bN o104 (bN o178 (bN o332 bO bO) bO) (bN (o257 P) (bN o406 bO bO) bO)) (bN o0 (bN o0 (bN o369 bO bO) bO) (bN o295 bO bO)))) (bN o0 (bN o0 (bN o1 (bN o168 (bN o1 bO bO) bO) (bN o247 (bN o396 bO bO) bO)) (bN o1 (bN o205 (bN o1 bO bO) bO) (bN o0 bO bO))) (bN o76 (bN o113 (bN o1 (bN o0 bO bO) bO) (bN o0 bO bO)) (bN o150 (bN o228 (bN o0 bO bO) bO) (bN o304 bO bO)))))))))
noncomputable def n0 : Nat := 15
noncomputable def k0 : Nat := 187
noncomputable def p0 : Pos := ⟨0, 0, 0, 0⟩
noncomputable def n1 : Nat := 359
noncomputable def k1 : Nat := 676
noncomputable def p1 : Pos := ⟨244, 0, 248, 21⟩
noncomputable def n2 : Nat := 701
noncomputable def k2 : Nat := 1158
noncomputable def p2 : Pos := ⟨575, 0, 583, 66⟩
noncomputable def k9 : Nat := 1742
noncomputable def p9 : Pos := ⟨932, 0, 950, 46⟩
noncomputable def g2 (P : Params) : Obj := oO vN (.dict (List.toArray [dE P "type.__subclasses__.Exception.0" 230 (vI 41 0), dE P "type.__subclasses__.Exception.n" 231 (vI 1 0)]) 2)
noncomputable def g3 (P : Params) : Obj := oO (vT "dict") (.dict (List.toArray [dE P "__name__" 165 (vS "law_pf0030_01" 1656), dE P "__doc__" 166 vN, dE P "__package__" 167 vN, dE P "__loader__" 168 (vB "__main__.__loader__#opaque"), dE P "__spec__" 169 vN, dE P "__annotations__" 170 (vR 6), dE P "__builtins__" 171 (vR 4), dE P "__file__" 173 (vS "/claim/cut.py" 172), dE P "__cached__" 174 vN, dE P "_wall" 193 (vR 21), dE P "MOST_TEXT" 197 (vI 255 196), dE P "MOST_EXPONENT" 199 (vI 99 198), dE P "BasicError" 233 (vR 41), dE P "error_codes" 240 (vR 51), dE P "number_of_error" 250 (vR 58), dE P "code_of_error" 258 (vR 65), dE P "kind_of" 265 (vR 72), dE P "kind_of_name" 274 (vR 79), dE P "first_value" 281 (vR 86), dE P "figures_of" 290 (vR 93), dE P "rounded_by" 301 (vR 100), dE P "made" 313 (vR 107), dE P "whole_near" 323 (vR 114), dE P "fits" 331 (vR 121), dE P "whole_of" 340 (vR 128), dE P "decimal_of" 348 (vR 135), dE P "text_of" 355 (vR 142), dE P "checked_text" 362 (vR 149), dE P "suited" 372 (vR 156), dE P "truth" 379 (vR 163), dE P "ONE" 384 (vR 164), dE P "MOST_POWER" 386 (vI 9999 385), dE P "d_negated" 393 (vR 171), dE P "alike" 402 (vR 178), dE P "d_add" 414 (vR 185), dE P "d_sub" 423 (vR 192), dE P "d_mul" 432 (vR 199), dE P "with_rest" 441 (vR 206), dE P "d_div" 455 (vR 213), dE P "d_compare" 466 (vR 220), dE P "d_power" 478 (vR 227), dE P "square_or_end" 486 (vR 234), dE P "figures_text" 494 (vR 241), dE P "exponent_text" 502 (vR 248), dE P "size_text" 514 (vR 255), dE P "d_text" 522 (vR 262), dE P "whole_text" 529 (vR 269), dE P "MOST_CHANNEL" 533 (vI 15 532), dE P "MOST_NAME" 535 (vI 30 534), dE P "MOST_SIZE" 537 (vI 255 536), dE P "ROW_END" 539 (vS "\n" 538), dE P "check_name" 545 (vR 274), dE P "open_file" 558 (vR 281), dE P "is_written_elsewhere" 569 (vR 288), dE P "channel_of" 579 (vR 295), dE P "write_text" 589 (vR 372), dE P "write_text_files" 590 (vR 302), dE P "write_row" 599 (vR 309), dE P "field_text" 610 (vR 316), dE P "no_field" 618 (vR 323), dE P "hide_fields" 628 (vR 330), dE P "lay_fields" 638 (vR 337), dE P "ZONE" 642 (vI 14 641), dE P "WIDTH" 644 (vI 72 643), dE P "MOST_COLUMN" 646 (vI 255 645), dE P "Page" 675 (vR 354), dE P "end_row" 682 (vR 365), dE P "write_text_printing" 692 (vR 372), dE P "write_zone" 702 (vR 379), dE P "within_row" 710 (vR 386), dE P "write_blanks" 719 (vR 393), dE P "write_tab" 729 (vR 400), dE P "write_part" 740 (vR 407), dE P "write_parts" 752 (vR 414), dE P "Picture" 789 (vR 431), dE P "begins_number" 797 (vR 442), dE P "read_ahead" 806 (vR 449), dE P "read_places" 815 (vR 456), dE P "read_picture" 824 (vR 463), dE P "read_pieces" 836 (vR 470), dE P "piece_at" 846 (vR 477), dE P "padded_figures" 855 (vR 484), dE P "scaled" 864 (vR 491), dE P "grouped" 872 (vR 498), dE P "split_figures" 881 (vR 505), dE P "with_exponent" 896 (vR 512), dE P "lead_of" 904 (vR 519), dE P "tail_of" 912 (vR 526), dE P "number_by" 932 (vR 533), dE P "value_by" 940 (vR 540), dE P "is_plain" 947 (vR 547), dE P "using_text" 953 (vR 552), dE P "shown" 963 (vR 559), dE P "print_parts" 973 (vR 566), dE P "channel_told" 982 (vR 573), dE P "unfinished" 992 (vR 580), dE P "file_page" 1001 (vR 587), dE P "write_page" 1007 (vR 592), dE P "do_print" 1018 (vR 599), dE P "do_using" 1024 (vR 604), dE P "do_write" 1030 (vR 609), dE P "is_whole" 1039 (vR 616), dE P "settled" 1048 (vR 623), dE P "whole_reckoned" 1059 (vR 630), dE P "cut_quotient" 1068 (vR 637), dE P "cut_rest" 1076 (vR 644), dE P "exponent_of" 1083 (vR 651), dE P "whole_power" 1093 (vR 658), dE P "raised" 1104 (vR 665), dE P "reckoned" 1120 (vR 672), dE P "negated" 1129 (vR 679), dE P "order_of" 1137 (vR 686), dE P "inverted" 1145 (vR 693), dE P "logic" 1157 (vR 700), dE P "USUAL_HIGH" 1161 (vI 10 1160), dE P "Grid" 1196 (vR 717), dE P "count_of" 1206 (vR 728), dE P "kind_in" 1214 (vR 735), dE P "check_highs" 1223 (vR 742), dE P "dim" 1232 (vR 749), dE P "grid_of" 1241 (vR 756), dE P "place_of" 1252 (vR 763), dE P "get_item" 1262 (vR 770), dE P "Control" 1295 (vR 787), dE P "error_number" 1302 (vR 798), dE P "World" 1369 (vR 816), dE P "kind_here" 1377 (vR 827), dE P "get_name" 1385 (vR 834), dE P "variable_value" 1396 (vR 841), dE P "fn_called" 1402 (vR 846), dE P "parts_of_tree" 1411 (vR 853), dE P "LOGIC" 1419 (vR 854), dE P "COMPARISONS" 1426 (vR 855), dE P "order_of_texts" 1434 (vR 862), dE P "compared" 1442 (vR 869), dE P "worth_of_texts" 1451 (vR 876), dE P "worth_of_two" 1457 (vR 881), dE P "worth_of_one" 1467 (vR 888), dE P "worth_of_leaf" 1478 (vR 895), dE P "worth_of_tree" 1488 (vR 902), dE P "worth" 1494 (vR 907), dE P "worth_worth" 1495 (vR 907), dE P "MOST_PILE" 1499 (vI 20 1498), dE P "WorkRun" 1655 (vR 1020), dE P "_law_next" 1665 (vR 1031), dE P "_law_text" 1672 (vR 1038), dE P "_law_item" 1680 (vR 1045), dE P "_law_value" 1688 (vR 1052), dE P "_law_order" 1694 (vR 1057), dE P "_law_worth" 1701 (vR 1064), dE P "_law_printed" 1713 (vR 1071), dE P "_law_done" 1719 (vR 1076), dE P "_law_code" 1727 (vR 1083), dE P "_law_put" 1735 (vR 1090), dE P "law" 1741 (vR 1095)]) 155)
noncomputable def g25 : Obj := oO (vT "cell") (.cell (some (vR 41)))
noncomputable def g30 : Obj := oO (vT "tuple") (dS [(vS "" 212)])
noncomputable def g37 : Obj := oO (vT "code") (dF [(vS "__init__" 213), (vS "BasicError.__init__" 214), (vS "/claim/cut.py" 215), (vI 9 0), (vI 3 0), (vI 0 0), (vI 0 0), (vI 3 0), (vR 32), (.bool true), (vI 181 0), (vR 33), vN, (vR 34), (vR 35), (vR 36), (vI 220 0), (vI 9 0), (vS "/claim/cut.py" 221)])
noncomputable def g38 : Obj := oO (vT "function") (.func (fD (mS 4 0) "BasicError.__init__" 3 [(Str.ofString "__class__", 25)] (vR 30) vN (vS "basicplus.values" 194) (vR 37) (vR 31)))
noncomputable def g40 (P : Params) : Obj := oO (vT "dict") (.dict (List.toArray [dE P "__module__" 207 (vS "basicplus.values" 194), dE P "__firstlineno__" 211 (vI 7 210), dE P "__init__" 222 (vR 38), dE P "__static_attributes__" 225 (vR 39), dE P "__weakref__" 228 (vR 42), dE P "__doc__" 229 vN]) 4)
noncomputable def g41 : Obj := ⟨(vT "type"), none, (.cls ⟨Str.ofString "BasicError", [(vT "Exception")], [(vR 41), (vT "Exception"), (vT "BaseException"), (vT "object")], 40, Str.ofString "BasicError", true, [], [], false, none, false⟩), List.toArray [(some (vR 22)), none, (some (vS "BasicError" 200)), (some (vS "BasicError" 208)), (some (vB "Exception.__new__")), (some (.bool true))]⟩
noncomputable def g71 : Obj := oO (vT "code") (dF [(vS "kind_of" 259), (vS "kind_of" 260), (vS "/claim/cut.py" 261), (vI 27 0), (vI 1 0), (vI 0 0), (vI 0 0), (vI 3 0), (vR 66), (.bool true), (vI 181 0), (vR 67), vN, (vR 68), (vR 69), (vR 70), (vI 263 0), (vI 27 0), (vS "/claim/cut.py" 264)])
noncomputable def g72 : Obj := oO (vT "function") (.func (fD (tS 8) "kind_of" 3 [] vN vN (vS "basicplus.values" 194) (vR 71) vN))
noncomputable def g120 : Obj := oO (vT "code") (dF [(vS "fits" 324), (vS "fits" 325), (vS "/claim/cut.py" 326), (vI 79 0), (vI 2 0), (vI 0 0), (vI 0 0), (vI 3 0), (vR 115), (.bool true), (vI 181 0), (vR 116), vN, (vR 117), (vR 118), (vR 119), (vI 329 0), (vI 79 0), (vS "/claim/cut.py" 330)])
noncomputable def g121 : Obj := oO (vT "function") (.func (fD (tS 15) "fits" 3 [] vN vN (vS "basicplus.values" 194) (vR 120) vN))
noncomputable def g127 : Obj := oO (vT "code") (dF [(vS "whole_of" 332), (vS "whole_of" 333), (vS "/claim/cut.py" 334), (vI 81 0), (vI 2 0), (vI 0 0), (vI 0 0), (vI 3 0), (vR 122), (.bool true), (vI 181 0), (vR 123), vN, (vR 124), (vR 125), (vR 126), (vI 338 0), (vI 81 0), (vS "/claim/cut.py" 339)])
noncomputable def g128 : Obj := oO (vT "function") (.func (fD (tS 16) "whole_of" 3 [] vN vN (vS "basicplus.values" 194) (vR 127) vN))
noncomputable def g141 : Obj := oO (vT "code") (dF [(vS "text_of" 349), (vS "text_of" 350), (vS "/claim/cut.py" 351), (vI 92 0), (vI 1 0), (vI 0 0), (vI 0 0), (vI 3 0), (vR 136), (.bool true), (vI 181 0), (vR 137), vN, (vR 138), (vR 139), (vR 140), (vI 353 0), (vI 92 0), (vS "/claim/cut.py" 354)])
noncomputable def g142 : Obj := oO (vT "function") (.func (fD (tS 18) "text_of" 3 [] vN vN (vS "basicplus.values" 194) (vR 141) vN))
noncomputable def g240 : Obj := oO (vT "code") (dF [(vS "figures_text" 487), (vS "figures_text" 488), (vS "/claim/cut.py" 489), (vI 150 0), (vI 1 0), (vI 0 0), (vI 0 0), (vI 3 0), (vR 235), (.bool true), (vI 181 0), (vR 236), vN, (vR 237), (vR 238), (vR 239), (vI 492 0), (vI 150 0), (vS "/claim/cut.py" 493)])
noncomputable def g241 : Obj := oO (vT "function") (.func (fD (tS 35) "figures_text" 3 [] vN vN (vS "basicplus.decimals" 380) (vR 240) vN))
noncomputable def g268 : Obj := oO (vT "code") (dF [(vS "whole_text" 523), (vS "whole_text" 524), (vS "/claim/cut.py" 525), (vI 174 0), (vI 1 0), (vI 0 0), (vI 0 0), (vI 3 0), (vR 263), (.bool true), (vI 181 0), (vR 264), vN, (vR 265), (vR 266), (vR 267), (vI 527 0), (vI 174 0), (vS "/claim/cut.py" 528)])
noncomputable def g269 : Obj := oO (vT "function") (.func (fD (tS 39) "whole_text" 3 [] vN vN (vS "basicplus.decimals" 380) (vR 268) vN))
noncomputable def g273 : Obj := oO (vT "code") (dF [(vS "check_name" 540), (vS "check_name" 541), (vS "/claim/cut.py" 542), (vI 181 0), (vI 1 0), (vI 0 0), (vI 0 0), (vI 3 0), (vR 270), (.bool true), (vI 181 0), (vR 271), vN, vN, vN, (vR 272), (vI 543 0), (vI 181 0), (vS "/claim/cut.py" 544)])
noncomputable def g274 : Obj := oO (vT "function") (.func (fD (tS 45) "check_name" 3 [] vN vN (vS "basicplus.files" 530) (vR 273) vN))
noncomputable def g280 : Obj := oO (vT "code") (dF [(vS "open_file" 546), (vS "open_file" 547), (vS "/claim/cut.py" 548), (vI 185 0), (vI 5 0), (vI 0 0), (vI 0 0), (vI 3 0), (vR 275), (.bool true), (vI 181 0), (vR 276), vN, (vR 277), (vR 278), (vR 279), (vI 556 0), (vI 185 0), (vS "/claim/cut.py" 557)])
noncomputable def g281 : Obj := oO (vT "function") (.func (fD (tS 46) "open_file" 3 [] vN vN (vS "basicplus.files" 530) (vR 280) vN))
noncomputable def g287 : Obj := oO (vT "code") (dF [(vS "is_written_elsewhere" 559), (vS "is_written_elsewhere" 560), (vS "/claim/cut.py" 561), (vI 202 0), (vI 3 0), (vI 0 0), (vI 0 0), (vI 3 0), (vR 282), (.bool true), (vI 181 0), (vR 283), vN, (vR 284), (vR 285), (vR 286), (vI 567 0), (vI 202 0), (vS "/claim/cut.py" 568)])
noncomputable def g288 : Obj := oO (vT "function") (.func (fD (tS 47) "is_written_elsewhere" 3 [] vN vN (vS "basicplus.files" 530) (vR 287) vN))
noncomputable def g294 : Obj := oO (vT "code") (dF [(vS "channel_of" 570), (vS "channel_of" 571), (vS "/claim/cut.py" 572), (vI 208 0), (vI 3 0), (vI 0 0), (vI 0 0), (vI 3 0), (vR 289), (.bool true), (vI 181 0), (vR 290), vN, (vR 291), (vR 292), (vR 293), (vI 577 0), (vI 208 0), (vS "/claim/cut.py" 578)])
noncomputable def g295 : Obj := oO (vT "function") (.func (fD (tS 48) "channel_of" 3 [] vN vN (vS "basicplus.files" 530) (vR 294) vN))
noncomputable def g301 : Obj := oO (vT "code") (dF [(vS "write_text" 580), (vS "write_text" 581), (vS "/claim/cut.py" 582), (vI 215 0), (vI 3 0), (vI 0 0), (vI 0 0), (vI 3 0), (vR 296), (.bool true), (vI 181 0), (vR 297), vN, (vR 298), (vR 299), (vR 300), (vI 587 0), (vI 215 0), (vS "/claim/cut.py" 588)])
noncomputable def g302 : Obj := oO (vT "function") (.func (fD (tS 49) "write_text" 3 [] vN vN (vS "basicplus.files" 530) (vR 301) vN))
noncomputable def g308 : Obj := oO (vT "code") (dF [(vS "write_row" 591), (vS "write_row" 592), (vS "/claim/cut.py" 593), (vI 220 0), (vI 3 0), (vI 0 0), (vI 0 0), (vI 3 0), (vR 303), (.bool true), (vI 181 0), (vR 304), vN, (vR 305), (vR 306), (vR 307), (vI 597 0), (vI 220 0), (vS "/claim/cut.py" 598)])
noncomputable def g309 : Obj := oO (vT "function") (.func (fD (tS 51) "write_row" 3 [] vN vN (vS "basicplus.files" 530) (vR 308) vN))
noncomputable def g350 : Obj := oO (vT "code") (dF [(vS "__init__" 659), (vS "Page.__init__" 660), (vS "/claim/cut.py" 661), (vI 246 0), (vI 1 0), (vI 0 0), (vI 0 0), (vI 3 0), (vR 345), (.bool true), (vI 181 0), (vR 346), vN, (vR 347), (vR 348), (vR 349), (vI 663 0), (vI 246 0), (vS "/claim/cut.py" 664)])
noncomputable def g351 : Obj := oO (vT "function") (.func (fD (mS 60 0) "Page.__init__" 3 [] vN vN (vS "basicplus.printing" 639) (vR 350) vN))
noncomputable def g353 (P : Params) : Obj := oO (vT "dict") (.dict (List.toArray [dE P "__module__" 654 (vS "basicplus.printing" 639), dE P "__firstlineno__" 658 (vI 244 657), dE P "__init__" 665 (vR 351), dE P "__static_attributes__" 668 (vR 352), dE P "__dict__" 670 (vR 355), dE P "__weakref__" 672 (vR 356), dE P "__doc__" 673 vN]) 4)
noncomputable def g354 : Obj := ⟨(vT "type"), none, (.cls ⟨Str.ofString "Page", [(vT "object")], [(vR 354), (vT "object")], 353, Str.ofString "Page", true, [], [], false, none, false⟩), List.toArray [none, none, (some (vS "Page" 647)), (some (vS "Page" 655)), (some (vB "object.__new__")), (some (.bool true))]⟩
noncomputable def g364 : Obj := oO (vT "code") (dF [(vS "end_row" 676), (vS "end_row" 677), (vS "/claim/cut.py" 678), (vI 249 0), (vI 1 0), (vI 0 0), (vI 0 0), (vI 3 0), (vR 359), (.bool true), (vI 181 0), (vR 360), vN, (vR 361), (vR 362), (vR 363), (vI 680 0), (vI 249 0), (vS "/claim/cut.py" 681)])
noncomputable def g365 : Obj := oO (vT "function") (.func (fD (tS 61) "end_row" 3 [] vN vN (vS "basicplus.printing" 639) (vR 364) vN))
noncomputable def g371 : Obj := oO (vT "code") (dF [(vS "write_text" 683), (vS "write_text" 684), (vS "/claim/cut.py" 685), (vI 252 0), (vI 3 0), (vI 0 0), (vI 0 0), (vI 3 0), (vR 366), (.bool true), (vI 181 0), (vR 367), vN, (vR 368), (vR 369), (vR 370), (vI 689 0), (vI 252 0), (vS "/claim/cut.py" 690)])
noncomputable def g372 : Obj := oO (vT "function") (.func (fD (tS 62) "write_text" 3 [] vN vN (vS "basicplus.printing" 639) (vR 371) vN))
noncomputable def g378 : Obj := oO (vT "code") (dF [(vS "write_zone" 693), (vS "write_zone" 694), (vS "/claim/cut.py" 695), (vI 260 0), (vI 3 0), (vI 0 0), (vI 0 0), (vI 3 0), (vR 373), (.bool true), (vI 181 0), (vR 374), vN, (vR 375), (vR 376), (vR 377), (vI 700 0), (vI 260 0), (vS "/claim/cut.py" 701)])
noncomputable def g379 : Obj := oO (vT "function") (.func (fD (tS 64) "write_zone" 3 [] vN vN (vS "basicplus.printing" 639) (vR 378) vN))
noncomputable def g385 : Obj := oO (vT "code") (dF [(vS "within_row" 703), (vS "within_row" 704), (vS "/claim/cut.py" 705), (vI 266 0), (vI 2 0), (vI 0 0), (vI 0 0), (vI 3 0), (vR 380), (.bool true), (vI 181 0), (vR 381), vN, (vR 382), (vR 383), (vR 384), (vI 708 0), (vI 266 0), (vS "/claim/cut.py" 709)])
noncomputable def g386 : Obj := oO (vT "function") (.func (fD (tS 65) "within_row" 3 [] vN vN (vS "basicplus.printing" 639) (vR 385) vN))
noncomputable def g392 : Obj := oO (vT "code") (dF [(vS "write_blanks" 711), (vS "write_blanks" 712), (vS "/claim/cut.py" 713), (vI 270 0), (vI 3 0), (vI 0 0), (vI 0 0), (vI 3 0), (vR 387), (.bool true), (vI 181 0), (vR 388), vN, (vR 389), (vR 390), (vR 391), (vI 717 0), (vI 270 0), (vS "/claim/cut.py" 718)])
noncomputable def g393 : Obj := oO (vT "function") (.func (fD (tS 66) "write_blanks" 3 [] vN vN (vS "basicplus.printing" 639) (vR 392) vN))
noncomputable def g399 : Obj := oO (vT "code") (dF [(vS "write_tab" 720), (vS "write_tab" 721), (vS "/claim/cut.py" 722), (vI 272 0), (vI 3 0), (vI 0 0), (vI 0 0), (vI 3 0), (vR 394), (.bool true), (vI 181 0), (vR 395), vN, (vR 396), (vR 397), (vR 398), (vI 727 0), (vI 272 0), (vS "/claim/cut.py" 728)])
noncomputable def g400 : Obj := oO (vT "function") (.func (fD (tS 67) "write_tab" 3 [] vN vN (vS "basicplus.printing" 639) (vR 399) vN))
noncomputable def g406 : Obj := oO (vT "code") (dF [(vS "write_part" 730), (vS "write_part" 731), (vS "/claim/cut.py" 732), (vI 279 0), (vI 4 0), (vI 0 0), (vI 0 0), (vI 3 0), (vR 401), (.bool true), (vI 181 0), (vR 402), vN, (vR 403), (vR 404), (vR 405), (vI 738 0), (vI 279 0), (vS "/claim/cut.py" 739)])
noncomputable def g407 : Obj := oO (vT "function") (.func (fD (tS 68) "write_part" 3 [] vN vN (vS "basicplus.printing" 639) (vR 406) vN))
noncomputable def g413 : Obj := oO (vT "code") (dF [(vS "write_parts" 741), (vS "write_parts" 742), (vS "/claim/cut.py" 743), (vI 293 0), (vI 4 0), (vI 0 0), (vI 0 0), (vI 3 0), (vR 408), (.bool true), (vI 181 0), (vR 409), vN, (vR 410), (vR 411), (vR 412), (vI 750 0), (vI 293 0), (vS "/claim/cut.py" 751)])
noncomputable def g414 : Obj := oO (vT "function") (.func (fD (tS 69) "write_parts" 3 [] vN vN (vS "basicplus.printing" 639) (vR 413) vN))
noncomputable def g427 : Obj := oO (vT "code") (dF [(vS "__init__" 767), (vS "Picture.__init__" 768), (vS "/claim/cut.py" 769), (vI 302 0), (vI 1 0), (vI 0 0), (vI 0 0), (vI 3 0), (vR 422), (.bool true), (vI 181 0), (vR 423), vN, (vR 424), (vR 425), (vR 426), (vI 771 0), (vI 302 0), (vS "/claim/cut.py" 772)])
noncomputable def g428 : Obj := oO (vT "function") (.func (fD (mS 71 0) "Picture.__init__" 3 [] vN vN (vS "basicplus.using" 753) (vR 427) vN))
noncomputable def g430 (P : Params) : Obj := oO (vT "dict") (.dict (List.toArray [dE P "__module__" 762 (vS "basicplus.using" 753), dE P "__firstlineno__" 766 (vI 300 765), dE P "__init__" 773 (vR 428), dE P "__static_attributes__" 782 (vR 429), dE P "__dict__" 784 (vR 432), dE P "__weakref__" 786 (vR 433), dE P "__doc__" 787 vN]) 4)
noncomputable def g431 : Obj := ⟨(vT "type"), none, (.cls ⟨Str.ofString "Picture", [(vT "object")], [(vR 431), (vT "object")], 430, Str.ofString "Picture", true, [], [], false, none, false⟩), List.toArray [none, none, (some (vS "Picture" 755)), (some (vS "Picture" 763)), (some (vB "object.__new__")), (some (.bool true))]⟩
noncomputable def g441 : Obj := oO (vT "code") (dF [(vS "begins_number" 790), (vS "begins_number" 791), (vS "/claim/cut.py" 792), (vI 311 0), (vI 2 0), (vI 0 0), (vI 0 0), (vI 3 0), (vR 436), (.bool true), (vI 181 0), (vR 437), vN, (vR 438), (vR 439), (vR 440), (vI 795 0), (vI 311 0), (vS "/claim/cut.py" 796)])
noncomputable def g442 : Obj := oO (vT "function") (.func (fD (tS 72) "begins_number" 3 [] vN vN (vS "basicplus.using" 753) (vR 441) vN))
noncomputable def g469 : Obj := oO (vT "code") (dF [(vS "read_pieces" 825), (vS "read_pieces" 826), (vS "/claim/cut.py" 827), (vI 342 0), (vI 1 0), (vI 0 0), (vI 0 0), (vI 3 0), (vR 464), (.bool true), (vI 181 0), (vR 465), vN, (vR 466), (vR 467), (vR 468), (vI 834 0), (vI 342 0), (vS "/claim/cut.py" 835)])
noncomputable def g470 : Obj := oO (vT "function") (.func (fD (tS 76) "read_pieces" 3 [] vN vN (vS "basicplus.using" 753) (vR 469) vN))
noncomputable def g476 : Obj := oO (vT "code") (dF [(vS "piece_at" 837), (vS "piece_at" 838), (vS "/claim/cut.py" 839), (vI 354 0), (vI 2 0), (vI 0 0), (vI 0 0), (vI 3 0), (vR 471), (.bool true), (vI 181 0), (vR 472), vN, (vR 473), (vR 474), (vR 475), (vI 844 0), (vI 354 0), (vS "/claim/cut.py" 845)])
noncomputable def g477 : Obj := oO (vT "function") (.func (fD (tS 77) "piece_at" 3 [] vN vN (vS "basicplus.using" 753) (vR 476) vN))
noncomputable def g539 : Obj := oO (vT "code") (dF [(vS "value_by" 933), (vS "value_by" 934), (vS "/claim/cut.py" 935), (vI 426 0), (vI 2 0), (vI 0 0), (vI 0 0), (vI 3 0), (vR 534), (.bool true), (vI 181 0), (vR 535), vN, (vR 536), (vR 537), (vR 538), (vI 938 0), (vI 426 0), (vS "/claim/cut.py" 939)])
noncomputable def g540 : Obj := oO (vT "function") (.func (fD (tS 86) "value_by" 3 [] vN vN (vS "basicplus.using" 753) (vR 539) vN))
noncomputable def g546 : Obj := oO (vT "code") (dF [(vS "is_plain" 941), (vS "is_plain" 942), (vS "/claim/cut.py" 943), (vI 438 0), (vI 1 0), (vI 0 0), (vI 0 0), (vI 3 0), (vR 541), (.bool true), (vI 181 0), (vR 542), vN, (vR 543), (vR 544), (vR 545), (vI 945 0), (vI 438 0), (vS "/claim/cut.py" 946)])
noncomputable def g547 : Obj := oO (vT "function") (.func (fD (tS 87) "is_plain" 3 [] vN vN (vS "basicplus.using" 753) (vR 546) vN))
noncomputable def g551 : Obj := oO (vT "code") (dF [(vS "using_text" 948), (vS "using_text" 949), (vS "/claim/cut.py" 950), (vI 440 0), (vI 2 0), (vI 0 0), (vI 0 0), (vI 3 0), (vR 548), (.bool true), (vI 181 0), (vR 549), vN, vN, vN, (vR 550), (vI 951 0), (vI 440 0), (vS "/claim/cut.py" 952)])
noncomputable def g552 : Obj := oO (vT "function") (.func (fD (tS 88) "using_text" 3 [] vN vN (vS "basicplus.using" 753) (vR 551) vN))
noncomputable def g558 : Obj := oO (vT "code") (dF [(vS "shown" 956), (vS "shown" 957), (vS "/claim/cut.py" 958), (vI 455 0), (vI 2 0), (vI 0 0), (vI 0 0), (vI 3 0), (vR 553), (.bool true), (vI 181 0), (vR 554), vN, (vR 555), (vR 556), (vR 557), (vI 961 0), (vI 455 0), (vS "/claim/cut.py" 962)])
noncomputable def g559 : Obj := oO (vT "function") (.func (fD (tS 90) "shown" 3 [] vN vN (vS "basicplus.rundo" 954) (vR 558) vN))
noncomputable def g565 : Obj := oO (vT "code") (dF [(vS "print_parts" 964), (vS "print_parts" 965), (vS "/claim/cut.py" 966), (vI 459 0), (vI 2 0), (vI 0 0), (vI 0 0), (vI 3 0), (vR 560), (.bool true), (vI 181 0), (vR 561), vN, (vR 562), (vR 563), (vR 564), (vI 971 0), (vI 459 0), (vS "/claim/cut.py" 972)])
noncomputable def g566 : Obj := oO (vT "function") (.func (fD (tS 91) "print_parts" 3 [] vN vN (vS "basicplus.rundo" 954) (vR 565) vN))
noncomputable def g572 : Obj := oO (vT "code") (dF [(vS "channel_told" 974), (vS "channel_told" 975), (vS "/claim/cut.py" 976), (vI 469 0), (vI 2 0), (vI 0 0), (vI 0 0), (vI 3 0), (vR 567), (.bool true), (vI 181 0), (vR 568), vN, (vR 569), (vR 570), (vR 571), (vI 980 0), (vI 469 0), (vS "/claim/cut.py" 981)])
noncomputable def g573 : Obj := oO (vT "function") (.func (fD (tS 92) "channel_told" 3 [] vN vN (vS "basicplus.rundo" 954) (vR 572) vN))
noncomputable def g579 : Obj := oO (vT "code") (dF [(vS "unfinished" 983), (vS "unfinished" 984), (vS "/claim/cut.py" 985), (vI 475 0), (vI 2 0), (vI 0 0), (vI 0 0), (vI 3 0), (vR 574), (.bool true), (vI 181 0), (vR 575), vN, (vR 576), (vR 577), (vR 578), (vI 990 0), (vI 475 0), (vS "/claim/cut.py" 991)])
noncomputable def g580 : Obj := oO (vT "function") (.func (fD (tS 93) "unfinished" 3 [] vN vN (vS "basicplus.rundo" 954) (vR 579) vN))
noncomputable def g586 : Obj := oO (vT "code") (dF [(vS "file_page" 993), (vS "file_page" 994), (vS "/claim/cut.py" 995), (vI 479 0), (vI 2 0), (vI 0 0), (vI 0 0), (vI 3 0), (vR 581), (.bool true), (vI 181 0), (vR 582), vN, (vR 583), (vR 584), (vR 585), (vI 999 0), (vI 479 0), (vS "/claim/cut.py" 1000)])
noncomputable def g587 : Obj := oO (vT "function") (.func (fD (tS 94) "file_page" 3 [] vN vN (vS "basicplus.rundo" 954) (vR 586) vN))
noncomputable def g591 : Obj := oO (vT "code") (dF [(vS "write_page" 1002), (vS "write_page" 1003), (vS "/claim/cut.py" 1004), (vI 483 0), (vI 3 0), (vI 0 0), (vI 0 0), (vI 3 0), (vR 588), (.bool true), (vI 181 0), (vR 589), vN, vN, vN, (vR 590), (vI 1005 0), (vI 483 0), (vS "/claim/cut.py" 1006)])
noncomputable def g592 : Obj := oO (vT "function") (.func (fD (tS 95) "write_page" 3 [] vN vN (vS "basicplus.rundo" 954) (vR 591) vN))
noncomputable def g598 : Obj := oO (vT "code") (dF [(vS "do_print" 1008), (vS "do_print" 1009), (vS "/claim/cut.py" 1010), (vI 486 0), (vI 2 0), (vI 0 0), (vI 0 0), (vI 3 0), (vR 593), (.bool true), (vI 181 0), (vR 594), vN, (vR 595), (vR 596), (vR 597), (vI 1016 0), (vI 486 0), (vS "/claim/cut.py" 1017)])
noncomputable def g599 : Obj := oO (vT "function") (.func (fD (tS 96) "do_print" 3 [] vN vN (vS "basicplus.rundo" 954) (vR 598) vN))
noncomputable def g603 : Obj := oO (vT "code") (dF [(vS "do_using" 1019), (vS "do_using" 1020), (vS "/claim/cut.py" 1021), (vI 495 0), (vI 2 0), (vI 0 0), (vI 0 0), (vI 3 0), (vR 600), (.bool true), (vI 181 0), (vR 601), vN, vN, vN, (vR 602), (vI 1022 0), (vI 495 0), (vS "/claim/cut.py" 1023)])
noncomputable def g604 : Obj := oO (vT "function") (.func (fD (tS 97) "do_using" 3 [] vN vN (vS "basicplus.rundo" 954) (vR 603) vN))
noncomputable def g608 : Obj := oO (vT "code") (dF [(vS "do_write" 1025), (vS "do_write" 1026), (vS "/claim/cut.py" 1027), (vI 505 0), (vI 2 0), (vI 0 0), (vI 0 0), (vI 3 0), (vR 605), (.bool true), (vI 181 0), (vR 606), vN, vN, vN, (vR 607), (vI 1028 0), (vI 505 0), (vS "/claim/cut.py" 1029)])
noncomputable def g609 : Obj := oO (vT "function") (.func (fD (tS 98) "do_write" 3 [] vN vN (vS "basicplus.rundo" 954) (vR 608) vN))
noncomputable def g783 : Obj := oO (vT "code") (dF [(vS "__init__" 1277), (vS "Control.__init__" 1278), (vS "/claim/cut.py" 1279), (vI 633 0), (vI 2 0), (vI 0 0), (vI 0 0), (vI 3 0), (vR 778), (.bool true), (vI 181 0), (vR 779), vN, (vR 780), (vR 781), (vR 782), (vI 1282 0), (vI 633 0), (vS "/claim/cut.py" 1283)])
noncomputable def g784 : Obj := oO (vT "function") (.func (fD (mS 124 0) "Control.__init__" 3 [] vN vN (vS "basicplus.control" 1263) (vR 783) vN))
noncomputable def g786 (P : Params) : Obj := oO (vT "dict") (.dict (List.toArray [dE P "__module__" 1272 (vS "basicplus.control" 1263), dE P "__firstlineno__" 1276 (vI 631 1275), dE P "__init__" 1284 (vR 784), dE P "__static_attributes__" 1288 (vR 785), dE P "__dict__" 1290 (vR 788), dE P "__weakref__" 1292 (vR 789), dE P "__doc__" 1293 vN]) 4)
noncomputable def g787 : Obj := ⟨(vT "type"), none, (.cls ⟨Str.ofString "Control", [(vT "object")], [(vR 787), (vT "object")], 786, Str.ofString "Control", true, [], [], false, none, false⟩), List.toArray [none, none, (some (vS "Control" 1265)), (some (vS "Control" 1273)), (some (vB "object.__new__")), (some (.bool true))]⟩
noncomputable def g806 : Obj := oO (vT "tuple") (dS [(vI 16 1317), (vI 9 1318), (vI 2000 1319), (vI 20 1320), (vI 2000 1321)])
noncomputable def g812 : Obj := oO (vT "code") (dF [(vS "__init__" 1322), (vS "World.__init__" 1323), (vS "/claim/cut.py" 1324), (vI 642 0), (vI 6 0), (vI 0 0), (vI 0 0), (vI 3 0), (vR 807), (.bool true), (vI 181 0), (vR 808), vN, (vR 809), (vR 810), (vR 811), (vI 1331 0), (vI 642 0), (vS "/claim/cut.py" 1332)])
noncomputable def g813 : Obj := oO (vT "function") (.func (fD (mS 127 0) "World.__init__" 3 [] (vR 806) vN (vS "basicplus.world" 1303) (vR 812) vN))
noncomputable def g815 (P : Params) : Obj := oO (vT "dict") (.dict (List.toArray [dE P "__module__" 1312 (vS "basicplus.world" 1303), dE P "__firstlineno__" 1316 (vI 640 1315), dE P "__init__" 1333 (vR 813), dE P "__static_attributes__" 1362 (vR 814), dE P "__dict__" 1364 (vR 817), dE P "__weakref__" 1366 (vR 818), dE P "__doc__" 1367 vN]) 4)
noncomputable def g816 : Obj := ⟨(vT "type"), none, (.cls ⟨Str.ofString "World", [(vT "object")], [(vR 816), (vT "object")], 815, Str.ofString "World", true, [], [], false, none, false⟩), List.toArray [none, none, (some (vS "World" 1305)), (some (vS "World" 1313)), (some (vB "object.__new__")), (some (.bool true))]⟩
noncomputable def g852 : Obj := oO (vT "code") (dF [(vS "parts_of_tree" 1405), (vS "parts_of_tree" 1406), (vS "/claim/cut.py" 1407), (vI 709 0), (vI 1 0), (vI 0 0), (vI 0 0), (vI 3 0), (vR 847), (.bool true), (vI 181 0), (vR 848), vN, (vR 849), (vR 850), (vR 851), (vI 1409 0), (vI 709 0), (vS "/claim/cut.py" 1410)])
noncomputable def g853 : Obj := oO (vT "function") (.func (fD (tS 134) "parts_of_tree" 3 [] vN vN (vS "basicplus.exprread" 1403) (vR 852) vN))
noncomputable def g894 : Obj := oO (vT "code") (dF [(vS "worth_of_leaf" 1468), (vS "worth_of_leaf" 1469), (vS "/claim/cut.py" 1470), (vI 747 0), (vI 3 0), (vI 0 0), (vI 0 0), (vI 3 0), (vR 889), (.bool true), (vI 181 0), (vR 890), vN, (vR 891), (vR 892), (vR 893), (vI 1476 0), (vI 747 0), (vS "/claim/cut.py" 1477)])
noncomputable def g895 : Obj := oO (vT "function") (.func (fD (tS 143) "worth_of_leaf" 3 [] vN vN (vS "basicplus.worth" 1412) (vR 894) vN))
noncomputable def g901 : Obj := oO (vT "code") (dF [(vS "worth_of_tree" 1479), (vS "worth_of_tree" 1480), (vS "/claim/cut.py" 1481), (vI 752 0), (vI 3 0), (vI 0 0), (vI 0 0), (vI 3 0), (vR 896), (.bool true), (vI 181 0), (vR 897), vN, (vR 898), (vR 899), (vR 900), (vI 1486 0), (vI 752 0), (vS "/claim/cut.py" 1487)])
noncomputable def g902 : Obj := oO (vT "function") (.func (fD (tS 144) "worth_of_tree" 3 [] vN vN (vS "basicplus.worth" 1412) (vR 901) vN))
noncomputable def g906 : Obj := oO (vT "code") (dF [(vS "worth" 1489), (vS "worth" 1490), (vS "/claim/cut.py" 1491), (vI 765 0), (vI 2 0), (vI 0 0), (vI 0 0), (vI 3 0), (vR 903), (.bool true), (vI 181 0), (vR 904), vN, vN, vN, (vR 905), (vI 1492 0), (vI 765 0), (vS "/claim/cut.py" 1493)])
noncomputable def g907 : Obj := oO (vT "function") (.func (fD (tS 145) "worth" 3 [] vN vN (vS "basicplus.worth" 1412) (vR 906) vN))
noncomputable def g920 : Obj := oO (vT "code") (dF [(vS "__init__" 1512), (vS "WorkRun.__init__" 1513), (vS "/claim/cut.py" 1514), (vI 783 0), (vI 4 0), (vI 0 0), (vI 0 0), (vI 3 0), (vR 915), (.bool true), (vI 181 0), (vR 916), vN, (vR 917), (vR 918), (vR 919), (vI 1519 0), (vI 783 0), (vS "/claim/cut.py" 1520)])
noncomputable def g921 : Obj := oO (vT "function") (.func (fD (mS 149 0) "WorkRun.__init__" 3 [] vN vN (vS "basicplus.workrun" 1496) (vR 920) vN))
noncomputable def g927 : Obj := oO (vT "code") (dF [(vS "worth" 1522), (vS "WorkRun.worth" 1523), (vS "/claim/cut.py" 1524), (vI 792 0), (vI 2 0), (vI 0 0), (vI 0 0), (vI 3 0), (vR 922), (.bool true), (vI 181 0), (vR 923), vN, (vR 924), (vR 925), (vR 926), (vI 1527 0), (vI 792 0), (vS "/claim/cut.py" 1528)])
noncomputable def g928 : Obj := oO (vT "function") (.func (fD (mS 149 1) "WorkRun.worth" 3 [] vN vN (vS "basicplus.workrun" 1496) (vR 927) vN))
noncomputable def g934 : Obj := oO (vT "code") (dF [(vS "whole" 1530), (vS "WorkRun.whole" 1531), (vS "/claim/cut.py" 1532), (vI 795 0), (vI 2 0), (vI 0 0), (vI 0 0), (vI 3 0), (vR 929), (.bool true), (vI 181 0), (vR 930), vN, (vR 931), (vR 932), (vR 933), (vI 1535 0), (vI 795 0), (vS "/claim/cut.py" 1536)])
noncomputable def g935 : Obj := oO (vT "function") (.func (fD (mS 149 2) "WorkRun.whole" 3 [] vN vN (vS "basicplus.workrun" 1496) (vR 934) vN))
noncomputable def g953 : Obj := oO (vT "code") (dF [(vS "call" 1552), (vS "WorkRun.call" 1553), (vS "/claim/cut.py" 1554), (vI 807 0), (vI 3 0), (vI 0 0), (vI 0 0), (vI 3 0), (vR 948), (.bool true), (vI 181 0), (vR 949), vN, (vR 950), (vR 951), (vR 952), (vI 1558 0), (vI 807 0), (vS "/claim/cut.py" 1559)])
noncomputable def g954 : Obj := oO (vT "function") (.func (fD (mS 149 5) "WorkRun.call" 3 [] vN vN (vS "basicplus.workrun" 1496) (vR 953) vN))
noncomputable def g960 : Obj := oO (vT "code") (dF [(vS "fn" 1561), (vS "WorkRun.fn" 1562), (vS "/claim/cut.py" 1563), (vI 810 0), (vI 3 0), (vI 0 0), (vI 0 0), (vI 3 0), (vR 955), (.bool true), (vI 181 0), (vR 956), vN, (vR 957), (vR 958), (vR 959), (vI 1567 0), (vI 810 0), (vS "/claim/cut.py" 1568)])
noncomputable def g961 : Obj := oO (vT "function") (.func (fD (mS 149 6) "WorkRun.fn" 3 [] vN vN (vS "basicplus.workrun" 1496) (vR 960) vN))
noncomputable def g974 : Obj := oO (vT "code") (dF [(vS "answered" 1579), (vS "WorkRun.answered" 1580), (vS "/claim/cut.py" 1581), (vI 818 0), (vI 3 0), (vI 0 0), (vI 0 0), (vI 3 0), (vR 969), (.bool true), (vI 181 0), (vR 970), vN, (vR 971), (vR 972), (vR 973), (vI 1585 0), (vI 818 0), (vS "/claim/cut.py" 1586)])
noncomputable def g975 : Obj := oO (vT "function") (.func (fD (mS 149 8) "WorkRun.answered" 3 [] vN vN (vS "basicplus.workrun" 1496) (vR 974) vN))
noncomputable def g1019 (P : Params) : Obj := oO (vT "dict") (.dict (List.toArray [dE P "__module__" 1507 (vS "basicplus.workrun" 1496), dE P "__firstlineno__" 1511 (vI 781 1510), dE P "__init__" 1521 (vR 921), dE P "worth" 1529 (vR 928), dE P "whole" 1537 (vR 935), dE P "value_of_name" 1545 (vR 942), dE P "item_of" 1551 (vR 947), dE P "call" 1560 (vR 954), dE P "fn" 1569 (vR 961), dE P "rows_worth" 1578 (vR 968), dE P "answered" 1587 (vR 975), dE P "assign" 1596 (vR 982), dE P "store" 1605 (vR 989), dE P "put" 1615 (vR 996), dE P "next_data" 1623 (vR 1003), dE P "number_told" 1631 (vR 1010), dE P "plus" 1640 (vR 1017), dE P "__static_attributes__" 1648 (vR 1018), dE P "__dict__" 1650 (vR 1021), dE P "__weakref__" 1652 (vR 1022), dE P "__doc__" 1653 vN]) 4)
noncomputable def g1020 : Obj := ⟨(vT "type"), none, (.cls ⟨Str.ofString "WorkRun", [(vT "object")], [(vR 1020), (vT "object")], 1019, Str.ofString "WorkRun", true, [], [], false, none, false⟩), List.toArray [none, none, (some (vS "WorkRun" 1500)), (some (vS "WorkRun" 1508)), (some (vB "object.__new__")), (some (.bool true))]⟩
noncomputable def g1030 : Obj := oO (vT "code") (dF [(vS "_law_next" 1658), (vS "_law_next" 1659), (vS "/claim/cut.py" 1660), (vI 842 0), (vI 2 0), (vI 0 0), (vI 0 0), (vI 3 0), (vR 1025), (.bool true), (vI 181 0), (vR 1026), vN, (vR 1027), (vR 1028), (vR 1029), (vI 1663 0), (vI 842 0), (vS "/claim/cut.py" 1664)])
noncomputable def g1031 : Obj := oO (vT "function") (.func (fD (tS 151) "_law_next" 3 [] vN vN (vS "law_pf0030_01" 1656) (vR 1030) vN))
noncomputable def g1037 : Obj := oO (vT "code") (dF [(vS "_law_text" 1666), (vS "_law_text" 1667), (vS "/claim/cut.py" 1668), (vI 847 0), (vI 1 0), (vI 0 0), (vI 0 0), (vI 3 0), (vR 1032), (.bool true), (vI 181 0), (vR 1033), vN, (vR 1034), (vR 1035), (vR 1036), (vI 1670 0), (vI 847 0), (vS "/claim/cut.py" 1671)])
noncomputable def g1038 : Obj := oO (vT "function") (.func (fD (tS 152) "_law_text" 3 [] vN vN (vS "law_pf0030_01" 1656) (vR 1037) vN))
noncomputable def g1044 : Obj := oO (vT "code") (dF [(vS "_law_item" 1673), (vS "_law_item" 1674), (vS "/claim/cut.py" 1675), (vI 849 0), (vI 1 0), (vI 0 0), (vI 0 0), (vI 3 0), (vR 1039), (.bool true), (vI 181 0), (vR 1040), vN, (vR 1041), (vR 1042), (vR 1043), (vI 1678 0), (vI 849 0), (vS "/claim/cut.py" 1679)])
noncomputable def g1045 : Obj := oO (vT "function") (.func (fD (tS 153) "_law_item" 3 [] vN vN (vS "law_pf0030_01" 1656) (vR 1044) vN))
noncomputable def g1051 : Obj := oO (vT "code") (dF [(vS "_law_value" 1681), (vS "_law_value" 1682), (vS "/claim/cut.py" 1683), (vI 860 0), (vI 1 0), (vI 0 0), (vI 0 0), (vI 3 0), (vR 1046), (.bool true), (vI 181 0), (vR 1047), vN, (vR 1048), (vR 1049), (vR 1050), (vI 1686 0), (vI 860 0), (vS "/claim/cut.py" 1687)])
noncomputable def g1052 : Obj := oO (vT "function") (.func (fD (tS 154) "_law_value" 3 [] vN vN (vS "law_pf0030_01" 1656) (vR 1051) vN))
noncomputable def g1056 : Obj := oO (vT "code") (dF [(vS "_law_order" 1689), (vS "_law_order" 1690), (vS "/claim/cut.py" 1691), (vI 865 0), (vI 1 0), (vI 0 0), (vI 0 0), (vI 3 0), (vR 1053), (.bool true), (vI 181 0), (vR 1054), vN, vN, vN, (vR 1055), (vI 1692 0), (vI 865 0), (vS "/claim/cut.py" 1693)])
noncomputable def g1057 : Obj := oO (vT "function") (.func (fD (tS 155) "_law_order" 3 [] vN vN (vS "law_pf0030_01" 1656) (vR 1056) vN))
noncomputable def g1063 : Obj := oO (vT "code") (dF [(vS "_law_worth" 1695), (vS "_law_worth" 1696), (vS "/claim/cut.py" 1697), (vI 873 0), (vI 1 0), (vI 0 0), (vI 0 0), (vI 3 0), (vR 1058), (.bool true), (vI 181 0), (vR 1059), vN, (vR 1060), (vR 1061), (vR 1062), (vI 1699 0), (vI 873 0), (vS "/claim/cut.py" 1700)])
noncomputable def g1064 : Obj := oO (vT "function") (.func (fD (tS 156) "_law_worth" 3 [] vN vN (vS "law_pf0030_01" 1656) (vR 1063) vN))
noncomputable def g1070 : Obj := oO (vT "code") (dF [(vS "_law_printed" 1702), (vS "_law_printed" 1703), (vS "/claim/cut.py" 1704), (vI 877 0), (vI 2 0), (vI 0 0), (vI 0 0), (vI 3 0), (vR 1065), (.bool true), (vI 181 0), (vR 1066), vN, (vR 1067), (vR 1068), (vR 1069), (vI 1711 0), (vI 877 0), (vS "/claim/cut.py" 1712)])
noncomputable def g1071 : Obj := oO (vT "function") (.func (fD (tS 157) "_law_printed" 3 [] vN vN (vS "law_pf0030_01" 1656) (vR 1070) vN))
noncomputable def g1075 : Obj := oO (vT "code") (dF [(vS "_law_done" 1714), (vS "_law_done" 1715), (vS "/claim/cut.py" 1716), (vI 901 0), (vI 2 0), (vI 0 0), (vI 0 0), (vI 3 0), (vR 1072), (.bool true), (vI 181 0), (vR 1073), vN, vN, vN, (vR 1074), (vI 1717 0), (vI 901 0), (vS "/claim/cut.py" 1718)])
noncomputable def g1076 : Obj := oO (vT "function") (.func (fD (tS 158) "_law_done" 3 [] vN vN (vS "law_pf0030_01" 1656) (vR 1075) vN))
noncomputable def g1082 : Obj := oO (vT "code") (dF [(vS "_law_code" 1720), (vS "_law_code" 1721), (vS "/claim/cut.py" 1722), (vI 919 0), (vI 1 0), (vI 0 0), (vI 0 0), (vI 3 0), (vR 1077), (.bool true), (vI 181 0), (vR 1078), vN, (vR 1079), (vR 1080), (vR 1081), (vI 1725 0), (vI 919 0), (vS "/claim/cut.py" 1726)])
noncomputable def g1083 : Obj := oO (vT "function") (.func (fD (tS 159) "_law_code" 3 [] vN vN (vS "law_pf0030_01" 1656) (vR 1082) vN))
noncomputable def g1089 : Obj := oO (vT "code") (dF [(vS "_law_put" 1728), (vS "_law_put" 1729), (vS "/claim/cut.py" 1730), (vI 925 0), (vI 2 0), (vI 0 0), (vI 0 0), (vI 3 0), (vR 1084), (.bool true), (vI 181 0), (vR 1085), vN, (vR 1086), (vR 1087), (vR 1088), (vI 1733 0), (vI 925 0), (vS "/claim/cut.py" 1734)])
noncomputable def g1090 : Obj := oO (vT "function") (.func (fD (tS 160) "_law_put" 3 [] vN vN (vS "law_pf0030_01" 1656) (vR 1089) vN))
noncomputable def g1094 : Obj := oO (vT "code") (dF [(vS "law" 1736), (vS "law" 1737), (vS "/claim/cut.py" 1738), (vI 932 0), (vI 1 0), (vI 0 0), (vI 0 0), (vI 3 0), (vR 1091), (.bool true), (vI 181 0), (vR 1092), vN, vN, vN, (vR 1093), (vI 1739 0), (vI 932 0), (vS "/claim/cut.py" 1740)])
noncomputable def g1095 : Obj := oO (vT "function") (.func (fD (tS 161) "law" 3 [] vN vN (vS "law_pf0030_01" 1656) (vR 1094) vN))
noncomputable def KF (P : Params) : Frag := [(2, g2 P), (3, g3 P), (25, g25), (30, g30), (37, g37), (38, g38), (40, g40 P), (41, g41), (71, g71), (72, g72), (120, g120), (121, g121), (127, g127), (128, g128), (141, g141), (142, g142), (240, g240), (241, g241), (268, g268), (269, g269), (273, g273), (274, g274), (280, g280), (281, g281), (287, g287), (288, g288), (294, g294), (295, g295), (301, g301), (302, g302), (308, g308), (309, g309), (350, g350), (351, g351), (353, g353 P), (354, g354), (364, g364), (365, g365), (371, g371), (372, g372), (378, g378), (379, g379), (385, g385), (386, g386), (392, g392), (393, g393), (399, g399), (400, g400), (406, g406), (407, g407), (413, g413), (414, g414), (427, g427), (428, g428), (430, g430 P), (431, g431), (441, g441), (442, g442), (469, g469), (470, g470), (476, g476), (477, g477), (539, g539), (540, g540), (546, g546), (547, g547), (551, g551), (552, g552), (558, g558), (559, g559), (565, g565), (566, g566), (572, g572), (573, g573), (579, g579), (580, g580), (586, g586), (587, g587), (591, g591), (592, g592), (598, g598), (599, g599), (603, g603), (604, g604), (608, g608), (609, g609), (783, g783), (784, g784), (786, g786 P), (787, g787), (806, g806), (812, g812), (813, g813), (815, g815 P), (816, g816), (852, g852), (853, g853), (894, g894), (895, g895), (901, g901), (902, g902), (906, g906), (907, g907), (920, g920), (921, g921), (927, g927), (928, g928), (934, g934), (935, g935), (953, g953), (954, g954), (960, g960), (961, g961), (974, g974), (975, g975), (1019, g1019 P), (1020, g1020), (1030, g1030), (1031, g1031), (1037, g1037), (1038, g1038), (1044, g1044), (1045, g1045), (1051, g1051), (1052, g1052), (1056, g1056), (1057, g1057), (1063, g1063), (1064, g1064), (1070, g1070), (1071, g1071), (1075, g1075), (1076, g1076), (1082, g1082), (1083, g1083), (1089, g1089), (1090, g1090), (1094, g1094), (1095, g1095)]
noncomputable def KA : List Addr := [2, 3, 25, 30, 37, 38, 40, 41, 71, 72, 120, 121, 127, 128, 141, 142, 240, 241, 268, 269, 273, 274, 280, 281, 287, 288, 294, 295, 301, 302, 308, 309, 350, 351, 353, 354, 364, 365, 371, 372, 378, 379, 385, 386, 392, 393, 399, 400, 406, 407, 413, 414, 427, 428, 430, 431, 441, 442, 469, 470, 476, 477, 539, 540, 546, 547, 551, 552, 558, 559, 565, 566, 572, 573, 579, 580, 586, 587, 591, 592, 598, 599, 603, 604, 608, 609, 783, 784, 786, 787, 806, 812, 813, 815, 816, 852, 853, 894, 895, 901, 902, 906, 907, 920, 921, 927, 928, 934, 935, 953, 954, 960, 961, 974, 975, 1019, 1020, 1030, 1031, 1037, 1038, 1044, 1045, 1051, 1052, 1056, 1057, 1063, 1064, 1070, 1071, 1075, 1076, 1082, 1083, 1089, 1090, 1094, 1095]
noncomputable def KG (P : Params) : Frag := (1092, tabObj #[]) :: KF P

noncomputable def bE : List Stmt := behindTheImports pE
noncomputable def envE : Env := { scope := pE.main.scope, locals := mainNs, globals := mainNs, cells := [], code := .ref 13, frame := some 14 }
noncomputable abbrev cE : Code := .body bE envE
noncomputable abbrev d0 : Drawn := {}
noncomputable abbrev s0 (w : World) (os : OsState) : SharedT := ⟨t0 w.params, n0, {}, Array.mk [], d0, k0, os⟩
noncomputable abbrev s1 (w : World) (os : OsState) : SharedT := ⟨t1 w.params, n1, {}, Array.mk [], d0, k1, os⟩
noncomputable abbrev s2 (w : World) (os : OsState) : SharedT := ⟨t2 w.params, n2, {}, Array.mk [], d0, k2, os⟩
noncomputable def b1 : List Stmt := bE.take 61
noncomputable def r1 : List Stmt := bE.drop 61
noncomputable def b2 : List Stmt := r1.take 52
noncomputable def r2 : List Stmt := r1.drop 52
noncomputable abbrev q0 : Pos := ⟨0, 0, 0, 0⟩
noncomputable abbrev ann0 : Option Value := some (.ref 6)
theorem run_pre : ∀ w : World, (fun os => topGo treeTable pE w 11 ann0 12 ⟨boot_heap w.params, Array.mk [], boot_drawn, boot_toks, os⟩ (topStub pE)) = fun os => some ((s0 w os).abs, ⟨denote treeTable cE, cE, p0, [topFrame q0]⟩) := by
  rw [PySem.W.Fast.te15667345088766844465, PySem.W.Fast.te14364793385576792824, PySem.W.Fast.te11892475500146522536]; intro w; kernel_rfl
theorem run_1 : ∀ w : World, (fun os => segRunT treeTable pE w 11 ann0 1 4000 (s0 w os) (piecesOf b1 envE cE p0 [topFrame q0])) = fun os => some (.next, s1 w os, cE, p1) := by
  rw [PySem.W.Fast.te10110043849684766642, PySem.W.Fast.te14364793385576792824]; intro w; kernel_rfl
theorem run_2 : ∀ w : World, (fun os => segRunT treeTable pE w 11 ann0 1 4000 (s1 w os) (piecesOf b2 envE cE p1 [topFrame q0])) = fun os => some (.next, s2 w os, cE, p2) := by
  rw [PySem.W.Fast.te10110043849684766642, PySem.W.Fast.te14364793385576792824]; intro w; kernel_rfl

noncomputable abbrev rR : OpenRow := PySem.Challenge.rw_pf0030_01.row
noncomputable def qV : Program := { pE with main := { pE.main with body := [tS 161] } }
noncomputable def looseL : List Str := List.map Str.ofString ["_wall", "MOST_TEXT", "MOST_EXPONENT", "BasicError", "error_codes", "number_of_error", "code_of_error", "kind_of", "kind_of_name", "first_value", "figures_of", "rounded_by", "made", "whole_near", "fits", "whole_of", "decimal_of", "text_of", "checked_text", "suited", "truth", "ONE", "MOST_POWER", "d_negated", "alike", "d_add", "d_sub", "d_mul", "with_rest", "d_div", "d_compare", "d_power", "square_or_end", "figures_text", "exponent_text", "size_text", "d_text", "whole_text", "MOST_CHANNEL", "MOST_NAME", "MOST_SIZE", "ROW_END", "check_name", "open_file", "is_written_elsewhere", "channel_of", "write_text", "write_text_files", "write_row", "field_text", "no_field", "hide_fields", "lay_fields", "ZONE", "WIDTH", "MOST_COLUMN", "Page", "end_row", "write_text_printing", "write_zone", "within_row", "write_blanks", "write_tab", "write_part", "write_parts", "Picture", "begins_number", "read_ahead", "read_places", "read_picture", "read_pieces", "piece_at", "padded_figures", "scaled", "grouped", "split_figures", "with_exponent", "lead_of", "tail_of", "number_by", "value_by", "is_plain", "using_text", "shown", "print_parts", "channel_told", "unfinished", "file_page", "write_page", "do_print", "do_using", "do_write", "is_whole", "settled", "whole_reckoned", "cut_quotient", "cut_rest", "exponent_of", "whole_power", "raised", "reckoned", "negated", "order_of", "inverted", "logic", "USUAL_HIGH", "Grid", "count_of", "kind_in", "check_highs", "dim", "grid_of", "place_of", "get_item", "Control", "error_number", "World", "kind_here", "get_name", "variable_value", "fn_called", "parts_of_tree", "LOGIC", "COMPARISONS", "order_of_texts", "compared", "worth_of_texts", "worth_of_two", "worth_of_one", "worth_of_leaf", "worth_of_tree", "worth", "worth_worth", "MOST_PILE", "WorkRun", "_law_next", "_law_text", "_law_item", "_law_value", "_law_order", "_law_worth", "_law_printed", "_law_done", "_law_code", "_law_put"]
theorem run_3 : ∀ w : World, (fun os => (segRunT treeTable pE w 11 ann0 1 4000 (s2 w os) (piecesOf r2 envE cE p2 [topFrame q0])).map fun x => (x.1, x.2.2.1, x.2.2.2,
    (staticsOk (importedModules pE.main.body) (boot_heap w.params) x.2.1.abs.heap && namesBound pE x.2.1.abs.heap && gensDone x.2.1.abs && laidKept (boot_heap w.params) x.2.1.abs.heap),
    openSeen qV looseL (importedModules pE.main.body) (fun s => recOk (RowW.records rR.toRowW) s) true x.2.1.abs,
    (KG w.params).map (fun y => x.2.1.tree.get y.1), (KG w.params).all fun y => Nat.blt y.1 x.2.1.n && !y.2.isFreed)) =
    fun os => some (.next, cE, p9, true, openGood qV looseL, (KG w.params).map fun y => some y.2, true) := by
  rw [PySem.W.Fast.te10110043849684766642, PySem.W.Fast.te14364793385576792824, PySem.W.Fast.te4187177175401517315]; intro w; kernel_rfl
end
noncomputable section
theorem run_block (w : World) (os : OsState) : segRun treeTable pE w 11 ann0 1 1 (s0 w os).abs (blockOf bE envE cE p0 [topFrame q0]) = some (.next, (s0 w os).abs, cE, p0) := by kernel_rfl
theorem run_fin (w : World) (s : Shared) : topRun treeTable pE w 11 ann0 2 s ⟨doneF .next, cE, p9, [topFrame q0]⟩ = some s := by kernel_rfl
theorem boot_p : ∀ w : World, (fencedOpening treeTable pE w 20000).map (fun s => (s.heap, s.gens, s.drawn, s.toks)) = some (boot_heap w.params, Array.mk [], boot_drawn, boot_toks) :=
  boot_open (by kernel_rfl) (by kernel_rfl) (fun s => by kernel_rfl)
theorem boot_size (w : World) : ((boot_heap w.params).isNs mainGlobals && (Array.mk [] : Array GenState).size == 0, (boot_heap w.params).objs.size, (boot_heap w.params).nsMap mainGlobals "__annotations__") = (true, 11, ann0) := by kernel_rfl
theorem run_all (w : World) (os : OsState) : ∃ s : SharedT, topRun treeTable pE w 11 ann0 12015 ⟨boot_heap w.params, Array.mk [], boot_drawn, boot_toks, os⟩ (topStub pE) = some s.abs ∧
    ((staticsOk (importedModules pE.main.body) (boot_heap w.params) s.abs.heap && namesBound pE s.abs.heap && gensDone s.abs && laidKept (boot_heap w.params) s.abs.heap) = true ∧
    openSeen qV looseL (importedModules pE.main.body) (fun s => recOk (RowW.records rR.toRowW) s) true s.abs = openGood qV looseL ∧
    (KG w.params).map (fun y => s.tree.get y.1) = (KG w.params).map (fun y => some y.2) ∧ ((KG w.params).all fun y => Nat.blt y.1 s.n && !y.2.isFreed) = true) := by
  obtain ⟨⟨f, s, c, q⟩, hx, e⟩ := Option.map_eq_some_iff.mp (congrFun (run_3 w) os)
  simp only [Prod.mk.injEq] at e
  obtain ⟨rfl, rfl, rfl, e1, e2, e3, e4⟩ := e
  refine ⟨s, ?_, e1, e2, e3, e4⟩
  have z1 := segRun_of (congrFun (run_1 w) os)
  have z2 := segRun_of (congrFun (run_2 w) os)
  have z3 := segRun_of hx
  have y3 := piece_app (rest := []) z3 (piece_nil (run_fin w s.abs))
  have y2 := piece_app (rest := r2 ++ []) z2 y3
  have y1 := piece_app (rest := b2 ++ (r2 ++ [])) z1 y2
  have hb : b1 ++ (b2 ++ (r2 ++ [])) = bE := by
    show bE.take 61 ++ ((bE.drop 61).take 52 ++ ((bE.drop 61).drop 52 ++ [])) = bE
    rw [List.append_nil, List.take_append_drop, List.take_append_drop]
  rw [hb] at y1
  have y0 := piece_block (run_block w os) y1
  exact go_top (congrFun (run_pre w) os) y0
theorem KA_eq (P : Params) : KA = (KF P).map (·.1) := by kernel_rfl
noncomputable abbrev HK : Hook := kmHook KF KA KA_eq [1092]
theorem alive_of {o : Obj} (h : o.isFreed = false) : alive o = some o := by
  obtain ⟨c, d, dt, sl⟩ := o
  cases dt <;> first | rfl | cases h
theorem frag_gets {K : Frag} {s : SharedT} (e3 : K.map (fun y => s.tree.get y.1) = K.map (fun y => some y.2)) (e4 : (K.all fun y => Nat.blt y.1 s.n && !y.2.isFreed) = true) : ∀ y ∈ K, s.abs.heap.get? y.1 = some y.2 := by
  intro y hy
  have h4 := List.all_eq_true.mp e4 y hy
  rw [Bool.and_eq_true, Bool.not_eq_true'] at h4
  have h3 : s.tree.get y.1 = some y.2 := List.map_inj_left.mp e3 y hy
  show (absHeap s.tree s.n s.life).get? y.1 = _
  rw [abs_get (Nat.blt_eq.mp h4.1) h3, alive_of h4.2]
theorem top_from {tb : String → Option Builtin} {p : Program} {w : World} {N m₀ : Nat} {ann : Option Value} {s₀ s : Shared} (z1 : (s₀.heap.isNs mainGlobals && s₀.gens.size == 0) = true) (z2 : s₀.heap.objs.size = m₀) (z3 : s₀.heap.nsMap mainGlobals "__annotations__" = ann)
    (r : topRun tb p w m₀ ann N s₀ (topStub p) = some s) (l : (staticsOk (importedModules p.main.body) s₀.heap s.heap && namesBound p s.heap && gensDone s && laidKept s₀.heap s.heap) = true) : topFrom tb p w N s₀ = some s := by
  unfold topFrom
  rw [z1, z2, z3, r]
  show (match staticsOk (importedModules p.main.body) s₀.heap s.heap && namesBound p s.heap && gensDone s && laidKept s₀.heap s.heap with | true => some s | false => none) = _
  rw [l]
theorem ends_of {tb : String → Option Builtin} {p : Program} {w : World} {N : Nat} {s₀ s : Shared} {β : Type} {f : Shared → β} {b : β} (e : fencedOpening tb p w N = some s₀) (t : topFrom tb p w N s₀ = some s) (h : f s = b) : (openEnds tb p w N).map f = some b := by
  unfold openEnds
  rw [e, Option.bind_some, t, Option.map_some, h]
theorem left : LeftO rR.prog qV looseL (fun s => recOk (RowW.records rR.toRowW) s) HK.obs HK.val 20000 := fun w => by
  obtain ⟨⟨h, gs, d, k, os⟩, e, e'⟩ := Option.map_eq_some_iff.mp (boot_p w)
  obtain ⟨rfl, rfl, rfl, rfl⟩ : h = boot_heap w.params ∧ gs = Array.mk [] ∧ d = boot_drawn ∧ k = boot_toks := by simpa using e'
  obtain ⟨z1, z2, z3⟩ : _ ∧ _ ∧ _ := by simpa only [Prod.mk.injEq] using boot_size w
  obtain ⟨s, r, l1, l2, l3, l4⟩ := run_all w os
  have r := topRun_mono 7985 _ _ _ _ r
  rw [show 12015 + 7985 = 20000 from rfl] at r
  have t : topFrom treeTable pE w 20000 ⟨boot_heap w.params, Array.mk [], boot_drawn, boot_toks, os⟩ = some s.abs := top_from z1 z2 z3 r l1
  have g := frag_gets l3 l4
  refine ends_of e t (Prod.ext l2 (Prod.ext ?_ ?_))
  · show KA.map s.abs.heap.get? = (KF w.params).map fun p => some p.2
    rw [KA_eq w.params, List.map_map]
    exact List.map_congr_left fun y hy => g y (.tail _ hy)
  · exact congrArg (fun x => [x]) (g (1092, tabObj #[]) (.head _))
noncomputable def dLaw : DefRec := match tS 161 with | .FunctionDef name args body _ _ _ scope _ _ pos => ⟨name, args, body, scope, pos⟩ | _ => ⟨Str.ofString "", default, [], default, default⟩
theorem band {a b : Bool} (x : a = true) (y : b = true) : (a && b) = true := by rw [x, y]; rfl
theorem said_3 : PySem.W.Fast.tw8377067652309620493 (PySem.W.Fast.tw2368527892694137696 PySem.Challenge.rw_pf0030_01).prog = true := by kernel_rfl
theorem said_p : PySem.W.Fast.tw2436336058641802641 (PySem.W.Fast.tw2368527892694137696 PySem.Challenge.rw_pf0030_01) = true := by
  delta PySem.W.Fast.tw2436336058641802641
  repeat' (first | with_reducible refine band ?_ ?_ | delta PySem.W.Fast.tw12908688711261696721)
  all_goals first | with_reducible exact said_3 | skip
  all_goals kernel_rfl
theorem said_law : PySem.Challenge.rw_pf0030_01.wellSaid = true := by
  rw [PySem.W.Fast.te9446332074065402090]
  delta PySem.W.Fast.tw9446332074065402090
  repeat' (first | with_reducible refine band ?_ ?_ | delta PySem.W.Fast.tw17960256430627541270)
  all_goals first | with_reducible exact said_p | skip
  all_goals kernel_rfl
theorem def_law : defOf qV rR.name = some (dLaw, []) := by kernel_rfl
theorem the_law : rR.prog.theDef rR.name = some (dLaw.params, dLaw.body, dLaw.scope) := by kernel_rfl
theorem kw_law : kwWritten? dLaw.params.kwonlyargs dLaw.params.kw_defaults = some [] := by kernel_rfl
theorem ok_law : (chainsOk qV && opensWell rR.prog && (frees rR.toRowW && rR.within.isEmpty)) = true := by kernel_rfl
theorem wr_law : (!rR.writes || rR.records.isEmpty) = true := by kernel_rfl
theorem bare_law : rR.prog.bare := ⟨rfl, rfl, rfl, rfl, rfl, by
  show PySem.TablesWhole.wProgram PySem.TablesWhole.holds _ = true
  delta PySem.TablesWhole.wProgram
  simp only []
  rw [PySem.W.Fast.te6116379765354995101]
  kernel_rfl⟩
theorem head (call : WalkO qV looseL (fun _ _ => True) HK.says rR.toRowW dLaw [] fun f vs => PySem.call f vs) : PySem.Challenge.rw_pf0030_01.Holds :=
  holds_law said_law fun said => holds_open (XP := fun _ _ => True) left HK.of HK.keeps (fun _ _ => trivial) (fun _ _ _ _ _ => trivial) def_law the_law kw_law (fun s e => recFacts_of e) wr_law said ok_law bare_law (by w_witness2) call
end


/-! values without tokens, tuples by value -/
inductive AV where
  | none | bool (b : Bool) | int (i : Int) | str (s : Str) | tup (l : List AV) | ref (a : Addr) | ty (n : String) | bi (n : String)

mutual
inductive VR (h : Heap) : Value → AV → Prop where
  | none : VR h .none .none
  | bool (b : Bool) : VR h (.bool b) (.bool b)
  | int (i : Int) (t : Tok) : VR h (.int i t) (.int i)
  | str (s : Str) (t : Tok) : VR h (.str s t) (.str s)
  | ref (a : Addr) : VR h (.ref a) (.ref a)
  | ty (n : String) : VR h (.type n) (.ty n)
  | bi (n : String) : VR h (.builtin n) (.bi n)
  | tup (a : Addr) (vs : List Value) (l : List AV) : IsTup h a vs.toArray → VRs h vs l → VR h (.ref a) (.tup l)
inductive VRs (h : Heap) : List Value → List AV → Prop where
  | nil : VRs h [] []
  | cons {v : Value} {a : AV} {vs : List Value} {as : List AV} : VR h v a → VRs h vs as → VRs h (v :: vs) (a :: as)
end

/-- the tuples of one heap stand in the other -/
noncomputable def Tups (h h' : Heap) : Prop := ∀ a vs, IsTup h a vs → IsTup h' a vs
theorem Tups.refl (h : Heap) : Tups h h := fun _ _ x => x
theorem Tups.trans {h₁ h₂ h₃ : Heap} (x : Tups h₁ h₂) (y : Tups h₂ h₃) : Tups h₁ h₃ := fun a vs t => y a vs (x a vs t)

theorem VR.tups {h h' : Heap} (T : Tups h h') {v : Value} {a : AV} (x : VR h v a) : VR h' v a :=
  VR.rec (motive_1 := fun v a _ => VR h' v a) (motive_2 := fun vs as _ => VRs h' vs as) .none .bool .int .str .ref .ty .bi (fun a vs l t _ ih => .tup a vs l (T _ _ t) ih) .nil (fun _ _ p q => .cons p q) x
theorem VRs.tups {h h' : Heap} (T : Tups h h') {vs : List Value} {as : List AV} (x : VRs h vs as) : VRs h' vs as :=
  VRs.rec (motive_1 := fun v a _ => VR h' v a) (motive_2 := fun vs as _ => VRs h' vs as) .none .bool .int .str .ref .ty .bi (fun a vs l t _ ih => .tup a vs l (T _ _ t) ih) .nil (fun _ _ p q => .cons p q) x

theorem VRs.length {h : Heap} {vs : List Value} {as : List AV} : VRs h vs as → vs.length = as.length := by
  induction vs generalizing as with
  | nil => intro x; cases x; rfl
  | cons v vs ih => intro x; cases x with | cons _ hs => exact congrArg (· + 1) (ih hs)
theorem VRs.get {h : Heap} {vs : List Value} {as : List AV} : VRs h vs as → ∀ {i : Nat} {a : AV}, as[i]? = some a → ∃ v, vs[i]? = some v ∧ VR h v a := by
  induction vs generalizing as with
  | nil => intro x; cases x; intro i a e; simp at e
  | cons v vs ih =>
    intro x; cases x with
    | cons hv hs =>
      intro i a e
      cases i with
      | zero => cases e; exact ⟨_, rfl, hv⟩
      | succ i => exact ih hs (i := i) e
theorem VRs.append {h : Heap} {vs ws : List Value} {as bs : List AV} : VRs h vs as → VRs h ws bs → VRs h (vs ++ ws) (as ++ bs) := by
  induction vs generalizing as with
  | nil => intro x y; cases x; exact y
  | cons v vs ih => intro x y; cases x with | cons hv hs => exact .cons hv (ih hs y)
theorem VRs.set {h : Heap} {vs : List Value} {as : List AV} : VRs h vs as → ∀ {i : Nat} {v : Value} {a : AV}, VR h v a → VRs h (vs.set i v) (as.set i a) := by
  induction vs generalizing as with
  | nil => intro x; cases x; intro i v a e; exact .nil
  | cons w vs ih =>
    intro x; cases x with
    | cons hv hs =>
      intro i v a e
      cases i with
      | zero => exact .cons e hs
      | succ i => exact .cons hv (ih hs e)

/-! lookups and changes in lists of pairs, by unification alone -/
inductive Lk {κ α : Type} : κ → List (κ × α) → α → Prop where
  | here {k : κ} {a : α} {r : List (κ × α)} : Lk k ((k, a) :: r) a
  | there {k : κ} {a : α} {p : κ × α} {r : List (κ × α)} : Lk k r a → Lk k (p :: r) a
inductive Up {κ α : Type} : κ → α → List (κ × α) → List (κ × α) → Prop where
  | here {k : κ} {a b : α} {r : List (κ × α)} : Up k a ((k, b) :: r) ((k, a) :: r)
  | there {k : κ} {a : α} {p : κ × α} {r r' : List (κ × α)} : Up k a r r' → Up k a (p :: r) (p :: r')
section
variable {κ α : Type} {k : κ} {a : α} {l l' : List (κ × α)}
theorem Lk.mem (x : Lk k l a) : (k, a) ∈ l := by
  induction x with
  | here => exact .head _
  | there _ ih => exact .tail _ ih
theorem Up.keys (x : Up k a l l') : l'.map (·.1) = l.map (·.1) := by
  induction x with
  | here => rfl
  | there _ ih => simp only [List.map_cons, ih]
theorem Up.lk (x : Up k a l l') : Lk k l' a := by
  induction x with
  | here => exact .here
  | there _ ih => exact .there ih
theorem Up.key_mem (x : Up k a l l') : k ∈ l.map (·.1) := by
  induction x with
  | here => exact .head _
  | there _ ih => exact .tail _ ih
theorem Up.mem (x : Up k a l l') (hn : (l.map (·.1)).Nodup) : ∀ p ∈ l', p = (k, a) ∨ (p.1 ≠ k ∧ p ∈ l) := by
  induction x with
  | here =>
    intro p hp
    rw [List.map_cons, List.nodup_cons] at hn
    rcases List.mem_cons.mp hp with rfl | hp
    · exact .inl rfl
    · exact .inr ⟨fun e => hn.1 (by rw [← e]; exact List.mem_map_of_mem (f := (·.1)) hp), .tail _ hp⟩
  | there h ih =>
    intro p hp
    rw [List.map_cons, List.nodup_cons] at hn
    rcases List.mem_cons.mp hp with rfl | hp
    · exact .inr ⟨fun e => hn.1 (by rw [e]; exact h.key_mem), .head _⟩
    · rcases ih hn.2 p hp with e | ⟨e, m⟩
      · exact .inl e
      · exact .inr ⟨e, .tail _ m⟩
theorem Up.ex (x : Lk k l a) (b : α) : ∃ l', Up k b l l' := by
  induction x with
  | here => exact ⟨_, .here⟩
  | there _ ih => obtain ⟨l', h⟩ := ih; exact ⟨_, .there h⟩
theorem key_inj {l : List (κ × α)} (hn : (l.map (·.1)).Nodup) {k : κ} {a b : α} (ha : (k, a) ∈ l) (hb : (k, b) ∈ l) : a = b := by
  induction l with
  | nil => cases ha
  | cons p r ih =>
    rw [List.map_cons, List.nodup_cons] at hn
    rcases List.mem_cons.mp ha with e | ha'
    · rcases List.mem_cons.mp hb with e' | hb'
      · rw [← e] at e'; exact (Prod.mk.inj e').2.symm
      · exact absurd (by rw [← e]; exact List.mem_map_of_mem (f := (·.1)) hb') hn.1
    · rcases List.mem_cons.mp hb with e' | hb'
      · exact absurd (by rw [← e']; exact List.mem_map_of_mem (f := (·.1)) ha') hn.1
      · exact ih hn.2 ha' hb'
end

/-! objects of the ledger -/
inductive AO where
  | list (l : List AV)
  | wlist (l : List AV)
  | lst (n : Nat)
  | obj (o : Obj)
  | any (P : Heap → Addr → Prop)
  | sd (es : List (Str × AV))
  | id (es : List (Int × AV))
  | ide (es : List (Int × AV)) (ep : Nat)
  | inst (C d : Addr)
  | cell (v : Option AV)
  | fn (fd : FuncData)

inductive KVR {κ : Type} (h : Heap) : List (κ × Value) → List (κ × AV) → Prop where
  | nil : KVR h [] []
  | cons {k : κ} {v : Value} {a : AV} {r : List (κ × Value)} {r' : List (κ × AV)} : VR h v a → KVR h r r' → KVR h ((k, v) :: r) ((k, a) :: r')
section
variable {κ : Type} {h h' : Heap}
theorem KVR.tups (T : Tups h h') {r : List (κ × Value)} {r' : List (κ × AV)} (x : KVR h r r') : KVR h' r r' := by
  induction x with
  | nil => exact .nil
  | cons hv _ ih => exact .cons (hv.tups T) ih
theorem KVR.keys {r : List (κ × Value)} {r' : List (κ × AV)} (x : KVR h r r') : r.map (·.1) = r'.map (·.1) := by
  induction x with
  | nil => rfl
  | cons _ _ ih => exact congrArg _ ih
theorem KVR.length {r : List (κ × Value)} {r' : List (κ × AV)} (x : KVR h r r') : r.length = r'.length := by
  induction x with
  | nil => rfl
  | cons _ _ ih => exact congrArg (· + 1) ih
theorem valueAt_here [DecidableEq κ] {k : κ} {v : Value} {r : List (κ × Value)} : valueAt ((k, v) :: r) k = some v := by simp [valueAt]
theorem valueAt_else [DecidableEq κ] {k k' : κ} {v : Value} {r : List (κ × Value)} (hne : ¬ k' = k) : valueAt ((k', v) :: r) k = valueAt r k := by simp [valueAt, List.find?_cons, hne]
theorem KVR.lk [DecidableEq κ] {k : κ} {a : AV} {r : List (κ × Value)} {r' : List (κ × AV)} (x : KVR h r r') : Lk k r' a → (r.map (·.1)).Nodup → ∃ v, valueAt r k = some v ∧ VR h v a := by
  induction x with
  | nil => intro l; cases l
  | cons hv hs ih =>
    intro l hn
    rw [List.map_cons, List.nodup_cons] at hn
    cases l with
    | here => exact ⟨_, valueAt_here, hv⟩
    | there hl =>
      have hm := List.mem_map_of_mem (f := (·.1)) hl.mem
      rw [← hs.keys] at hm
      obtain ⟨v, e, hv'⟩ := ih hl hn.2
      exact ⟨v, (valueAt_else fun q => hn.1 (by rw [q]; exact hm)).trans e, hv'⟩
theorem KVR.none [DecidableEq κ] {k : κ} {r : List (κ × Value)} {r' : List (κ × AV)} (x : KVR h r r') : k ∉ r'.map (·.1) → valueAt r k = none := by
  induction x with
  | nil => intro _; rfl
  | cons hv hs ih =>
    intro hn
    rw [List.map_cons, List.mem_cons, not_or] at hn
    exact (valueAt_else fun e => hn.1 e.symm).trans (ih hn.2)
theorem stored_here [DecidableEq κ] {k : κ} {v v' : Value} {r : List (κ × Value)} (hn : k ∉ r.map (·.1)) : stored ((k, v') :: r) k v = (k, v) :: r := by
  have e := map_store_of_not_mem r k v hn
  simp only [stored, List.any_cons, decide_true, Bool.true_or, if_true, List.map_cons]
  rw [e]
theorem stored_else [DecidableEq κ] {k k' : κ} {v v' : Value} {r : List (κ × Value)} (hm : k ∈ r.map (·.1)) (hne : ¬ k' = k) : stored ((k', v') :: r) k v = (k', v') :: stored r k v := by
  have hany : (r.any fun kv => decide (kv.1 = k)) = true := by
    obtain ⟨q, hq, e⟩ := List.mem_map.mp hm
    exact List.any_eq_true.mpr ⟨q, hq, by simp [e]⟩
  simp only [stored, List.any_cons, hany, Bool.or_true, if_true, List.map_cons, if_neg hne]
theorem KVR.up [DecidableEq κ] {k : κ} {a : AV} {v : Value} (hv : VR h v a) {r : List (κ × Value)} {r' : List (κ × AV)} (x : KVR h r r') : ∀ {r'' : List (κ × AV)}, Up k a r' r'' → (r.map (·.1)).Nodup → KVR h (stored r k v) r'' := by
  induction x with
  | nil => intro _ u; cases u
  | cons hv' hs ih =>
    intro r'' u hn
    rw [List.map_cons, List.nodup_cons] at hn
    cases u with
    | here => rw [stored_here hn.1]; exact .cons hv hs
    | there hu =>
      have hm := hu.key_mem
      rw [← hs.keys] at hm
      rw [stored_else hm fun q => hn.1 (by rw [q]; exact hm)]
      exact .cons hv' (ih hu hn.2)
theorem KVR.new [DecidableEq κ] {k : κ} {a : AV} {v : Value} (hv : VR h v a) : ∀ {r : List (κ × Value)} {r' : List (κ × AV)}, KVR h r r' → k ∉ r'.map (·.1) → KVR h (stored r k v) (r' ++ [(k, a)])
  | r, r', H, hn => by
    have hk : k ∉ r.map (·.1) := by rw [H.keys]; exact hn
    have hany : (r.any fun kv => decide (kv.1 = k)) = false := by
      rw [List.any_eq_false]
      intro q hq e
      exact hk (by simpa using ⟨q.2, by have := (of_decide_eq_true e); rw [← this]; exact hq⟩)
    have : stored r k v = r ++ [(k, v)] := by simp only [stored, hany, Bool.false_eq_true, if_false]
    rw [this]
    clear this hany hk hn
    induction H with
    | nil => exact .cons hv .nil
    | cons hv' _ ih => exact .cons hv' ih
end

noncomputable def OR (prog : Program) (w : World) (h : Heap) (a : Addr) : AO → Prop
  | .list l => ∃ (vs : List Value) (n : Nat), IsL h a vs.toArray n ∧ VRs h vs l
  | .wlist l => ∃ vs : List Value, h.IsList a vs.toArray ∧ VRs h vs l
  | .lst n => ∃ (vs : List Value) (k : Nat), IsL h a vs.toArray k ∧ vs.length ≤ n
  | .obj o => h.get? a = some o ∧ ∀ vs n, o.data ≠ .seq vs n
  | .any P => P h a ∧ (∃ o, h.get? a = some o ∧ ∀ vs n, o.data ≠ .seq vs n) ∧ ∀ h₁ h₂, P h₁ a → Tups h₁ h₂ → (∀ ob, h₁.get? a = some ob → h₂.get? a = some ob) → P h₂ a
  | .sd es => ∃ kvs, h.DictOf (strKind prog w) a kvs ∧ KVR h kvs es
  | .id es => ∃ kvs, h.DictOf (intKind prog w) a kvs ∧ KVR h kvs es
  | .ide es ep => ∃ kvs, h.DictAt (intKind prog w) a kvs ep ∧ KVR h kvs es
  | .inst C d => ∃ sl, h.get? a = some ⟨.ref C, some d, .plain, sl⟩
  | .cell v => ∃ cv, h.IsCell a cv ∧ (match v, cv with | some av, some x => VR h x av | none, none => True | _, _ => False)
  | .fn fd => ∃ o, h.get? a = some o ∧ o.cls = .type "function" ∧ o.data = .func fd

section
variable {prog : Program} {w : World} {h h' : Heap} {a : Addr} {o : AO}
theorem OR.there (x : OR prog w h a o) : ∃ ob, h.get? a = some ob := by
  cases o with
  | list l => obtain ⟨_, _, ho, _⟩ := x; exact ⟨_, ho⟩
  | wlist l => obtain ⟨_, ⟨o, ho, _⟩, _⟩ := x; exact ⟨o, ho⟩
  | lst n => obtain ⟨_, _, ho, _⟩ := x; exact ⟨_, ho⟩
  | obj o => exact ⟨o, x.1⟩
  | any P => obtain ⟨_, ⟨o, ho, _⟩, _⟩ := x; exact ⟨o, ho⟩
  | sd es => obtain ⟨_, ⟨o, _, _, ho, _⟩, _⟩ := x; exact ⟨o, ho⟩
  | id es => obtain ⟨_, ⟨o, _, _, ho, _⟩, _⟩ := x; exact ⟨o, ho⟩
  | ide es ep => obtain ⟨_, ⟨o, _, ho, _⟩, _⟩ := x; exact ⟨o, ho⟩
  | inst C d => obtain ⟨_, ho⟩ := x; exact ⟨_, ho⟩
  | cell v => obtain ⟨_, ⟨o, ho, _⟩, _⟩ := x; exact ⟨o, ho⟩
  | fn fd => obtain ⟨o, ho, _⟩ := x; exact ⟨o, ho⟩
theorem ty_ne {a b : String} (h : Value.type a = Value.type b) (n : (a == b) = false) : False := by
  cases h; simp at n
theorem OR.noTup (x : OR prog w h a o) {vs : Array Value} (t : IsTup h a vs) : False := by
  obtain ⟨ot, ht, hc, n, hd⟩ := t
  cases o with
  | list l => obtain ⟨_, _, ho, _⟩ := x; exact ty_ne (hc.symm.trans (congrArg Obj.cls (Option.some.inj (ht.symm.trans ho)))) (by decide)
  | wlist l => obtain ⟨_, ⟨o, ho, hc', _⟩, _⟩ := x; rw [ht] at ho; cases ho; exact ty_ne (hc.symm.trans hc') (by decide)
  | lst n => obtain ⟨_, _, ho, _⟩ := x; exact ty_ne (hc.symm.trans (congrArg Obj.cls (Option.some.inj (ht.symm.trans ho)))) (by decide)
  | obj o => obtain ⟨ho, hn⟩ := x; exact hn vs n (by rw [← Option.some.inj (ht.symm.trans ho)]; exact hd)
  | any P => obtain ⟨_, ⟨o, ho, hn⟩, _⟩ := x; exact hn vs n (by rw [← Option.some.inj (ht.symm.trans ho)]; exact hd)
  | sd es => obtain ⟨_, ⟨o, _, _, ho, he, _⟩, _⟩ := x; rw [ht] at ho; cases ho; exact ty_ne (hc.symm.trans he.1) (by decide)
  | id es => obtain ⟨_, ⟨o, _, _, ho, he, _⟩, _⟩ := x; rw [ht] at ho; cases ho; exact ty_ne (hc.symm.trans he.1) (by decide)
  | ide es ep => obtain ⟨_, ⟨o, _, ho, he, _⟩, _⟩ := x; rw [ht] at ho; cases ho; exact ty_ne (hc.symm.trans he.1) (by decide)
  | inst C d => obtain ⟨_, ho⟩ := x; rw [ht] at ho; cases ho; cases hc
  | cell v => obtain ⟨_, ⟨o, ho, hd'⟩, _⟩ := x; rw [ht] at ho; cases ho; rw [hd] at hd'; cases hd'
  | fn fd => obtain ⟨o, ho, hc', _⟩ := x; rw [ht] at ho; cases ho; exact ty_ne (hc.symm.trans hc') (by decide)
/-- an object of the ledger that stands as it stood, the tuples too -/
theorem OR.keeps (x : OR prog w h a o) (T : Tups h h') (k : ∀ ob, h.get? a = some ob → h'.get? a = some ob) : OR prog w h' a o := by
  cases o with
  | list l => obtain ⟨vs, n, ho, hv⟩ := x; exact ⟨vs, n, k _ ho, hv.tups T⟩
  | wlist l => obtain ⟨vs, ⟨o, ho, r⟩, hv⟩ := x; exact ⟨vs, ⟨o, k _ ho, r⟩, hv.tups T⟩
  | lst n => obtain ⟨vs, n, ho, hv⟩ := x; exact ⟨vs, n, k _ ho, hv⟩
  | obj o => exact ⟨k _ x.1, x.2⟩
  | any P => obtain ⟨hp, ⟨o, ho, r⟩, st⟩ := x; exact ⟨st h h' hp T k, ⟨o, k _ ho, r⟩, st⟩
  | sd es => obtain ⟨kvs, ⟨o, e, ep, ho, r⟩, hv⟩ := x; exact ⟨kvs, ⟨o, e, ep, k _ ho, r⟩, hv.tups T⟩
  | id es => obtain ⟨kvs, ⟨o, e, ep, ho, r⟩, hv⟩ := x; exact ⟨kvs, ⟨o, e, ep, k _ ho, r⟩, hv.tups T⟩
  | ide es ep => obtain ⟨kvs, ⟨o, e, ho, r⟩, hv⟩ := x; exact ⟨kvs, ⟨o, e, k _ ho, r⟩, hv.tups T⟩
  | inst C d => obtain ⟨sl, ho⟩ := x; exact ⟨sl, k _ ho⟩
  | cell v =>
    obtain ⟨cv, ⟨o, ho, r⟩, hv⟩ := x
    refine ⟨cv, ⟨o, k _ ho, r⟩, ?_⟩
    cases v <;> cases cv <;> first | exact hv | exact VR.tups T hv
  | fn fd => obtain ⟨o, ho, r⟩ := x; exact ⟨o, k _ ho, r⟩
end

noncomputable abbrev Led := List (Addr × AO)
noncomputable abbrev adr (Γ : Led) : List Addr := Γ.map (·.1)

/-- an address that is the ledger's own, or that did not stand -/
noncomputable def New (Γ : Led) (h : Heap) (a : Addr) : Prop := a ∈ adr Γ ∨ h.get? a = none
/-- what a piece of a run leaves as it was: all that stood but the ledger's own and X (slots apart) -/
structure Pres (X : List Addr) (Γ : Led) (h : Heap) (Γ' : Led) (h' : Heap) : Prop where
  keep : ∀ a o, h.get? a = some o → a ∉ X → a ∉ adr Γ → ∃ sl, h'.get? a = some { o with slots := sl }
  grow : ∀ a, a ∈ adr Γ' → New Γ h a
  live : ∀ a, a ∈ X → a ∉ adr Γ → ∀ o, h.get? a = some o → ∃ o', h'.get? a = some o'
section
variable {X : List Addr} {Γ Γ₁ Γ₂ : Led} {h h₁ h₂ : Heap}
theorem Pres.refl (X : List Addr) (Γ : Led) (h : Heap) : Pres X Γ h Γ h := ⟨fun _ o e _ _ => ⟨o.slots, e⟩, fun _ m => .inl m, fun _ _ _ o e => ⟨o, e⟩⟩
/-- what stood and is not the ledger's stands on -/
theorem Pres.alive (x : Pres X Γ h Γ₁ h₁) {a : Addr} {o : Obj} (e : h.get? a = some o) (n : a ∉ adr Γ) : ∃ o', h₁.get? a = some o' := by
  by_cases m : a ∈ X
  · exact x.live a m n o e
  · obtain ⟨sl, e'⟩ := x.keep a o e m n; exact ⟨_, e'⟩
theorem Pres.new (x : Pres X Γ h Γ₁ h₁) {a : Addr} (n : New Γ₁ h₁ a) : New Γ h a := by
  rcases n with m | e
  · exact x.grow a m
  · by_cases m : a ∈ adr Γ
    · exact .inl m
    · cases q : h.get? a with
      | none => exact .inr q
      | some o => obtain ⟨o', e'⟩ := x.alive q m; rw [e] at e'; cases e'
theorem New.not {a : Addr} {o : Obj} (n : New Γ h a) (e : h.get? a = some o) (m : a ∉ adr Γ) : False := n.elim m fun q => by rw [e] at q; cases q
theorem Pres.trans (x : Pres X Γ h Γ₁ h₁) (y : Pres X Γ₁ h₁ Γ₂ h₂) : Pres X Γ h Γ₂ h₂ where
  keep a o e hX hΓ := by
    obtain ⟨sl, e₁⟩ := x.keep a o e hX hΓ
    obtain ⟨sl₂, e₂⟩ := y.keep a _ e₁ hX fun m => (x.grow a m).not e hΓ
    exact ⟨sl₂, e₂⟩
  grow a m := x.new (y.grow a m)
  live a m n o e := by
    obtain ⟨o₁, e₁⟩ := x.live a m n o e
    exact y.live a m (fun m' => (x.grow a m').not e n) o₁ e₁
theorem Pres.mono {Y : List Addr} (x : Pres X Γ h Γ₁ h₁) (s : ∀ a, a ∈ X → a ∈ Y) : Pres Y Γ h Γ₁ h₁ := ⟨fun a o e hY => x.keep a o e fun m => hY (s a m), x.grow, fun a _ n o e => x.alive e n⟩
/-- an exclusion that did not stand is none -/
theorem Pres.drop {L : Addr} (x : Pres (L :: X) Γ h Γ₁ h₁) (n : h.get? L = none) : Pres X Γ h Γ₁ h₁ :=
  ⟨fun a o e hX hΓ => x.keep a o e (fun m => (List.mem_cons.mp m).elim (fun q => by rw [q, n] at e; cases e) hX) hΓ, x.grow, fun a m n' o e => x.alive e n'⟩
theorem isTup_slots {a : Addr} {vs : Array Value} (t : IsTup h a vs) (k : ∀ o, h.get? a = some o → ∃ sl, h₁.get? a = some { o with slots := sl }) : IsTup h₁ a vs := by
  obtain ⟨o, ho, r⟩ := t
  obtain ⟨sl, e⟩ := k o ho
  exact ⟨_, e, r⟩
theorem ns_slots {a : Addr} {m : Str → Option Value} (t : h.Ns a m) (k : ∀ o, h.get? a = some o → ∃ sl, h₁.get? a = some { o with slots := sl }) : h₁.Ns a m := by
  obtain ⟨o, es, ep, ho, r⟩ := t
  obtain ⟨sl, e⟩ := k o ho
  exact ⟨_, es, ep, e, r⟩
end
theorem ns_noTup {h : Heap} {a : Addr} {m : Str → Option Value} (x : h.Ns a m) {vs : Array Value} (t : IsTup h a vs) : False := by
  obtain ⟨o, es, ep, ho, hd, _⟩ := x
  obtain ⟨o', ho', _, n, hd'⟩ := t
  rw [ho] at ho'; cases ho'; rw [hd] at hd'; cases hd'

/-! the context of a piece of a run -/
structure Cx where
  prog : Program
  w : World
  K : Frag
  A : Around
  env : Env
  fr : List Env
  h₀ : Heap
  os : OsState

/-- what holds of every context -/
structure Gd (c : Cx) : Prop where
  kin : c.K.In c.h₀
  prg : (c.prog.main.file == Str.ofString "/claim/cut.py") = true ∧ c.prog.main.scope.names.lookup (Str.ofString "super") = none
  bat : ∃ mg, c.h₀.Ns mainGlobals mg ∧ ∀ P, c.h₀.get? P = none → c.h₀.BuiltinsAt mg P
  sm : ∃ o, c.h₀.get? sysModules = some o
  dig : ∃ mc, c.h₀.Ns cStatics mc ∧ mc "sys.int_max_str_digits" = none
  top : ∃ p loose mg mb, TopRead p loose mg mb c.h₀
  hdl : c.A.handled = none
  frs : c.A.frames = some c.fr
  fr1 : ∃ e r L, c.fr = e :: r ∧ e.frame = some L ∧ c.env.frame = some L
  kind : c.env.scope.kind = .function
  glb : c.env.globals = mainGlobals
  blt : c.env.builtins = builtinsNs

structure SatC (c : Cx) (Γ : Led) (s : Shared) : Prop where
  base : ∀ b o, c.h₀.get? b = some o → s.heap.get? b = some o
  gens : s.gens = #[]
  os : s.os = c.os
  led : ∀ p ∈ Γ, OR c.prog c.w s.heap p.1 p.2
  new : ∀ p ∈ Γ, c.h₀.get? p.1 = none
  nod : (adr Γ).Nodup
  frs : s.heap.FunFrames c.h₀ c.fr
  off : ∀ e ∈ c.fr, ∀ L, e.frame = some L → L ∉ adr Γ

noncomputable abbrev Loc := List (Str × Option AV)
noncomputable def LocR (h : Heap) : Option Value → Option AV → Prop
  | some v, some a => VR h v a
  | none, none => True
  | _, _ => False
theorem LocR.tups {h h' : Heap} (T : Tups h h') {v : Option Value} {a : Option AV} (x : LocR h v a) : LocR h' v a := by
  cases v <;> cases a <;> first | exact x | exact VR.tups T x
structure NsR (h : Heap) (L : Addr) (ρ : Loc) : Prop where
  ns : ∃ m, h.Ns L m ∧ ∀ p ∈ ρ, LocR h (m p.1) p.2
  nod : (ρ.map (·.1)).Nodup
structure Sat (c : Cx) (ρ : Loc) (Γ : Led) (s : Shared) : Prop where
  C : SatC c Γ s
  loc : NsR s.heap c.env.locals ρ
  lof : c.env.locals ∉ adr Γ
  lnew : c.h₀.get? c.env.locals = none

theorem SatC.tups {c : Cx} {X : List Addr} {Γ Γ' : Led} {s : Shared} {h' : Heap} (S : SatC c Γ s) (P : Pres X Γ s.heap Γ' h') (hX : ∀ a ∈ X, ∀ vs, ¬ IsTup s.heap a vs) : Tups s.heap h' := fun a vs t =>
  isTup_slots t fun o ho => P.keep a o ho (fun m => hX a m vs t) fun m => by
    obtain ⟨p, hp, e⟩ := List.mem_map.mp m
    exact (S.led p hp).noTup (e ▸ t)
theorem SatC.tups0 {c : Cx} {Γ Γ' : Led} {s : Shared} {h' : Heap} (S : SatC c Γ s) (P : Pres [] Γ s.heap Γ' h') : Tups s.heap h' := S.tups P fun _ m => nomatch m

/-- the frame's locals stand through a piece of a run that does not store there -/
theorem NsR.pres {c : Cx} {L : Addr} {ρ : Loc} {Γ Γ' : Led} {s : Shared} {h' : Heap} (N : NsR s.heap L ρ) (S : SatC c Γ s) (hL : L ∉ adr Γ) (P : Pres [] Γ s.heap Γ' h') : NsR h' L ρ := by
  obtain ⟨⟨m, hn, hm⟩, nd⟩ := N
  have T := S.tups0 P
  exact ⟨⟨m, ns_slots hn fun o ho => P.keep L o ho (fun m => nomatch m) hL, fun p hp => (hm p hp).tups T⟩, nd⟩
theorem Sat.pres {c : Cx} {ρ : Loc} {Γ Γ' : Led} {s s' : Shared} (S : Sat c ρ Γ s) (S' : SatC c Γ' s') (P : Pres [] Γ s.heap Γ' s'.heap) : Sat c ρ Γ' s' where
  C := S'
  loc := S.loc.pres S.C S.lof P
  lof m := by
    obtain ⟨⟨m', hn, _⟩, _⟩ := S.loc
    obtain ⟨o, es, ep, ho, _⟩ := hn
    exact (P.grow _ m).not ho S.lof
  lnew := S.lnew

/-- tokens are nothing -/
theorem SatC.tok {c : Cx} {Γ : Led} {s : Shared} (S : SatC c Γ s) (t : Nat) : SatC c Γ { s with toks := t } := ⟨S.base, S.gens, S.os, S.led, S.new, S.nod, S.frs, S.off⟩

/-- a new object that no ledger speaks of -/
theorem tups_push {h : Heap} (o : Obj) : Tups h (h.push o) := fun _ _ t => t.keeps fun _ _ e => Heap.get?_push_of_some o e
theorem SatC.push {c : Cx} {Γ : Led} {s : Shared} (S : SatC c Γ s) (o : Obj) : SatC c Γ { s with heap := s.heap.push o } where
  base b ob e := Heap.get?_push_of_some o (S.base b ob e)
  gens := S.gens
  os := S.os
  led p hp := (S.led p hp).keeps (tups_push o) fun _ e => Heap.get?_push_of_some o e
  new := S.new
  nod := S.nod
  frs := S.frs.of_keeps fun b ob e _ => ⟨ob, Heap.get?_push_of_some o e, rfl⟩
  off := S.off
theorem none_at (h : Heap) : h.get? h.objs.size = none := by
  cases q : h.get? h.objs.size with
  | none => rfl
  | some o => exact absurd (Heap.lt_size q) (Nat.lt_irrefl _)
theorem Pres.push (Γ : Led) (h : Heap) (o : Obj) : Pres [] Γ h Γ (h.push o) := ⟨fun _ ob e _ _ => ⟨ob.slots, Heap.get?_push_of_some o e⟩, fun _ m => .inl m, fun _ m => nomatch m⟩

/-- a new object that the ledger takes up -/
theorem SatC.take {c : Cx} {Γ : Led} {s : Shared} (S : SatC c Γ s) {a : Addr} {o : AO} (hO : OR c.prog c.w s.heap a o) (hn : c.h₀.get? a = none) (hΓ : a ∉ adr Γ) (hf : ∀ e ∈ c.fr, e.frame ≠ some a) : SatC c ((a, o) :: Γ) s where
  base := S.base
  gens := S.gens
  os := S.os
  led p hp := (List.mem_cons.mp hp).elim (fun e => e ▸ hO) (S.led p)
  new p hp := (List.mem_cons.mp hp).elim (fun e => e ▸ hn) (S.new p)
  nod := List.nodup_cons.mpr ⟨hΓ, S.nod⟩
  frs := S.frs
  off e he L hL m := by
    rcases List.mem_cons.mp m with q | q
    · exact hf e he (hL.trans (congrArg some q))
    · exact S.off e he L hL q
theorem SatC.below {c : Cx} {Γ : Led} {s : Shared} (S : SatC c Γ s) {a : Addr} (m : a ∈ adr Γ) : a < s.heap.objs.size := by
  obtain ⟨p, hp, e⟩ := List.mem_map.mp m
  obtain ⟨ob, ho⟩ := (S.led p hp).there
  exact e ▸ Heap.lt_size ho
theorem SatC.base_none {c : Cx} {Γ : Led} {s : Shared} (S : SatC c Γ s) {a : Addr} (h : s.heap.objs.size ≤ a) : c.h₀.get? a = none := by
  cases q : c.h₀.get? a with
  | none => rfl
  | some o => exact absurd (Heap.lt_size (S.base _ _ q)) (Nat.not_lt.mpr h)
theorem SatC.fr_lt {c : Cx} {Γ : Led} {s : Shared} (S : SatC c Γ s) {e : Env} (he : e ∈ c.fr) {L : Addr} (hL : e.frame = some L) : L < s.heap.objs.size := by
  obtain ⟨_, o, ho, _⟩ := S.frs.mem (List.mem_filterMap.mpr ⟨e, he, hL⟩)
  exact Heap.lt_size ho
/-- push and take up at once -/
theorem SatC.pushed {c : Cx} {Γ : Led} {s : Shared} (S : SatC c Γ s) {o : Obj} {ao : AO} (hO : OR c.prog c.w (s.heap.push o) s.heap.objs.size ao) :
    SatC c ((s.heap.objs.size, ao) :: Γ) { s with heap := s.heap.push o } :=
  (S.push o).take (a := s.heap.objs.size) hO (S.base_none (Nat.le_refl _)) (fun m => Nat.lt_irrefl _ (S.below m)) fun e he q => Nat.lt_irrefl _ (S.fr_lt he q)
theorem Pres.pushed (Γ : Led) (h : Heap) (o : Obj) (ao : AO) : Pres [] Γ h ((h.objs.size, ao) :: Γ) (h.push o) :=
  ⟨fun _ ob e _ _ => ⟨ob.slots, Heap.get?_push_of_some o e⟩, fun a m => (List.mem_cons.mp m).elim (fun e => .inr (e ▸ none_at h)) .inl, fun _ m => nomatch m⟩

/-- an object of the ledger is changed -/
theorem tups_but {c : Cx} {Γ : Led} {s : Shared} (S : SatC c Γ s) {a : Addr} {h' : Heap} (m : a ∈ adr Γ) (hs : Heap.SameBut a s.heap h') : Tups s.heap h' := fun b vs t => by
  obtain ⟨o, ho, r⟩ := t
  refine ⟨o, (hs.2 b fun e => ?_).trans ho, r⟩
  obtain ⟨p, hp, e'⟩ := List.mem_map.mp m
  subst e
  exact (S.led p hp).noTup (vs := vs) (e' ▸ ⟨o, ho, r⟩)
theorem SatC.upd {c : Cx} {Γ Γ' : Led} {s : Shared} (S : SatC c Γ s) {a : Addr} {o : AO} {h' : Heap} (U : Up a o Γ Γ') (hs : Heap.SameBut a s.heap h') (hO : OR c.prog c.w h' a o) :
    SatC c Γ' { s with heap := h' } where
  base b ob e := by
    have hne : b ≠ a := fun q => by
      obtain ⟨p, hp, e'⟩ := List.mem_map.mp U.key_mem
      have := S.new p hp
      rw [show p.1 = a from e', ← q, e] at this; cases this
    exact (hs.2 b hne).trans (S.base b ob e)
  gens := S.gens
  os := S.os
  led p hp := by
    rcases U.mem S.nod p hp with e | ⟨hne, hp'⟩
    · rw [e]; exact hO
    · exact (S.led p hp').keeps (tups_but S U.key_mem hs) fun ob e => (hs.2 _ hne).trans e
  new p hp := by
    rcases U.mem S.nod p hp with e | ⟨_, hp'⟩
    · obtain ⟨q, hq, e'⟩ := List.mem_map.mp U.key_mem
      have := S.new q hq
      rw [e]; rw [show q.1 = a from e'] at this; exact this
    · exact S.new p hp'
  nod := by rw [adr, U.keys]; exact S.nod
  frs := by
    have key : ∀ {l : List Env}, (∀ e ∈ l, e ∈ c.fr) → s.heap.FunFrames c.h₀ l → h'.FunFrames c.h₀ l := by
      intro l
      induction l with
      | nil => intro _ _; trivial
      | cons e r ih =>
        rintro hm ⟨hk, ⟨L, o, hf, hn, ho, hd⟩, hr⟩
        refine ⟨hk, ⟨L, o, hf, hn, (hs.2 L fun q => ?_).trans ho, hd⟩, ih (fun e he => hm e (.tail _ he)) hr⟩
        exact S.off e (hm e (.head _)) L hf (q ▸ U.key_mem)
    exact key (fun _ h => h) S.frs
  off e he L hL m := S.off e he L hL (by rw [adr, U.keys] at m; exact m)
theorem Pres.upd {Γ Γ' : Led} {h h' : Heap} {a : Addr} {o : AO} (U : Up a o Γ Γ') (hs : Heap.SameBut a h h') : Pres [] Γ h Γ' h' :=
  ⟨fun b ob e _ hΓ => ⟨ob.slots, (hs.2 b fun q => hΓ (q ▸ U.key_mem)).trans e⟩, fun b m => .inl (by rw [adr, U.keys] at m; exact m), fun _ m => nomatch m⟩

/-- entries may be forgotten and put in another order -/
theorem SatC.sub {c : Cx} {Γ Γ' : Led} {s : Shared} (S : SatC c Γ s) (hs : ∀ p ∈ Γ', p ∈ Γ) (hn : (adr Γ').Nodup) : SatC c Γ' s where
  base := S.base
  gens := S.gens
  os := S.os
  led p hp := S.led p (hs p hp)
  new p hp := S.new p (hs p hp)
  nod := hn
  frs := S.frs
  off e he L hL m := S.off e he L hL (by obtain ⟨p, hp, q⟩ := List.mem_map.mp m; exact List.mem_map.mpr ⟨p, hs p hp, q⟩)

/-- a local is stored -/
theorem NsR.store {h h' : Heap} {L : Addr} {ρ ρ' : Loc} {x : Str} {v : Value} {a : AV} {m : Str → Option Value} (hm : ∀ p ∈ ρ, LocR h (m p.1) p.2) (nd : (ρ.map (·.1)).Nodup)
    (hn : h'.Ns L fun y => if y = x then some v else m y) (T : Tups h h') (hv : VR h v a) (U : Up x (some a) ρ ρ') : NsR h' L ρ' := by
  refine ⟨⟨_, hn, fun p hp => ?_⟩, by rw [U.keys]; exact nd⟩
  rcases U.mem nd p hp with e | ⟨hne, hp'⟩
  · rw [e]; simp only [if_true]; exact VR.tups T hv
  · simp only [if_neg hne]; exact (hm p hp').tups T
theorem tups_store {h h' : Heap} {L : Addr} {m : Str → Option Value} (hn : h.Ns L m) (hs : Heap.SameBut L h h') : Tups h h' := fun b vs t => by
  obtain ⟨o, ho, r⟩ := t
  refine ⟨o, (hs.2 b fun e => ?_).trans ho, r⟩
  subst e
  exact ns_noTup hn (vs := vs) ⟨o, ho, r⟩
theorem Sat.store {c : Cx} {ρ ρ' : Loc} {Γ : Led} {s : Shared} {h' : Heap} {x : Str} {v : Value} {a : AV} {m : Str → Option Value} {t : Nat} (S : Sat c ρ Γ s) (hn0 : s.heap.Ns c.env.locals m) (hm : ∀ p ∈ ρ, LocR s.heap (m p.1) p.2)
    (hn : h'.Ns c.env.locals fun y => if y = x then some v else m y) (hs : Heap.SameBut c.env.locals s.heap h') (hv : VR s.heap v a) (U : Up x (some a) ρ ρ') : Sat c ρ' Γ { s with heap := h', toks := t } where
  C := {
    base := fun b ob e => (hs.2 b fun q => by rw [q, S.lnew] at e; cases e).trans (S.C.base b ob e)
    gens := S.C.gens
    os := S.C.os
    led := fun p hp => (S.C.led p hp).keeps (tups_store hn0 hs) fun ob e => (hs.2 _ fun q => S.lof (q ▸ List.mem_map_of_mem hp)).trans e
    new := S.C.new
    nod := S.C.nod
    frs := by
      obtain ⟨o', es', ep', ho', hd', _⟩ := hn
      have key : ∀ {l : List Env}, s.heap.FunFrames c.h₀ l → h'.FunFrames c.h₀ l := by
        intro l
        induction l with
        | nil => intro _; trivial
        | cons e r ih =>
          rintro ⟨hk, ⟨L, o, hf, hn, ho, hd⟩, hr⟩
          refine ⟨hk, ?_, ih hr⟩
          by_cases q : L = c.env.locals
          · exact ⟨L, o', hf, hn, q ▸ ho', fun vs => by rw [hd']; intro z; cases z⟩
          · exact ⟨L, o, hf, hn, (hs.2 L q).trans ho, hd⟩
      exact key S.C.frs
    off := S.C.off }
  loc := NsR.store hm S.loc.nod hn (tups_store hn0 hs) hv U
  lof := S.lof
  lnew := S.lnew
theorem Pres.store {Γ : Led} {h h' : Heap} {L : Addr} {m : Str → Option Value} (hn : h'.Ns L m) (hs : Heap.SameBut L h h') : Pres [L] Γ h Γ h' :=
  ⟨fun b ob e hX _ => ⟨ob.slots, (hs.2 b fun q => hX (q ▸ .head _)).trans e⟩, fun _ m => .inl m, fun a ma _ o e => by
    obtain ⟨o', es, ep, ho, _⟩ := hn
    rw [List.mem_singleton.mp ma]; exact ⟨o', ho⟩⟩

noncomputable abbrev Cx.M (c : Cx) : Model := model c.prog c.w
noncomputable abbrev EP := Str → Led → Prop
noncomputable abbrev XF := Option Addr → Value → Prop

/-- an exception of the program's own class that flies -/
structure XAt (h : Heap) (Γ₀ : Led) (h₀ : Heap) (e d : Addr) (T : Option Addr) (fl : Value) : Prop where
  ob : ∃ o vs a0, h.get? e = some o ∧ o.cls = .ref 41 ∧ o.dict = some d ∧ o.data = .fields vs ∧ vs[0]? = some a0 ∧ vs[1]? = some (match T with | some T => .ref T | none => .none)
  tb : match (generalizing := false) T with | none => True | some T => New Γ₀ h₀ T ∧ T ≠ e ∧ ∃ oT ts, h.get? T = some oT ∧ oT.data = .fields ts ∧ ts[3]? = some fl
  en : New Γ₀ h₀ e
  ed : e ≠ d
noncomputable def excD (code told : Str) : AO := .sd [(Str.ofString "code", .str code), (Str.ofString "told", .str told)]

/-- an exception flies: the ledger keeps its attributes' dict -/
structure Fly (c : Cx) (X : List Addr) (Γ : Led) (h : Heap) (s : Shared) (e d : Addr) (T : Option Addr) (fl : Value) (code told : Str) (Γ' : Led) : Prop where
  S : SatC c ((d, excD code told) :: Γ') s
  P : Pres X Γ h ((d, excD code told) :: Γ') s.heap
  A : XAt s.heap Γ h e d T fl
  eΓ : e ∉ adr ((d, excD code told) :: Γ')
  eb : c.h₀.get? e = none
  tb : ∀ t, T = some t → t ∉ adr ((d, excD code told) :: Γ') ∧ c.h₀.get? t = none
noncomputable def PX (c : Cx) (F : XF) (X : List Addr) (Γ : Led) (h : Heap) (E : EP) : Value → Shared → Prop := fun x s' =>
  ∃ e d T fl code told Γ', x = .ref e ∧ Fly c X Γ h s' e d T fl code told Γ' ∧ F T fl ∧ E code Γ'

noncomputable def PG (c : Cx) (X : List Addr) (Γ : Led) (h : Heap) {α : Type} (R : Heap → α → Led → Prop) : α → Shared → Prop := fun a s' =>
  ∃ Γ', SatC c Γ' s' ∧ Pres X Γ h Γ' s'.heap ∧ R s'.heap a Γ'

noncomputable abbrev Wp (c : Cx) (F : XF) (X : List Addr) (Γ : Led) {α : Type} (t : Sem α) (R : Heap → α → Led → Prop) (E : EP) (s : Shared) : Prop :=
  wpAny c.M c.A t (PG c X Γ s.heap R) (PX c F X Γ s.heap E) s

theorem XAt.lift {X : List Addr} {h h₀ h₁ : Heap} {Γ₀ Γ₁ : Led} {e d : Addr} {T : Option Addr} {fl : Value} (x : XAt h Γ₁ h₁ e d T fl) (P : Pres X Γ₀ h₀ Γ₁ h₁) : XAt h Γ₀ h₀ e d T fl :=
  ⟨x.ob, by have := x.tb; cases T with
    | none => trivial
    | some T => exact ⟨P.new this.1, this.2⟩, P.new x.en, x.ed⟩
section
variable {c : Cx} {F : XF} {X Y : List Addr} {Γ Γ₁ : Led} {h h₁ : Heap} {α β : Type} {R R₂ : Heap → α → Led → Prop} {E : EP} {s s₁ : Shared}
theorem PX.lift {x : Value} (P : Pres X Γ h Γ₁ h₁) (q : PX c F X Γ₁ h₁ E x s) : PX c F X Γ h E x s := by
  obtain ⟨e, d, T, fl, code, told, Γ', hx, ⟨S, P', A, z1, z2, z3⟩, z⟩ := q
  exact ⟨e, d, T, fl, code, told, Γ', hx, ⟨S, P.trans P', A.lift P, z1, z2, z3⟩, z⟩
theorem PX.mono {x : Value} (q : PX c F X Γ h E x s) (m : ∀ a ∈ X, a ∈ Y) : PX c F Y Γ h E x s := by
  obtain ⟨e, d, T, fl, code, told, Γ', hx, ⟨S, P', A, z1, z2, z3⟩, z⟩ := q
  exact ⟨e, d, T, fl, code, told, Γ', hx, ⟨S, P'.mono m, A, z1, z2, z3⟩, z⟩
theorem PX.flag {G : XF} {x : Value} (q : PX c F X Γ h E x s) (m : ∀ T fl, F T fl → G T fl) : PX c G X Γ h E x s := by
  obtain ⟨e, d, T, fl, code, told, Γ', hx, Z, h3, h4⟩ := q
  exact ⟨e, d, T, fl, code, told, Γ', hx, Z, m _ _ h3, h4⟩
theorem PG.lift {a : α} (P : Pres X Γ h Γ₁ h₁) (q : PG c X Γ₁ h₁ R a s) : PG c X Γ h R a s := by
  obtain ⟨Γ', S, P', r⟩ := q
  exact ⟨Γ', S, P.trans P', r⟩
theorem sub_nil : ∀ a ∈ ([] : List Addr), a ∈ X := fun _ m => nomatch m
theorem wlift {Γo : Led} {ho : Heap} {t : Sem α} (P : Pres X Γo ho Γ s.heap) (q : Wp c F [] Γ t R E s) : wpAny c.M c.A t (PG c X Γo ho R) (PX c F X Γo ho E) s :=
  wpAny_mono q (fun _ _ ⟨Γ', S, P', r⟩ => ⟨Γ', S, P.trans (P'.mono sub_nil), r⟩) fun _ _ x => (x.mono sub_nil).lift P
theorem wliftX {Γo : Led} {ho : Heap} {t : Sem α} (P : Pres X Γo ho Γ s.heap) (q : Wp c F X Γ t R E s) : wpAny c.M c.A t (PG c X Γo ho R) (PX c F X Γo ho E) s :=
  wpAny_mono q (fun _ _ => PG.lift P) fun _ _ => PX.lift P
/-- one after the other, the first changing no local -/
theorem wuse {Γo : Led} {ho : Heap} {t : Sem α} {K : α → Shared → Prop} (P : Pres X Γo ho Γ s.heap) (q : Wp c F [] Γ t R E s)
    (k : ∀ a s₁ Γ₁, SatC c Γ₁ s₁ → Pres X Γo ho Γ₁ s₁.heap → Pres [] Γ s.heap Γ₁ s₁.heap → R s₁.heap a Γ₁ → K a s₁) : wpAny c.M c.A t K (PX c F X Γo ho E) s :=
  wpAny_mono q (fun a s₁ ⟨Γ₁, S₁, P', r⟩ => k a s₁ Γ₁ S₁ (P.trans (P'.mono sub_nil)) P' r) fun _ _ x => (x.mono sub_nil).lift P
end

noncomputable def RV (Q : AV → Led → Prop) : Heap → Value → Led → Prop := fun h v Γ => ∃ a, VR h v a ∧ Q a Γ
noncomputable def RVs (Q : List AV → Led → Prop) : Heap → List Value → Led → Prop := fun h vs Γ => ∃ as, VRs h vs as ∧ Q as Γ
noncomputable def RB (Q : Bool → Led → Prop) : Heap → Bool → Led → Prop := fun _ b Γ => Q b Γ
noncomputable def RU (Q : Led → Prop) : Heap → Unit → Led → Prop := fun _ _ Γ => Q Γ

inductive AF where
  | next | brk | cont | ret (a : AV)
noncomputable def FR (h : Heap) : Flow → AF → Prop
  | .next, .next => True
  | .brk, .brk => True
  | .cont, .cont => True
  | .ret v, .ret a => VR h v a
  | _, _ => False
noncomputable def RF (c : Cx) (Q : AF → Loc → Led → Prop) : Heap → Flow → Led → Prop := fun h f Γ => ∃ af ρ, FR h f af ∧ NsR h c.env.locals ρ ∧ c.env.locals ∉ adr Γ ∧ Q af ρ Γ

/-- within a frame: fresh, out, or held by this frame -/
noncomputable def fIn (c : Cx) : XF := fun T fl => T = none ∨ fl = .none ∨ ∃ L, c.env.frame = some L ∧ fl = rawInt L
noncomputable def fOut : XF := fun T fl => T.isSome = true ∧ fl = .none
theorem fOut_in {c : Cx} : ∀ T fl, fOut T fl → fIn c T fl := fun _ _ h => .inr (.inl h.2)

noncomputable def HE (c : Cx) (e : Expr) (ρ : Loc) (Γ : Led) (Q : AV → Led → Prop) (E : EP) : Prop := ∀ s, Sat c ρ Γ s → Wp c (fIn c) [] Γ (eval e c.env) (RV Q) E s
noncomputable def HT (c : Cx) (e : Expr) (ρ : Loc) (Γ : Led) (Q : Bool → Led → Prop) (E : EP) : Prop := ∀ s, Sat c ρ Γ s → Wp c (fIn c) [] Γ (isTrue e c.env (eval e c.env)) (RB Q) E s
noncomputable def HAll (c : Cx) (op : BoolOp) (es : List Expr) (ρ : Loc) (Γ : Led) (Q : Bool → Led → Prop) (E : EP) : Prop := ∀ s, Sat c ρ Γ s → Wp c (fIn c) [] Γ (allTrue op es c.env) (RB Q) E s
noncomputable def HEs (c : Cx) (es : List Expr) (ρ : Loc) (Γ : Led) (Q : List AV → Led → Prop) (E : EP) : Prop := ∀ s pos, Sat c ρ Γ s → Wp c (fIn c) [] Γ (spliced (backTo pos (starEach es c.env))) (RVs Q) E s
noncomputable def HBin (c : Cx) (op : Operator) (a b : AV) (Γ : Led) (Q : AV → Led → Prop) (E : EP) : Prop := ∀ s va vb, SatC c Γ s → VR s.heap va a → VR s.heap vb b → Wp c (fIn c) [] Γ (binaryOp op va vb) (RV Q) E s
noncomputable def HIn (c : Cx) (op : Operator) (a b : AV) (Γ : Led) (Q : AV → Led → Prop) (E : EP) : Prop := ∀ s va vb, SatC c Γ s → VR s.heap va a → VR s.heap vb b → Wp c (fIn c) [] Γ (inplaceOp op va vb) (RV Q) E s
noncomputable def HCmp (c : Cx) (op : CmpOp) (a b : AV) (Γ : Led) (Q : AV → Led → Prop) (E : EP) : Prop := ∀ s va vb, SatC c Γ s → VR s.heap va a → VR s.heap vb b → Wp c (fIn c) [] Γ (compareOp op va vb) (RV Q) E s
noncomputable def HTr (c : Cx) (a : AV) (Γ : Led) (Q : Bool → Led → Prop) (E : EP) : Prop := ∀ s v, SatC c Γ s → VR s.heap v a → Wp c (fIn c) [] Γ (truthy v) (RB Q) E s
noncomputable def HGet (c : Cx) (o i : AV) (Γ : Led) (Q : AV → Led → Prop) (E : EP) : Prop := ∀ s vo vi, SatC c Γ s → VR s.heap vo o → VR s.heap vi i → Wp c (fIn c) [] Γ (getItem vo vi) (RV Q) E s
noncomputable def HSet (c : Cx) (o i v : AV) (Γ : Led) (Q : Led → Prop) (E : EP) : Prop := ∀ s vo vi vv, SatC c Γ s → VR s.heap vo o → VR s.heap vi i → VR s.heap vv v → Wp c (fIn c) [] Γ (setItem vo vi vv) (RU Q) E s
noncomputable def HAt (c : Cx) (o : AV) (n : Str) (Γ : Led) (Q : AV → Led → Prop) (E : EP) : Prop := ∀ s vo b, SatC c Γ s → VR s.heap vo o → Wp c (fIn c) [] Γ (getAttr vo n b) (RV Q) E s
noncomputable def HSAt (c : Cx) (o : AV) (n : Str) (v : AV) (Γ : Led) (Q : Led → Prop) (E : EP) : Prop := ∀ s vo vv, SatC c Γ s → VR s.heap vo o → VR s.heap vv v → Wp c (fIn c) [] Γ (setAttr vo n vv) (RU Q) E s
noncomputable def HC (c : Cx) (f : AV) (as : List AV) (Γ : Led) (Q : AV → Led → Prop) (E : EP) : Prop := ∀ s vf vs, SatC c Γ s → VR s.heap vf f → VRs s.heap vs as → Wp c fOut [] Γ (call vf vs []) (RV Q) E s
noncomputable def HS (c : Cx) (st : Stmt) (ρ : Loc) (Γ : Led) (Q : AF → Loc → Led → Prop) (E : EP) : Prop := ∀ s, Sat c ρ Γ s → Wp c (fIn c) [c.env.locals] Γ (exec st c.env) (RF c Q) E s
noncomputable def HB (c : Cx) (st : List Stmt) (ρ : Loc) (Γ : Led) (Q : AF → Loc → Led → Prop) (E : EP) : Prop := ∀ s, Sat c ρ Γ s → Wp c (fIn c) [c.env.locals] Γ (execs st c.env) (RF c Q) E s
/-- a store to a name -/
noncomputable def HSt (c : Cx) (x : Str) (v : AV) (ρ : Loc) (Γ : Led) (Q : Loc → Led → Prop) : Prop := ∀ s vv, Sat c ρ Γ s → VR s.heap vv v → ∀ E, Wp c (fIn c) [c.env.locals] Γ (storeName c.env x vv) (fun h _ Γ' => ∃ ρ', NsR h c.env.locals ρ' ∧ c.env.locals ∉ adr Γ' ∧ Q ρ' Γ') E s

section
variable {c : Cx} {X : List Addr} {ρ : Loc} {Γ Γ₁ : Led} {α β : Type} {E : EP} {s s₁ : Shared}
/-- after a value -/
theorem vuse {F : XF} {Γo : Led} {ho : Heap} {t : Sem Value} {Q : AV → Led → Prop} {K : Value → Shared → Prop} (S : Sat c ρ Γ s) (P : Pres X Γo ho Γ s.heap) (q : Wp c F [] Γ t (RV Q) E s)
    (k : ∀ v a s₁ Γ₁, Sat c ρ Γ₁ s₁ → Pres X Γo ho Γ₁ s₁.heap → Tups s.heap s₁.heap → VR s₁.heap v a → Q a Γ₁ → K v s₁) : wpAny c.M c.A t K (PX c F X Γo ho E) s :=
  wuse P q fun v s₁ Γ₁ S₁ P₁ P' ⟨a, hv, hq⟩ => k v a s₁ Γ₁ (S.pres S₁ P') P₁ (S.C.tups0 P') hv hq
theorem vsuse {F : XF} {Γo : Led} {ho : Heap} {t : Sem (List Value)} {Q : List AV → Led → Prop} {K : List Value → Shared → Prop} (S : Sat c ρ Γ s) (P : Pres X Γo ho Γ s.heap) (q : Wp c F [] Γ t (RVs Q) E s)
    (k : ∀ v a s₁ Γ₁, Sat c ρ Γ₁ s₁ → Pres X Γo ho Γ₁ s₁.heap → Tups s.heap s₁.heap → VRs s₁.heap v a → Q a Γ₁ → K v s₁) : wpAny c.M c.A t K (PX c F X Γo ho E) s :=
  wuse P q fun v s₁ Γ₁ S₁ P₁ P' ⟨a, hv, hq⟩ => k v a s₁ Γ₁ (S.pres S₁ P') P₁ (S.C.tups0 P') hv hq
theorem buse {F : XF} {Γo : Led} {ho : Heap} {t : Sem Bool} {Q : Bool → Led → Prop} {K : Bool → Shared → Prop} (S : Sat c ρ Γ s) (P : Pres X Γo ho Γ s.heap) (q : Wp c F [] Γ t (RB Q) E s)
    (k : ∀ b s₁ Γ₁, Sat c ρ Γ₁ s₁ → Pres X Γo ho Γ₁ s₁.heap → Tups s.heap s₁.heap → Q b Γ₁ → K b s₁) : wpAny c.M c.A t K (PX c F X Γo ho E) s :=
  wuse P q fun b s₁ Γ₁ S₁ P₁ P' hq => k b s₁ Γ₁ (S.pres S₁ P') P₁ (S.C.tups0 P') hq
/-- a value that costs tokens alone -/
theorem ret0 {v : Value} {a : AV} {Q : AV → Led → Prop} {h : Heap} (S : SatC c Γ s) (e : s.heap = h) (hv : VR s.heap v a) (q : Q a Γ) : PG c X Γ h (RV Q) v s := ⟨Γ, S, e ▸ Pres.refl .., a, hv, q⟩
theorem SatC.kin (S : SatC c Γ s) (G : Gd c) : c.K.In s.heap := fun a o e => S.base _ _ (G.kin a o e)
theorem SatC.globals (S : SatC c Γ s) (G : Gd c) : ∃ mg mb, s.heap.Ns mainGlobals mg ∧ s.heap.Ns builtinsNs mb ∧ ∀ x : Str, x ≠ Str.ofString "__name__" → mb x = bootBuiltins x := by
  obtain ⟨p, loose, mg, mb, T⟩ := G.top
  exact ⟨mg, mb, T.g.keeps S.base, T.b.keeps S.base, T.builtins⟩
theorem SatC.nolimit (S : SatC c Γ s) (G : Gd c) : s.heap.NoLimit := by
  obtain ⟨p, loose, mg, mb, T⟩ := G.top
  exact T.nolimit.keeps S.base
end

/-! expressions -/
noncomputable def avOf : Value → Option AV
  | .none => some .none
  | .bool b => some (.bool b)
  | .int i _ => some (.int i)
  | .str s _ => some (.str s)
  | .ref a => some (.ref a)
  | .type n => some (.ty n)
  | .builtin n => some (.bi n)
  | _ => none
theorem VR.of {h : Heap} {v : Value} {a : AV} (e : avOf v = some a) : VR h v a := by
  cases v <;> simp only [avOf, Option.some.injEq, reduceCtorEq] at e <;> subst e <;> constructor

section
variable {c : Cx} {E : EP} {ρ : Loc} {Γ : Led} {Q : AV → Led → Prop} {QB : Bool → Led → Prop}
theorem HE_Name (G : Gd c) {x : Str} {pos : Pos} {a : AV} (hk : c.env.kindOf x = some .local) (hd : (x == Str.ofString "__debug__") = false) (l : Lk x ρ (some a)) (q : Q a Γ) : HE c (.Name x pos) ρ Γ Q E := fun s S => by
  obtain ⟨⟨m, hn, hm⟩, _⟩ := S.loc
  have := hm _ l.mem
  cases e : m x with
  | none => rw [show m (x, some a).1 = m x from rfl, e] at this; exact this.elim
  | some v => rw [show m (x, some a).1 = m x from rfl, e] at this; exact wpAny_Name (wpAny_loadName_local G.kind hk hn e (ret0 S.C rfl this q)) hd
theorem HE_Global (G : Gd c) {x : Str} {pos : Pos} {v : Value} {a : AV} (hk : c.env.kindOf x = some .globalImplicit) (hd : (x == Str.ofString "__debug__") = false) (hg : nsIn c.K mainGlobals x = some (some v)) (ha : avOf v = some a) (q : Q a Γ) :
    HE c (.Name x pos) ρ Γ Q E := fun s S => by
  obtain ⟨mg, mb, hg', hb, hB⟩ := S.C.globals G
  exact Name_function_global G.kind hk (loadGlobal_global (by rw [G.glb]; exact hg') (mg_of (S.C.kin G) hg' hg) (ret0 S.C rfl (VR.of ha) q)) hd
theorem HE_Builtin (G : Gd c) {x : Str} {pos : Pos} {v : Value} {a : AV} (hk : c.env.kindOf x = some .globalImplicit) (hd : (x == Str.ofString "__debug__") = false) (hg : nsIn c.K mainGlobals x = some none) (hx : (x == Str.ofString "__name__") = false)
    (hb : bootBuiltins x = some v) (ha : avOf v = some a) (q : Q a Γ) :
    HE c (.Name x pos) ρ Γ Q E := fun s S => by
  obtain ⟨mg, mb, hg', hb', hB⟩ := S.C.globals G
  exact Name_function_global G.kind hk (loadGlobal_builtin (by rw [G.glb]; exact hg') (mg_none_of (S.C.kin G) hg' hg) (by rw [G.blt]; exact hb') ((hB x fun e => by rw [e] at hx; simp at hx).trans hb) (ret0 S.C rfl (VR.of ha) q)) hd
theorem HE_int {i : Int} {k : Nat} {pos : Pos} (q : Q (.int i) Γ) : HE c (.Constant (.int i) k pos) ρ Γ Q E := fun s S => wpAny_Constant_int (ret0 (S.C.tok _) rfl (.int ..) q)
theorem HE_str {x : Str} {k : Nat} {pos : Pos} (q : Q (.str x) Γ) : HE c (.Constant (.str x) k pos) ρ Γ Q E := fun s S => wpAny_Constant_str (ret0 (S.C.tok _) rfl (.str ..) q)
theorem HE_none {k : Nat} {pos : Pos} (q : Q .none Γ) : HE c (.Constant .none k pos) ρ Γ Q E := fun s S => wpAny_Constant_none (ret0 S.C rfl .none q)
theorem HE_bool {b : Bool} {k : Nat} {pos : Pos} (q : Q (.bool b) Γ) : HE c (.Constant (.bool b) k pos) ρ Γ Q E := fun s S => wpAny_Constant_bool (ret0 S.C rfl (.bool _) q)
theorem HEs_nil {Q : List AV → Led → Prop} (q : Q [] Γ) : HEs c [] ρ Γ Q E := fun s pos S => wpAny_items_nil ⟨Γ, S.C, .refl .., [], .nil, q⟩
noncomputable abbrev HEs_cons_k1 (Q : List AV → Led → Prop) (a : AV) := fun (as : List AV) (Γ₂ : Led) => Q (a :: as) Γ₂
noncomputable abbrev HEs_cons_k2 (c : Cx) (ρ : Loc) (E : EP) (es : List Expr) (Q : List AV → Led → Prop) := fun (a : AV) (Γ₁ : Led) => HEs c es ρ Γ₁ (HEs_cons_k1 Q a) E
theorem HEs_cons {e : Expr} {es : List Expr} {Q : List AV → Led → Prop} (hst : starEach (e :: es) c.env = (false, eval e c.env) :: starEach es c.env) (q : HE c e ρ Γ (HEs_cons_k2 c ρ E es Q) E) : HEs c (e :: es) ρ Γ Q E := fun s pos S =>
  wpAny_items_cons (vuse S (.refl ..) (q s S) fun v a s₁ Γ₁ S₁ P₁ _ hv hq => vsuse S₁ P₁ (hq s₁ pos S₁) fun vs as s₂ Γ₂ S₂ P₂ T hvs hq₂ => ⟨Γ₂, S₂.C, P₂, a :: as, .cons (hv.tups T) hvs, hq₂⟩) hst
noncomputable abbrev HE_BinOp_k1 (c : Cx) (Q : AV → Led → Prop) (E : EP) (op : Operator) (a : AV) := fun (b : AV) (Γ₂ : Led) => HBin c op a b Γ₂ Q E
noncomputable abbrev HE_BinOp_k2 (c : Cx) (ρ : Loc) (Q : AV → Led → Prop) (E : EP) (r : Expr) (op : Operator) := fun (a : AV) (Γ₁ : Led) => HE c r ρ Γ₁ (HE_BinOp_k1 c Q E op a) E
theorem HE_BinOp {l r : Expr} {op : Operator} {pos : Pos} (q : HE c l ρ Γ (HE_BinOp_k2 c ρ Q E r op) E) : HE c (.BinOp l op r pos) ρ Γ Q E := fun s S =>
  wpAny_BinOp (vuse S (.refl ..) (q s S) fun v a s₁ Γ₁ S₁ P₁ _ hv hq => vuse S₁ P₁ (hq s₁ S₁) fun w b s₂ Γ₂ S₂ P₂ T hw hq₂ => wlift P₂ (hq₂ s₂ v w S₂.C (hv.tups T) hw))
noncomputable abbrev HE_Compare_k1 (c : Cx) (Q : AV → Led → Prop) (E : EP) (op : CmpOp) (a : AV) := fun (b : AV) (Γ₂ : Led) => HCmp c op a b Γ₂ Q E
noncomputable abbrev HE_Compare_k2 (c : Cx) (ρ : Loc) (Q : AV → Led → Prop) (E : EP) (r : Expr) (op : CmpOp) := fun (a : AV) (Γ₁ : Led) => HE c r ρ Γ₁ (HE_Compare_k1 c Q E op a) E
theorem HE_Compare {l r : Expr} {op : CmpOp} {pos : Pos} (hb : behindInMarks op r = false) (q : HE c l ρ Γ (HE_Compare_k2 c ρ Q E r op) E) : HE c (.Compare l [op] [r] pos) ρ Γ Q E := fun s S =>
  wpAny_Compare1 (vuse S (.refl ..) (q s S) fun v a s₁ Γ₁ S₁ P₁ _ hv hq => vuse S₁ P₁ (hq s₁ S₁) fun w b s₂ Γ₂ S₂ P₂ T hw hq₂ => wlift P₂ (hq₂ s₂ v w S₂.C (hv.tups T) hw)) hb
noncomputable abbrev HT_Compare_k1 (c : Cx) (QB : Bool → Led → Prop) (E : EP) := fun (x : AV) (Γ₃ : Led) => HTr c x Γ₃ QB E
noncomputable abbrev HT_Compare_k2 (c : Cx) (QB : Bool → Led → Prop) (E : EP) (op : CmpOp) (a : AV) := fun (b : AV) (Γ₂ : Led) => HCmp c op a b Γ₂ (HT_Compare_k1 c QB E) E
noncomputable abbrev HT_Compare_k3 (c : Cx) (ρ : Loc) (QB : Bool → Led → Prop) (E : EP) (r : Expr) (op : CmpOp) := fun (a : AV) (Γ₁ : Led) => HE c r ρ Γ₁ (HT_Compare_k2 c QB E op a) E
theorem HT_Compare {l r : Expr} {op : CmpOp} {pos : Pos} (hb : behindInMarks op r = false) (q : HE c l ρ Γ (HT_Compare_k3 c ρ QB E r op) E) : HT c (.Compare l [op] [r] pos) ρ Γ QB E := fun s S =>
  wpAny_isTrue_Compare1 (vuse S (.refl ..) (q s S) fun v a s₁ Γ₁ S₁ P₁ _ hv hq => vuse S₁ P₁ (hq s₁ S₁) fun w b s₂ Γ₂ S₂ P₂ T hw hq₂ => vuse S₂ P₂ (hq₂ s₂ v w S₂.C (hv.tups T) hw) fun x d s₃ Γ₃ S₃ P₃ _ hx hq₃ => wlift P₃ (hq₃ s₃ x S₃.C hx)) hb
/-- a test that is read for its value -/
noncomputable abbrev HT_value_k1 (c : Cx) (QB : Bool → Led → Prop) (E : EP) := fun (a : AV) (Γ₁ : Led) => HTr c a Γ₁ QB E
theorem HT_value {e : Expr} (he : ∀ whole, isTrue e c.env whole = do let v ← whole; standAt e.pos; holding [v] (truthy v)) (q : HE c e ρ Γ (HT_value_k1 c QB E) E) : HT c e ρ Γ QB E := fun s S =>
  wpAny_isTrue_value (vuse S (.refl ..) (q s S) fun v a s₁ Γ₁ S₁ P₁ _ hv hq => wlift P₁ (hq s₁ v S₁.C hv)) (he _)
theorem HT_BoolOp {op : BoolOp} {es : List Expr} {pos : Pos} (q : HAll c op es ρ Γ QB E) : HT c (.BoolOp op es pos) ρ Γ QB E := fun s S => wpAny_isTrue_BoolOp (q s S)
noncomputable abbrev HT_Not_k1 (QB : Bool → Led → Prop) := fun (b : Bool) => QB (!b)
theorem HT_Not {x : Expr} {pos : Pos} (q : HT c x ρ Γ (HT_Not_k1 QB) E) : HT c (.UnaryOp .Not x pos) ρ Γ QB E := fun s S =>
  wpAny_isTrue_Not (buse S (.refl ..) (q s S) fun b s₁ Γ₁ S₁ P₁ _ hq => ⟨Γ₁, S₁.C, P₁, hq⟩)
/-- two ways on -/
noncomputable def Br (b : Bool) (P1 P2 : Prop) : Prop := if b = true then P1 else P2
noncomputable abbrev HAll_And_k1 (c : Cx) (ρ : Loc) (QB : Bool → Led → Prop) (E : EP) (r : List Expr) := fun (b : Bool) (Γ₁ : Led) => Br b (HAll c .And r ρ Γ₁ QB E) (QB false Γ₁)
theorem HAll_And {x : Expr} {r : List Expr} (q : HT c x ρ Γ (HAll_And_k1 c ρ QB E r) E) : HAll c .And (x :: r) ρ Γ QB E := fun s S =>
  wpAny_allTrue_And_cons (buse S (.refl ..) (q s S) fun b s₁ Γ₁ S₁ P₁ _ hq => by
    cases b with
    | true => exact wlift P₁ (hq s₁ S₁)
    | false => exact ⟨Γ₁, S₁.C, P₁, hq⟩)
noncomputable abbrev HAll_Or_k1 (c : Cx) (ρ : Loc) (QB : Bool → Led → Prop) (E : EP) (r : List Expr) := fun (b : Bool) (Γ₁ : Led) => Br b (QB true Γ₁) (HAll c .Or r ρ Γ₁ QB E)
theorem HAll_Or {x : Expr} {r : List Expr} (q : HT c x ρ Γ (HAll_Or_k1 c ρ QB E r) E) : HAll c .Or (x :: r) ρ Γ QB E := fun s S =>
  wpAny_allTrue_Or_cons (buse S (.refl ..) (q s S) fun b s₁ Γ₁ S₁ P₁ _ hq => by
    cases b with
    | false => exact wlift P₁ (hq s₁ S₁)
    | true => exact ⟨Γ₁, S₁.C, P₁, hq⟩)
noncomputable abbrev HE_IfExp_k1 (c : Cx) (ρ : Loc) (Q : AV → Led → Prop) (E : EP) (a : Expr) (b : Expr) := fun (x : Bool) (Γ₁ : Led) => Br x (HE c a ρ Γ₁ Q E) (HE c b ρ Γ₁ Q E)
theorem HE_IfExp {t a b : Expr} {pos : Pos} (q : HT c t ρ Γ (HE_IfExp_k1 c ρ Q E a b) E) : HE c (.IfExp t a b pos) ρ Γ Q E := fun s S =>
  wpAny_IfExp (buse S (.refl ..) (q s S) fun x s₁ Γ₁ S₁ P₁ _ hq => by
    cases x with
    | true => exact wlift P₁ (hq s₁ S₁)
    | false => exact wlift P₁ (hq s₁ S₁))
theorem sz99 : 99 ≤ sizeLine := by decide
noncomputable abbrev HE_Tuple_k1 (Q : AV → Led → Prop) := fun (as : List AV) (Γ₁ : Led) => as.length ≤ 99 ∧ Q (.tup as) Γ₁
theorem HE_Tuple {es : List Expr} {k : Nat} {pos : Pos} (q : HEs c es ρ Γ (HE_Tuple_k1 Q) E) : HE c (.Tuple es k pos) ρ Γ Q E := fun s S =>
  wpAny_Tuple (vsuse S (.refl ..) (q s _ S) fun vs as s₁ Γ₁ S₁ P₁ _ hvs hq => ⟨by rw [hvs.length]; exact Nat.le_trans hq.1 sz99, Γ₁, S₁.C.push _, P₁.trans (Pres.push ..), _,
    .tup _ vs as ⟨_, Heap.get?_push_size _ rfl, rfl, _, rfl⟩ (hvs.tups (tups_push _)), hq.2⟩)
noncomputable abbrev HE_List_k1 (Q : AV → Led → Prop) := fun (as : List AV) (Γ₁ : Led) => as.length ≤ 99 ∧ ∀ a, Q (.ref a) ((a, .list as) :: Γ₁)
theorem HE_List {es : List Expr} {pos : Pos} (q : HEs c es ρ Γ (HE_List_k1 Q) E) : HE c (.List es pos) ρ Γ Q E := fun s S =>
  wpAny_List (vsuse S (.refl ..) (q s _ S) fun vs as s₁ Γ₁ S₁ P₁ _ hvs hq => ⟨by rw [hvs.length]; exact Nat.le_trans hq.1 sz99, (s₁.heap.objs.size, .list as) :: Γ₁,
    S₁.C.pushed ⟨vs, 0, Heap.get?_push_size _ rfl, hvs.tups (tups_push _)⟩, P₁.trans (Pres.pushed ..), _, .ref _, hq.2 _⟩)
end
section
variable {c : Cx} {Γ : Led} {E : EP}
theorem hide {M : Model} {A : Around} {α : Type} {m : Sem α} {Q0 : α → Shared → Prop} {E0 : Value → Shared → Prop} {s : Shared} (h : ∀ (Q : α → Shared → Prop) (E : Value → Shared → Prop), (∀ v s, Q0 v s → Q v s) → (∀ x s, E0 x s → E x s) → wpAny M A m Q E s) : wpAny M A m Q0 E0 s := h _ _ (fun _ _ x => x) (fun _ _ x => x)
theorem PG.use {X : List Addr} {h : Heap} {α : Type} {R : Heap → α → Led → Prop} {a : α} {s' : Shared} {G : Prop} (x : PG c X Γ h R a s') (k : ∀ Γ', SatC c Γ' s' → Pres X Γ h Γ' s'.heap → R s'.heap a Γ' → G) : G := x.elim fun Γ' y => k Γ' y.1 y.2.1 y.2.2
theorem PX.use {X : List Addr} {h : Heap} {F : XF} {x : Value} {s' : Shared} {G : Prop} (y : PX c F X Γ h E x s') (k : ∀ e d T fl code told Γ', x = .ref e → Fly c X Γ h s' e d T fl code told Γ' → F T fl → E code Γ' → G) : G := by
  obtain ⟨e, d, T, fl, code, told, Γ', h1, h2, h3, h4⟩ := y
  exact k e d T fl code told Γ' h1 h2 h3 h4
theorem XAt.use {h : Heap} {Γ₀ : Led} {h₀ : Heap} {e d : Addr} {T : Option Addr} {fl : Value} {G : Prop} (x : XAt h Γ₀ h₀ e d T fl) (k : ∀ o vs a0, h.get? e = some o → o.cls = .ref 41 → o.dict = some d → o.data = .fields vs → vs[0]? = some a0 → vs[1]? = some (match (generalizing := false) T with | some T => .ref T | none => .none) → G) : G := by
  obtain ⟨o, vs, a0, h1, h2, h3, h4, h5, h6⟩ := x.ob
  exact k o vs a0 h1 h2 h3 h4 h5 h6
theorem RF.use4 {X : List Addr} {h : Heap} {Q : AF → Loc → Led → Prop} {f : Flow} {s' : Shared} {G : Prop} (x : PG c X Γ h (RF c Q) f s')
    (k : ∀ Γ' ρ', SatC c Γ' s' → Pres X Γ h Γ' s'.heap → NsR s'.heap c.env.locals ρ' → c.env.locals ∉ adr Γ' → (f = .next → Q .next ρ' Γ' → G) ∧ (f = .brk → Q .brk ρ' Γ' → G) ∧ (f = .cont → Q .cont ρ' Γ' → G) ∧ (∀ v a, f = .ret v → VR s'.heap v a → Q (.ret a) ρ' Γ' → G)) : G := by
  refine x.use fun Γ' S P hr => ?_
  obtain ⟨af, ρ', hf, N, L, hq⟩ := hr
  have z := k Γ' ρ' S P N L
  cases f <;> cases af <;> first | exact hf.elim | exact z.1 rfl hq | exact z.2.1 rfl hq | exact z.2.2.1 rfl hq | exact z.2.2.2 _ _ rfl hf hq
end
/-! exceptions on their way -/
theorem fields_noTup {h : Heap} {a : Addr} {o : Obj} {vs us : Array Value} (ho : h.get? a = some o) (hd : o.data = .fields vs) (t : IsTup h a us) : False := by
  obtain ⟨o', ho', _, n, hd'⟩ := t
  rw [ho] at ho'; cases ho'; rw [hd] at hd'; cases hd'
theorem SatC.fld {c : Cx} {Γ : Led} {s : Shared} {a : Addr} {o : Obj} {vs : Array Value} {h' : Heap} (S : SatC c Γ s) (hΓ : a ∉ adr Γ) (hn : c.h₀.get? a = none) (ho : s.heap.get? a = some o) (hd : o.data = .fields vs)
    (hs : Heap.SameBut a s.heap h') : SatC c Γ { s with heap := h' } where
  base b ob e := (hs.2 b fun q => by rw [q, hn] at e; cases e).trans (S.base b ob e)
  gens := S.gens
  os := S.os
  led p hp := (S.led p hp).keeps (fun b us t => by
      obtain ⟨ob, hb, r⟩ := id t
      exact ⟨ob, (hs.2 b fun q => fields_noTup ho hd (q ▸ t)).trans hb, r⟩) fun ob e => (hs.2 _ fun q => hΓ (q ▸ List.mem_map_of_mem hp)).trans e
  new := S.new
  nod := S.nod
  frs := S.frs.of_keeps fun b ob e nf => ⟨ob, (hs.2 b fun q => by rw [q, ho] at e; cases e; exact nf vs hd).trans e, rfl⟩
  off := S.off
theorem SatC.slots {c : Cx} {Γ : Led} {s : Shared} {h' : Heap} (S : SatC c Γ s) (hs : Heap.SlotsOnly (c.fr.filterMap (·.frame)) s.heap h') : SatC c Γ { s with heap := h' } where
  base b ob e := (hs.2.1 b fun q => by have := (S.frs.mem q).1; rw [this] at e; cases e).trans (S.base b ob e)
  gens := S.gens
  os := S.os
  led p hp := (S.led p hp).keeps (fun b us t => isTup_slots t fun o ho => hs.2.2 b o ho) fun ob e => (hs.2.1 _ fun q => by
      obtain ⟨env, he, hf⟩ := List.mem_filterMap.mp q
      exact S.off env he _ hf (List.mem_map_of_mem hp)).trans e
  new := S.new
  nod := S.nod
  frs := S.frs.of_slotsOnly hs
  off := S.off
theorem Pres.fld {X : List Addr} {Γ Γ₁ : Led} {h h₁ h₂ : Heap} {a : Addr} (P : Pres X Γ h Γ₁ h₁) (ha : New Γ h a) (hs : Heap.SameBut a h₁ h₂) : Pres X Γ h Γ₁ h₂ :=
  ⟨fun b o e hX hΓ => by
    obtain ⟨sl, e₁⟩ := P.keep b o e hX hΓ
    exact ⟨sl, (hs.2 b fun q => ha.not (q ▸ e) (q ▸ hΓ)).trans e₁⟩, P.grow, fun b m n o e => by
    obtain ⟨o₁, e₁⟩ := P.live b m n o e
    exact ⟨o₁, (hs.2 b fun q => ha.not (q ▸ e) (q ▸ n)).trans e₁⟩⟩
theorem Pres.slots {X : List Addr} {Γ Γ₁ : Led} {h h₁ h₂ : Heap} {S : List Addr} (P : Pres X Γ h Γ₁ h₁) (hs : Heap.SlotsOnly S h₁ h₂) : Pres X Γ h Γ₁ h₂ :=
  ⟨fun b o e hX hΓ => by
    obtain ⟨sl, e₁⟩ := P.keep b o e hX hΓ
    obtain ⟨sl₂, e₂⟩ := hs.2.2 b _ e₁
    exact ⟨sl₂, e₂⟩, P.grow, fun b m n o e => by
    obtain ⟨o₁, e₁⟩ := P.live b m n o e
    obtain ⟨sl₂, e₂⟩ := hs.2.2 b _ e₁
    exact ⟨_, e₂⟩⟩

section
variable {c : Cx} {X : List Addr} {Γ Γ' : Led} {h : Heap} {s : Shared} {e d t L : Addr} {T : Option Addr} {fl v : Value} {code told : Str}
/-- the head's flight mark is set -/
theorem Fly.mark (F : Fly c X Γ h s e d (some t) fl code told Γ') (v : Value) :
    Fly c X Γ h { s with heap := s.heap.update t (Obj.mapFields (·.setIfInBounds 3 v)) } e d (some t) v code told Γ' := by
  refine F.A.use fun o vs a0 ho hc hdct hd h0 h1 => ?_
  obtain ⟨tn, te, oT, ts, hT, hdT, h3⟩ := F.A.tb
  have z3 := F.tb
  have hs : Heap.SameBut t s.heap (s.heap.update t (Obj.mapFields (·.setIfInBounds 3 v))) := Heap.SameBut.update ..
  have hd' := Obj.data_mapFields hdT (·.setIfInBounds 3 v)
  exact ⟨F.S.fld (z3 t rfl).1 (z3 t rfl).2 hT hdT hs, F.P.fld tn hs, ⟨⟨o, vs, a0, (hs.2 e (Ne.symm te)).trans ho, hc, hdct, hd, h0, h1⟩,
    ⟨tn, te, _, _, Heap.get?_update_self _ hT (Obj.isFreed_of_fields hd'), hd', by simp [(Array.getElem?_eq_some_iff.mp h3).1]⟩, F.A.en, F.A.ed⟩, F.eΓ, F.eb, z3⟩
theorem Fly.setFlight {M : Model} {A : Around} {E : Value → Shared → Prop} {Q : Unit → Shared → Prop} {fr : Option Addr} (F : Fly c X Γ h s e d (some t) fl code told Γ')
    (q : ∀ s', Fly c X Γ h s' e d (some t) (fr.elim .none fun f => rawInt f) code told Γ' → Q () s') : wpAny M A (setFlight (.ref e) fr) Q E s := by
  refine F.A.use fun o vs a0 ho hc hdct hd h0 h1 => ?_
  obtain ⟨tn, te, oT, ts, hT, hdT, h3⟩ := F.A.tb
  unfold PySem.setFlight
  refine wpAny_bind (wpAny_field ho hd h1 ?_)
  rw [if_pos (show (Value.ref t != Value.none) = true from by simp)]
  exact wpAny_setField hT hdT (Array.getElem?_eq_some_iff.mp h3).1 (q _ (F.mark _))
theorem dict_mapFields {o : Obj} {vs : Array Value} {f : Array Value → Array Value} (h : o.data = .fields vs) : (o.mapFields f).dict = o.dict := by
  obtain ⟨c0, d0, dt, sl⟩ := o
  cases h; rfl
/-- a new entry at the head -/
theorem Fly.entry {A : Around} {E : Value → Shared → Prop} {Q : Unit → Shared → Prop} {env : Env} {hn : Bool} (F : Fly c X Γ h s e d T fl code told Γ') (hA : A.frames = some c.fr) {e0 : Env} {r : List Env} (hfr : c.fr = e0 :: r) (hf0 : e0.frame = some L) (hf : env.frame = some L)
    (q : ∀ s' t, Fly c X Γ h s' e d (some t) (rawInt L) code told Γ' → Q () s') (head : Value) :
    wpAny c.M A (do let a ← PySem.frameOf env; let pl ← entryPlaceOf L hn; let b ← EntryCells.newEntry head a .none (rawInt L) .none pl; setField (.ref e) 1 b) Q E s := by
  refine F.A.use fun o vs a0 ho hc hdct hd h0 h1 => ?_
  have S := F.S
  have P := F.P
  have hene : e ∉ (c.fr).filterMap (·.frame) := fun hm => by
    obtain ⟨_, o', ho', hnf⟩ := S.frs.mem hm
    rw [ho] at ho'; cases ho'; exact hnf vs hd
  refine wpAny_bind ?_
  have key : ∀ {Q' : Value → Shared → Prop}, (∀ h', Heap.SlotsOnly (c.fr.filterMap (·.frame)) s.heap h' → Q' (.ref L) { s with heap := h' }) → wpAny c.M A (PySem.frameOf env) Q' E s := by
    intro Q' hq
    unfold PySem.frameOf
    refine wpAny_bind (wpAny_frameEnvs hA ?_)
    have hdw : (c.fr.dropWhile fun x => x.frame != env.frame) = c.fr := by rw [hfr]; simp [List.dropWhile, hf0, hf]
    rw [hdw]
    unfold frameObject
    rw [hfr]
    refine wpAny_bind (wpAny_bind (wpAny_readyFrames_fun (hfr ▸ S.frs) fun h₁ hs₁ => ?_))
    rw [← hfr] at hs₁
    refine wpAny_pure ?_
    rw [hf0]
    exact wpAny_pure (hq h₁ hs₁)
  refine key fun h₁ hs₁ => ?_
  have S₁ := S.slots hs₁
  have P₁ := P.slots hs₁
  refine wpAny_bind (wpAny_entryPlaceOf fun pl hpl => ?_)
  unfold EntryCells.newEntry newFields
  refine wpAny_bind (wpAny_newObj_type ?_ (hpl.sizeOk5 _ _ _ _ _))
  have he₁ : h₁.get? e = some o := (hs₁.2.1 e hene).trans ho
  generalize hN : ({ cls := .type "traceback", dict := none, data := .fields ([head, .ref L, .none, rawInt L, .none] ++ (if pl.isEmpty then List.replicate 6 Value.none else pl)).toArray } : Obj) = N
  have S₂ := S₁.push N
  have P₂ : Pres X Γ h ((d, excD code told) :: Γ') (h₁.push N) := P₁.trans ((Pres.push ..).mono sub_nil)
  have he₂ := Heap.get?_push_of_some (h := h₁) N he₁
  have hTe : h₁.objs.size ≠ e := Nat.ne_of_gt (Heap.lt_size he₁)
  have hsz : 1 < vs.size := (Array.getElem?_eq_some_iff.mp h1).1
  refine wpAny_setField he₂ hd hsz (q _ h₁.objs.size ?_)
  have hs : Heap.SameBut e (h₁.push N) ((h₁.push N).update e (Obj.mapFields (·.setIfInBounds 1 (Value.ref h₁.objs.size)))) := Heap.SameBut.update ..
  have hd₃ := Obj.data_mapFields hd (·.setIfInBounds 1 (Value.ref h₁.objs.size))
  have hT₂ : (h₁.push N).get? h₁.objs.size = some N := Heap.get?_push_size h₁ (by rw [← hN]; rfl)
  refine ⟨S₂.fld F.eΓ F.eb he₂ hd hs, P₂.fld F.A.en hs, ⟨⟨_, _, a0, Heap.get?_update_self _ he₂ (Obj.isFreed_of_fields hd₃), (Obj.cls_mapFields _ _).trans hc, (dict_mapFields hd).trans hdct, hd₃, by rw [Array.getElem?_setIfInBounds_ne (by decide)]; exact h0, by simp [hsz]⟩,
    ⟨P₁.new (.inr (none_at h₁)), hTe, N, ([head, .ref L, .none, rawInt L, .none] ++ (if pl.isEmpty then List.replicate 6 Value.none else pl)).toArray, (hs.2 _ hTe).trans hT₂, by rw [← hN], by first | (simp; done) | (rcases hpl with rfl | ⟨_, _, _, _, _, _, _, rfl⟩ <;> simp)⟩, F.A.en, F.A.ed⟩, F.eΓ, F.eb, ?_⟩
  · rintro t ⟨⟩
    exact ⟨fun m => Nat.lt_irrefl _ (S₁.below m), S₁.base_none (Nat.le_refl _)⟩
theorem Fly.note {A : Around} {E : Value → Shared → Prop} {Q : Unit → Shared → Prop} (G : Gd c) (hA : A.frames = some c.fr) (F : Fly c X Γ h s e d T fl code told Γ') (hfl : fIn c T fl)
    (q : ∀ s' t L, c.env.frame = some L → Fly c X Γ h s' e d (some t) (rawInt L) code told Γ' → Q () s') : wpAny c.M A (noteFrame (.ref e) c.env) Q E s := by
  obtain ⟨e0, r, L, hfr, hf0, hf⟩ := G.fr1
  refine F.A.use fun o vs a0 ho hc hdct hd h0 h1 => ?_
  unfold noteFrame
  simp only [hf]
  refine wpAny_bind (wpAny_field ho hd h1 ?_)
  cases T with
  | none =>
    rw [if_neg (by decide)]
    exact F.entry hA hfr hf0 hf (fun s' t => q s' t L hf) _
  | some t =>
    obtain ⟨tn, te, oT, ts, hT, hdT, h3⟩ := F.A.tb
    rw [if_pos (show (Value.ref t != Value.none) = true from by simp)]
    refine wpAny_bind (wpAny_field hT hdT h3 ?_)
    rcases hfl with q' | q' | ⟨L', hL', q'⟩
    · cases q'
    · subst q'
      rw [if_neg (show ¬ ((Value.none == rawInt L) = true) from by simp [rawInt])]
      refine wpAny_bind (wpAny_setField hT hdT (Array.getElem?_eq_some_iff.mp h3).1 ?_)
      exact (F.mark .none).entry hA hfr hf0 hf (fun s' t => q s' t L hf) _
    · rw [hf] at hL'; cases hL'; subst q'
      rw [if_pos (by simp)]
      exact wpAny_pure (q _ t L hf F)
theorem PX.noted {A : Around} {E : EP} {F : XF} {x : Value} (G : Gd c) (hA : A.frames = some c.fr) (p : PX c (fIn c) X Γ h E x s) (hF : ∀ t L, c.env.frame = some L → F (some t) (rawInt L)) {E' : Value → Shared → Prop} :
    wpAny c.M A (noteFrame x c.env) (fun _ s' => PX c F X Γ h E x s') E' s := by
  obtain ⟨e, d, T, fl, code, told, Γ', rfl, Z, h3, h4⟩ := p
  exact Z.note G hA h3 fun s' t L hL F' => ⟨e, d, _, _, code, told, Γ', rfl, F', hF t L hL, h4⟩
/-- a frame is left -/
theorem PX.left {A : Around} {E : EP} {x : Value} (G : Gd c) (hA : A.frames = some c.fr) (p : PX c (fIn c) X Γ h E x s) {E' : Value → Shared → Prop} :
    wpAny c.M A (leaving c.env x) (fun _ s' => PX c fOut X Γ h E x s') E' s := by
  obtain ⟨e, d, T, fl, code, told, Γ', rfl, Z, h3, h4⟩ := p
  unfold leaving
  refine wpAny_bind (Z.note G hA h3 fun s' t L hL F' => F'.setFlight fun s'' F'' => ⟨e, d, _, _, code, told, Γ', rfl, F'', ⟨rfl, rfl⟩, h4⟩)
/-- a loop of this frame is left -/
theorem PX.cameBack {A : Around} {E : EP} {x : Value} (G : Gd c) (p : PX c (fun T _ => T.isSome = true) X Γ h E x s) :
    cameBackBy c.M A c.env (fun x s' => PX c (fIn c) X Γ h E x s') x s := by
  obtain ⟨e, d, T, fl, code, told, Γ', rfl, Z, h3, h4⟩ := p
  obtain ⟨e0, r, L, hfr, hf0, hf⟩ := G.fr1
  cases T with
  | none => cases h3
  | some t =>
    obtain ⟨o, vs, a0, ho, hc, hdct, hd, h0, h1⟩ := Z.A.ob
    unfold cameBackBy
    refine wpAny_bind (wpAny_field ho hd h1 ?_)
    rw [if_neg (by simp)]
    exact Z.setFlight fun s'' F'' => ⟨e, d, _, _, code, told, Γ', rfl, F'', .inr (.inr ⟨L, hf, by rw [hf]; rfl⟩), h4⟩
end
section
variable {c : Cx} {E : EP} {ρ : Loc} {Γ : Led} {Q : AV → Led → Prop} {QB : Bool → Led → Prop}
/-! values read back -/
theorem VR.ref' {h : Heap} {v : Value} {a : Addr} (x : VR h v (.ref a)) : v = .ref a := by cases x; rfl
theorem VR.int' {h : Heap} {v : Value} {i : Int} (x : VR h v (.int i)) : ∃ t, v = .int i t := by cases x; exact ⟨_, rfl⟩
theorem VR.str' {h : Heap} {v : Value} {i : Str} (x : VR h v (.str i)) : ∃ t, v = .str i t := by cases x; exact ⟨_, rfl⟩
theorem VR.bool' {h : Heap} {v : Value} {i : Bool} (x : VR h v (.bool i)) : v = .bool i := by cases x; rfl
theorem VR.none' {h : Heap} {v : Value} (x : VR h v .none) : v = .none := by cases x; rfl
theorem VR.tup' {h : Heap} {v : Value} {l : List AV} (x : VR h v (.tup l)) : ∃ a vs, v = .ref a ∧ IsTup h a vs.toArray ∧ VRs h vs l := by cases x with | tup a vs l t r => exact ⟨a, vs, rfl, t, r⟩
theorem SatC.or {s : Shared} {a : Addr} {o : AO} (S : SatC c Γ s) (l : Lk a Γ o) : OR c.prog c.w s.heap a o := S.led _ l.mem
/-- costs tokens alone, the end of a rule -/
theorem retT {s : Shared} {v : Value} {a : AV} {t : Nat} (S : SatC c Γ s) (hv : VR s.heap v a) (q : Q a Γ) : PG c [] Γ s.heap (RV Q) v { s with toks := t } := ⟨Γ, S.tok t, Pres.refl .., a, hv, q⟩
theorem ret_ {s : Shared} {v : Value} {a : AV} (S : SatC c Γ s) (hv : VR s.heap v a) (q : Q a Γ) : PG c [] Γ s.heap (RV Q) v s := ⟨Γ, S, Pres.refl .., a, hv, q⟩

/-! whole numbers -/
theorem HBin_add {a b : Int} (q : Q (.int (a + b)) Γ) : HBin c .Add (.int a) (.int b) Γ Q E := fun s va vb S ha hb => by
  obtain ⟨t, rfl⟩ := ha.int'; obtain ⟨u, rfl⟩ := hb.int'; with_reducible exact add_int (retT S (.int ..) q)
theorem HBin_sub {a b : Int} (q : Q (.int (a - b)) Γ) : HBin c .Sub (.int a) (.int b) Γ Q E := fun s va vb S ha hb => by
  obtain ⟨t, rfl⟩ := ha.int'; obtain ⟨u, rfl⟩ := hb.int'; with_reducible exact sub_int (retT S (.int ..) q)
theorem HBin_mul {a b : Int} (ha' : -2 ^ 64 < a) (hb' : a < 2 ^ 64) (q : Q (.int (a * b)) Γ) : HBin c .Mult (.int a) (.int b) Γ Q E := fun s va vb S ha hb => by
  obtain ⟨t, rfl⟩ := ha.int'; obtain ⟨u, rfl⟩ := hb.int'; with_reducible exact mul_int (retT S (.int ..) q) (IntMulOk.of_left (intBits_le_64 ha' hb'))
theorem HBin_div {a b : Int} (hb' : 0 < b) (hl : b < 2 ^ 64) (q : Q (.int (a.fdiv b)) Γ) : HBin c .FloorDiv (.int a) (.int b) Γ Q E := fun s va vb S ha hb => by
  obtain ⟨t, rfl⟩ := ha.int'; obtain ⟨u, rfl⟩ := hb.int'
  refine floordiv_int (Int.ne_of_gt hb') (retT S (.int ..) q) (.inl ?_)
  simp only [Builtin.divisionGoesByPylong, Bool.and_eq_false_iff, decide_eq_false_iff_not]
  refine .inl ?_
  have : b.natAbs.log2 < 64 := by
    have hn : b.natAbs ≠ 0 := by lia
    rw [Nat.log2_lt hn]; lia
  split <;> lia
theorem HBin_mod {a b : Int} (hb' : b ≠ 0) (q : Q (.int (a.fmod b)) Γ) : HBin c .Mod (.int a) (.int b) Γ Q E := fun s va vb S ha hb => by
  obtain ⟨t, rfl⟩ := ha.int'; obtain ⟨u, rfl⟩ := hb.int'; with_reducible exact mod_int' hb' (retT S (.int ..) q)
theorem HBin_cat {a b : Str} (hl : a.length + b.length ≤ sizeLine) (q : Q (.str (a ++ b)) Γ) : HBin c .Add (.str a) (.str b) Γ Q E := fun s va vb S ha hb => by
  obtain ⟨t, rfl⟩ := ha.str'; obtain ⟨u, rfl⟩ := hb.str'; with_reducible exact add_str (fun t' tk => retT S (.str ..) q) hl
theorem HCmp_lt {a b : Int} (q : Q (.bool (decide (a < b))) Γ) : HCmp c .Lt (.int a) (.int b) Γ Q E := fun s va vb S ha hb => by
  obtain ⟨t, rfl⟩ := ha.int'; obtain ⟨u, rfl⟩ := hb.int'; with_reducible exact wpAny_lt_int (ret_ S (.bool _) q)
theorem HCmp_le {a b : Int} (q : Q (.bool (decide (a ≤ b))) Γ) : HCmp c .LtE (.int a) (.int b) Γ Q E := fun s va vb S ha hb => by
  obtain ⟨t, rfl⟩ := ha.int'; obtain ⟨u, rfl⟩ := hb.int'; with_reducible exact le_int (ret_ S (.bool _) q)
theorem HCmp_gt {a b : Int} (q : Q (.bool (decide (a > b))) Γ) : HCmp c .Gt (.int a) (.int b) Γ Q E := fun s va vb S ha hb => by
  obtain ⟨t, rfl⟩ := ha.int'; obtain ⟨u, rfl⟩ := hb.int'; with_reducible exact gt_int (ret_ S (.bool _) q)
theorem HCmp_ge {a b : Int} (q : Q (.bool (decide (a ≥ b))) Γ) : HCmp c .GtE (.int a) (.int b) Γ Q E := fun s va vb S ha hb => by
  obtain ⟨t, rfl⟩ := ha.int'; obtain ⟨u, rfl⟩ := hb.int'; with_reducible exact ge_int (ret_ S (.bool _) q)
theorem HCmp_eq {a b : Int} (q : Q (.bool (a == b)) Γ) : HCmp c .Eq (.int a) (.int b) Γ Q E := fun s va vb S ha hb => by
  obtain ⟨t, rfl⟩ := ha.int'; obtain ⟨u, rfl⟩ := hb.int'; with_reducible exact eq_int (ret_ S (.bool _) q)
theorem HCmp_ne {a b : Int} (q : Q (.bool (a != b)) Γ) : HCmp c .NotEq (.int a) (.int b) Γ Q E := fun s va vb S ha hb => by
  obtain ⟨t, rfl⟩ := ha.int'; obtain ⟨u, rfl⟩ := hb.int'; with_reducible exact ne_int (ret_ S (.bool _) q)
theorem HCmp_eqs {a b : Str} (q : Q (.bool (a == b)) Γ) : HCmp c .Eq (.str a) (.str b) Γ Q E := fun s va vb S ha hb => by
  obtain ⟨t, rfl⟩ := ha.str'; obtain ⟨u, rfl⟩ := hb.str'; with_reducible exact eq_str (ret_ S (.bool _) q)
theorem HCmp_nes {a b : Str} (q : Q (.bool (a != b)) Γ) : HCmp c .NotEq (.str a) (.str b) Γ Q E := fun s va vb S ha hb => by
  obtain ⟨t, rfl⟩ := ha.str'; obtain ⟨u, rfl⟩ := hb.str'; with_reducible exact ne_str (ret_ S (.bool _) q)
theorem HTr_bool {b : Bool} (q : QB b Γ) : HTr c (.bool b) Γ QB E := fun s v S hv => by
  cases hv.bool'; exact wpAny_truthy_bool ⟨Γ, S, Pres.refl .., q⟩

/-! subscripts -/
noncomputable def HSub (c : Cx) (value slice : Expr) (o i : AV) (Γ : Led) (Q : AV → Led → Prop) (E : EP) : Prop := ∀ s vo vi, SatC c Γ s → VR s.heap vo o → VR s.heap vi i → Wp c (fIn c) [] Γ (subscriptTail value slice vo vi) (RV Q) E s
noncomputable abbrev HE_Subscript_k1 (c : Cx) (Q : AV → Led → Prop) (E : EP) (value : Expr) (slice : Expr) (o : AV) := fun (i : AV) (Γ₂ : Led) => HSub c value slice o i Γ₂ Q E
noncomputable abbrev HE_Subscript_k2 (c : Cx) (ρ : Loc) (Q : AV → Led → Prop) (E : EP) (value : Expr) (slice : Expr) := fun (o : AV) (Γ₁ : Led) => HE c slice ρ Γ₁ (HE_Subscript_k1 c Q E value slice o) E
theorem HE_Subscript {value slice : Expr} {pos : Pos} (q : HE c value ρ Γ (HE_Subscript_k2 c ρ Q E value slice) E) : HE c (.Subscript value slice pos) ρ Γ Q E := fun s S =>
  Subscript_ (vuse S (.refl ..) (q s S) fun v a s₁ Γ₁ S₁ P₁ _ hv hq => vuse S₁ P₁ (hq s₁ S₁) fun w b s₂ Γ₂ S₂ P₂ T hw hq₂ => wlift P₂ (hq₂ s₂ v w S₂.C (hv.tups T) hw))
theorem HGet_list {a : Addr} {l : List AV} {k : Int} {x : AV} (h : Lk a Γ (.list l)) (h0 : 0 ≤ k) (h1 : k < 2 ^ 63) (hx : l[k.toNat]? = some x) (q : Q x Γ) : HGet c (.ref a) (.int k) Γ Q E := fun s vo vi S ho hi => by
  cases ho.ref'; obtain ⟨t, rfl⟩ := hi.int'
  obtain ⟨vs, n, hl', hvs⟩ := S.or h
  have hl := hl'.isList
  obtain ⟨v, hv, hr⟩ := hvs.get hx
  exact wpAny_getItem_list hl h0 h1 (by simpa using hv) (ret_ S hr q)
theorem HSub_list {value slice : Expr} {a : Addr} {l : List AV} {k : Int} {x : AV} (hs : ∀ t, subscripted slice false (.ref a) (.int k t) = operate [.ref a, .int k t] (getItem (.ref a) (.int k t)))
    (h : Lk a Γ (.list l)) (h0 : 0 ≤ k) (h1 : k < 2 ^ 63) (hx : l[k.toNat]? = some x) (q : Q x Γ) : HSub c value slice (.ref a) (.int k) Γ Q E := fun s vo vi S ho hi => by
  have key := HGet_list (E := E) h h0 h1 hx q s vo vi S ho hi
  cases ho.ref'; obtain ⟨t, rfl⟩ := hi.int'
  obtain ⟨vs, n, hl', hvs⟩ := S.or h
  have hl := hl'.isList
  exact tail_any hl.typeIs slot_list_getitem.lookup key (hs t)
theorem HGet_wlist {a : Addr} {l : List AV} {k : Int} {x : AV} (h : Lk a Γ (.wlist l)) (h0 : 0 ≤ k) (h1 : k < 2 ^ 63) (hx : l[k.toNat]? = some x) (q : Q x Γ) : HGet c (.ref a) (.int k) Γ Q E := fun s vo vi S ho hi => by
  cases ho.ref'; obtain ⟨t, rfl⟩ := hi.int'
  obtain ⟨vs, hl, hvs⟩ := S.or h
  obtain ⟨v, hv, hr⟩ := hvs.get hx
  exact wpAny_getItem_list hl h0 h1 (by simpa using hv) (ret_ S hr q)
theorem HSub_wlist {value slice : Expr} {a : Addr} {l : List AV} {k : Int} {x : AV} (hs : ∀ t, subscripted slice false (.ref a) (.int k t) = operate [.ref a, .int k t] (getItem (.ref a) (.int k t)))
    (h : Lk a Γ (.wlist l)) (h0 : 0 ≤ k) (h1 : k < 2 ^ 63) (hx : l[k.toNat]? = some x) (q : Q x Γ) : HSub c value slice (.ref a) (.int k) Γ Q E := fun s vo vi S ho hi => by
  have key := HGet_wlist (E := E) h h0 h1 hx q s vo vi S ho hi
  cases ho.ref'; obtain ⟨t, rfl⟩ := hi.int'
  obtain ⟨vs, hl, hvs⟩ := S.or h
  exact tail_any hl.typeIs slot_list_getitem.lookup key (hs t)
theorem HSub_tup {value slice : Expr} {l : List AV} {k : Int} {j : Nat} {x : AV} (hs : ∀ a t, subscripted slice false (.ref a) (.int k t) = operate [.ref a, .int k t] (getItem (.ref a) (.int k t)))
    (h0 : -2 ^ 63 ≤ k) (h1 : k < 2 ^ 63) (hj : seqIndex? k l.length = some j) (hx : l[j]? = some x) (q : Q x Γ) : HSub c value slice (.tup l) (.int k) Γ Q E := fun s vo vi S ho hi => by
  obtain ⟨a, vs, rfl, ht, hvs⟩ := ho.tup'; obtain ⟨t, rfl⟩ := hi.int'
  obtain ⟨v, hv, hr⟩ := hvs.get hx
  have hT : s.TypeIs (.ref a) "tuple" := by obtain ⟨o, ho, hc, _⟩ := ht; exact ⟨o, ho, hc⟩
  exact tail_any hT slot_tuple_getitem.lookup (getItem_tuple ht h0 h1 (by rw [← hj]; simp [hvs.length]) (by simpa using hv) (ret_ S hr q)) (hs a t)
theorem sd_get {es : List (Str × AV)} {kvs : List (Str × Value)} {s : Shared} {a : Addr} {k : Str} {x : AV} (hd : s.heap.DictOf (strKind c.prog c.w) a kvs) (hk : KVR s.heap kvs es) (l : Lk k es x) : ∃ v, valueAt kvs k = some v ∧ VR s.heap v x :=
  hk.lk l (by obtain ⟨_, _, _, _, _, _, _, _, hn⟩ := hd; exact hn)
theorem HGet_sd {a : Addr} {es : List (Str × AV)} {k : Str} {x : AV} (h : Lk a Γ (.sd es)) (l : Lk k es x) (q : Q x Γ) : HGet c (.ref a) (.str k) Γ Q E := fun s vo vi S ho hi => by
  cases ho.ref'; obtain ⟨t, rfl⟩ := hi.str'
  obtain ⟨kvs, hd, hk⟩ := S.or h
  obtain ⟨v, hv, hr⟩ := sd_get hd hk l
  exact wpAny_getItem_of (strKind_is ..) hd.mapOf hv (retT S hr q)
theorem HGet_id {a : Addr} {es : List (Int × AV)} {k : Int} {x : AV} (h : Lk a Γ (.id es)) (l : Lk k es x) (q : Q x Γ) : HGet c (.ref a) (.int k) Γ Q E := fun s vo vi S ho hi => by
  cases ho.ref'; obtain ⟨t, rfl⟩ := hi.int'
  obtain ⟨kvs, hd, hk⟩ := S.or h
  obtain ⟨v, hv, hr⟩ := hk.lk l (by obtain ⟨_, _, _, _, _, _, _, _, hn⟩ := hd; exact hn)
  exact wpAny_getItem_of (intKind_is ..) hd.mapOf hv (retT S hr q)
theorem dict_type {K : Type} [DecidableEq K] {knd : PySem.KeyKind c.prog c.w K} {s : Shared} {a : Addr} {kvs : List (K × Value)} (hd : s.heap.DictOf knd a kvs) : s.TypeIs (.ref a) "dict" := by
  obtain ⟨o, es, ep, ho, he, _⟩ := hd; exact ⟨o, ho, he.1⟩
theorem HSub_sd {value slice : Expr} {a : Addr} {es : List (Str × AV)} {k : Str} {x : AV} (hs : ∀ t, subscripted slice false (.ref a) (.str k t) = operate [.ref a, .str k t] (getItem (.ref a) (.str k t)))
    (h : Lk a Γ (.sd es)) (l : Lk k es x) (q : Q x Γ) : HSub c value slice (.ref a) (.str k) Γ Q E := fun s vo vi S ho hi => by
  have key := HGet_sd (E := E) h l q s vo vi S ho hi
  cases ho.ref'; obtain ⟨t, rfl⟩ := hi.str'
  obtain ⟨kvs, hd, hk⟩ := S.or h
  exact tail_any (dict_type hd) slot_dict_getitem.lookup key (hs t)
theorem HSub_id {value slice : Expr} {a : Addr} {es : List (Int × AV)} {k : Int} {x : AV} (hs : ∀ t, subscripted slice false (.ref a) (.int k t) = operate [.ref a, .int k t] (getItem (.ref a) (.int k t)))
    (h : Lk a Γ (.id es)) (l : Lk k es x) (q : Q x Γ) : HSub c value slice (.ref a) (.int k) Γ Q E := fun s vo vi S ho hi => by
  have key := HGet_id (E := E) h l q s vo vi S ho hi
  cases ho.ref'; obtain ⟨t, rfl⟩ := hi.int'
  obtain ⟨kvs, hd, hk⟩ := S.or h
  exact tail_any (dict_type hd) slot_dict_getitem.lookup key (hs t)
theorem KVR.has {κ : Type} [DecidableEq κ] {h : Heap} {k : κ} {r : List (κ × Value)} {r' : List (κ × AV)} (x : KVR h r r') : (valueAt r k).isSome = r'.any fun p => decide (p.1 = k) := by
  induction x with
  | nil => rfl
  | cons hv hs ih =>
    rename_i k' _ _ _ _
    by_cases e : k' = k
    · simp [valueAt, e]
    · simp only [valueAt] at ih
      simp [valueAt, e, ih]
theorem HCmp_in_id {a : Addr} {es : List (Int × AV)} {k : Int} {b : Bool} (h : Lk a Γ (.id es)) (hm : (a == sysModules) = false) (hb : (es.any fun p => decide (p.1 = k)) = b) (q : Q (.bool b) Γ) : HCmp c .In (.int k) (.ref a) Γ Q E := fun s vo vi S ho hi => by
  cases hi.ref'; obtain ⟨t, rfl⟩ := ho.int'
  obtain ⟨kvs, hd, hk⟩ := S.or h
  refine wpAny_in_of (intKind_is ..) hm hd.mapOf ?_
  rw [hk.has, hb]; exact retT S (.bool _) q
theorem HCmp_notIn_id {a : Addr} {es : List (Int × AV)} {k : Int} {b : Bool} (h : Lk a Γ (.id es)) (hm : (a == sysModules) = false) (hb : (es.any fun p => decide (p.1 = k)) = b) (q : Q (.bool !b) Γ) : HCmp c .NotIn (.int k) (.ref a) Γ Q E := fun s vo vi S ho hi => by
  cases hi.ref'; obtain ⟨t, rfl⟩ := ho.int'
  obtain ⟨kvs, hd, hk⟩ := S.or h
  refine wpAny_notIn_of (intKind_is ..) hm hd.mapOf ?_
  rw [hk.has, hb]; exact retT S (.bool _) q
theorem HCmp_in_sd {a : Addr} {es : List (Str × AV)} {k : Str} {b : Bool} (h : Lk a Γ (.sd es)) (hm : (a == sysModules) = false) (hb : (es.any fun p => decide (p.1 = k)) = b) (q : Q (.bool b) Γ) : HCmp c .In (.str k) (.ref a) Γ Q E := fun s vo vi S ho hi => by
  cases hi.ref'; obtain ⟨t, rfl⟩ := ho.str'
  obtain ⟨kvs, hd, hk⟩ := S.or h
  refine wpAny_in_of (strKind_is ..) hm hd.mapOf ?_
  rw [hk.has, hb]; exact retT S (.bool _) q
theorem HCmp_notIn_sd {a : Addr} {es : List (Str × AV)} {k : Str} {b : Bool} (h : Lk a Γ (.sd es)) (hm : (a == sysModules) = false) (hb : (es.any fun p => decide (p.1 = k)) = b) (q : Q (.bool !b) Γ) : HCmp c .NotIn (.str k) (.ref a) Γ Q E := fun s vo vi S ho hi => by
  cases hi.ref'; obtain ⟨t, rfl⟩ := ho.str'
  obtain ⟨kvs, hd, hk⟩ := S.or h
  refine wpAny_notIn_of (strKind_is ..) hm hd.mapOf ?_
  rw [hk.has, hb]; exact retT S (.bool _) q
end
section
variable {c : Cx} {E : EP} {ρ : Loc} {Γ : Led} {Q : AF → Loc → Led → Prop}
theorem HSet_wlist {a : Addr} {l l' : List AV} {k : Int} {x : AV} {Γ' : Led} {Q : Led → Prop} (h : Lk a Γ (.wlist l)) (h0 : 0 ≤ k) (h1 : k < 2 ^ 63) (hx : k < l.length) (U : Up a (.wlist l') Γ Γ') (e : l.set k.toNat x = l') (q : Q Γ') : HSet c (.ref a) (.int k) x Γ Q E := fun s vo vi vv S ho hi hv => by
  subst e
  cases ho.ref'; obtain ⟨t, rfl⟩ := hi.int'
  obtain ⟨vs, hl, hvs⟩ := S.or h
  refine wpAny_setItem_list hl h0 h1 (by simpa [hvs.length] using hx) fun h' hl' hs => ?_
  have T := tups_but S U.key_mem hs
  refine ⟨Γ', S.upd U hs ⟨vs.set k.toNat vv, ?_, ?_⟩, .upd U hs, q⟩
  · simpa using hl'
  · exact (hvs.set hv).tups T
theorem HSet_sd {a : Addr} {es es' : List (Str × AV)} {k : Str} {x : AV} {Γ' : Led} {Q : Led → Prop} (h : Lk a Γ (.sd es)) (hl : es.length ≤ 99) (u : Up k x es es') (U : Up a (.sd es') Γ Γ') (q : Q Γ') : HSet c (.ref a) (.str k) x Γ Q E := fun s vo vi vv S ho hi hv => by
  cases ho.ref'; obtain ⟨t, rfl⟩ := hi.str'
  obtain ⟨kvs, hd, hk⟩ := S.or h
  have hn : (kvs.map (·.1)).Nodup := by obtain ⟨_, _, _, _, _, _, _, _, hn⟩ := hd; exact hn
  refine wpAny_setItem_pairs (strKind_is ..) hd (fun h' hd' hs => ?_) (by rw [hk.length]; exact Nat.le_trans hl sz99)
  have T := tups_but S U.key_mem hs
  exact ⟨Γ', (S.upd U hs ⟨_, hd', (hk.up hv u hn).tups T⟩).tok _, .upd U hs, q⟩
theorem HSet_id {a : Addr} {es es' : List (Int × AV)} {k : Int} {x : AV} {Γ' : Led} {Q : Led → Prop} (h : Lk a Γ (.id es)) (hl : es.length ≤ 99) (u : Up k x es es') (U : Up a (.id es') Γ Γ') (q : Q Γ') : HSet c (.ref a) (.int k) x Γ Q E := fun s vo vi vv S ho hi hv => by
  cases ho.ref'; obtain ⟨t, rfl⟩ := hi.int'
  obtain ⟨kvs, hd, hk⟩ := S.or h
  have hn : (kvs.map (·.1)).Nodup := by obtain ⟨_, _, _, _, _, _, _, _, hn⟩ := hd; exact hn
  refine wpAny_setItem_pairs (intKind_is ..) hd (fun h' hd' hs => ?_) (by rw [hk.length]; exact Nat.le_trans hl sz99)
  have T := tups_but S U.key_mem hs
  exact ⟨Γ', (S.upd U hs ⟨_, hd', (hk.up hv u hn).tups T⟩).tok _, .upd U hs, q⟩

/-! statements -/
theorem Sat.of {s s₁ : Shared} {Γ₁ : Led} {ρ₁ : Loc} (S : Sat c ρ Γ s) (S₁ : SatC c Γ₁ s₁) (N : NsR s₁.heap c.env.locals ρ₁) (L : c.env.locals ∉ adr Γ₁) : Sat c ρ₁ Γ₁ s₁ := ⟨S₁, N, L, S.lnew⟩
theorem retF {s s₁ : Shared} {Γo Γ₁ : Led} {ρ₁ : Loc} {h : Heap} {f : Flow} {af : AF} (S : Sat c ρ₁ Γ₁ s₁) (P : Pres [c.env.locals] Γo h Γ₁ s₁.heap) (hf : FR s₁.heap f af) (q : Q af ρ₁ Γ₁) : PG c [c.env.locals] Γo h (RF c Q) f s₁ :=
  ⟨Γ₁, S.C, P, af, ρ₁, hf, S.loc, S.lof, q⟩
theorem retN {s s₁ : Shared} {Γo Γ₁ : Led} {ρ₁ : Loc} {h : Heap} (S : Sat c ρ₁ Γ₁ s₁) (P : Pres [c.env.locals] Γo h Γ₁ s₁.heap) (q : Q .next ρ₁ Γ₁) : PG c [c.env.locals] Γo h (RF c Q) .next s₁ := retF (s := s) (af := .next) S P trivial q
theorem retR {s s₁ : Shared} {Γo Γ₁ : Led} {ρ₁ : Loc} {h : Heap} {v : Value} {a : AV} (S : Sat c ρ₁ Γ₁ s₁) (P : Pres [c.env.locals] Γo h Γ₁ s₁.heap) (hv : VR s₁.heap v a) (q : Q (.ret a) ρ₁ Γ₁) : PG c [c.env.locals] Γo h (RF c Q) (.ret v) s₁ := retF (s := s) (af := .ret a) S P hv q
theorem HB_nil (q : Q .next ρ Γ) : HB c [] ρ Γ Q E := fun s S => wpAny_execs_nil (retN (s := s) S (.refl ..) q)
/-- on to the next statement, or out -/
noncomputable def Nx (f : AF) (P P' : Prop) : Prop := match f with | .next => P | _ => P'
noncomputable abbrev HB_cons_k1 (c : Cx) (Q : AF → Loc → Led → Prop) (E : EP) (r : List Stmt) := fun (f : AF) (ρ₁ : Loc) (Γ₁ : Led) => Nx f (HB c r ρ₁ Γ₁ Q E) (Q f ρ₁ Γ₁)
theorem HB_cons {st : Stmt} {r : List Stmt} (q : HS c st ρ Γ (HB_cons_k1 c Q E r) E) : HB c (st :: r) ρ Γ Q E := fun s S =>
  wpAny_execs_cons (wpAny_mono (q s S) (fun f s₁ hg => RF.use4 hg fun Γ₁ ρ₁ S₁ P N L => by
    have S₁' := S.of S₁ N L
    refine ⟨fun e hq => ?_, fun e hq => ?_, fun e hq => ?_, fun v a e hf hq => ?_⟩ <;> subst e
    · exact wliftX P (hq s₁ S₁')
    · exact retF (f := .brk) (s := s) S₁' P (show FR s₁.heap .brk .brk from trivial) hq
    · exact retF (f := .cont) (s := s) S₁' P (show FR s₁.heap .cont .cont from trivial) hq
    · exact retF (f := .ret v) (s := s) S₁' P (show FR s₁.heap (.ret v) (.ret a) from hf) hq) fun _ _ x => x)
/-- a local takes a value -/
noncomputable def HSto (x : Str) (a : AV) (ρ : Loc) (P : Loc → Prop) : Prop := ∃ ρ', Up x (some a) ρ ρ' ∧ P ρ'
theorem sto {P : Loc → Prop} {x : Str} {a : AV} {ρ' : Loc} (U : Up x (some a) ρ ρ') (q : P ρ') : HSto x a ρ P := ⟨ρ', U, q⟩
theorem fn_notcls (G : Gd c) : ((c.env.scope.kind == .class || (c.env.scope.kind == .module && c.env.locals != c.env.globals)) = false) := by rw [G.kind]; rfl
theorem Sat.stored {s : Shared} {x : Str} {v : Value} {a : AV} {Γo : Led} {ho : Heap} {P : Loc → Prop} {E' : Value → Shared → Prop} {K : Unit → Shared → Prop} (G : Gd c) (hk : c.env.kindOf x = some .local) (S : Sat c ρ Γ s) (Pr : Pres [c.env.locals] Γo ho Γ s.heap) (hv : VR s.heap v a) (q : HSto x a ρ P)
    (k : ∀ ρ' s', Sat c ρ' Γ s' → Pres [c.env.locals] Γo ho Γ s'.heap → Tups s.heap s'.heap → P ρ' → K () s') : wpAny c.M c.A (storeName c.env x v) K E' s := by
  obtain ⟨ρ', U, hq⟩ := q
  obtain ⟨⟨m, hn, hm⟩, _⟩ := id S.loc
  refine wpAny_storeName_local hk hn (fun h' hn' hs => ?_) (fn_notcls G)
  exact k ρ' _ (S.store hn hm hn' hs hv U) (Pr.trans (Pres.store hn' hs)) (tups_store hn hs) hq
noncomputable abbrev HS_Assign_k1 (Q : AF → Loc → Led → Prop) (Γ₁ : Led) := fun (ρ' : Loc) => Q .next ρ' Γ₁
noncomputable abbrev HS_Assign_k2 (ρ : Loc) (Q : AF → Loc → Led → Prop) (x : Str) := fun (a : AV) (Γ₁ : Led) => HSto x a ρ (HS_Assign_k1 Q Γ₁)
theorem HS_Assign (G : Gd c) {x : Str} {p' pos : Pos} {value : Expr} (hk : c.env.kindOf x = some .local) (hs : swapsWith value (some (.Name x p')) pos.line c.env = pure false)
    (q : HE c value ρ Γ (HS_Assign_k2 ρ Q x) E) : HS c (.Assign [.Name x p'] value pos) ρ Γ Q E := fun s S =>
  wpAny_Assign_Name (vuse S (.refl ..) (q s S) fun v a s₁ Γ₁ S₁ P₁ _ hv hq => S₁.stored G hk P₁ hv hq fun ρ' s' S' P' _ hq' => retN (s := s) S' P' hq') hs
noncomputable abbrev HS_AugAssign_k1 (Q : AF → Loc → Led → Prop) (Γ₂ : Led) := fun (ρ' : Loc) => Q .next ρ' Γ₂
noncomputable abbrev HS_AugAssign_k2 (ρ : Loc) (Q : AF → Loc → Led → Prop) (x : Str) := fun (r : AV) (Γ₂ : Led) => HSto x r ρ (HS_AugAssign_k1 Q Γ₂)
noncomputable abbrev HS_AugAssign_k3 (c : Cx) (ρ : Loc) (Q : AF → Loc → Led → Prop) (E : EP) (x : Str) (op : Operator) (old : AV) := fun (a : AV) (Γ₁ : Led) => HIn c op old a Γ₁ (HS_AugAssign_k2 ρ Q x) E
theorem HS_AugAssign (G : Gd c) {x : Str} {p' pos : Pos} {op : Operator} {value : Expr} {old : AV} (hk : c.env.kindOf x = some .local) (l : Lk x ρ (some old))
    (q : HE c value ρ Γ (HS_AugAssign_k3 c ρ Q E x op old) E) : HS c (.AugAssign (.Name x p') op value pos) ρ Γ Q E := fun s S => by
  obtain ⟨⟨m, hn, hm⟩, _⟩ := id S.loc
  have := hm _ l.mem
  cases e : m x with
  | none => rw [show m (x, some old).1 = m x from rfl, e] at this; exact this.elim
  | some v0 =>
    rw [show m (x, some old).1 = m x from rfl, e] at this
    exact wpAny_AugAssign_Name (wpAny_loadName_local G.kind hk hn e (vuse S (.refl ..) (q s S) fun v a s₁ Γ₁ S₁ P₁ T₁ hv hq => vuse S₁ P₁ (hq s₁ v0 v S₁.C (this.tups T₁) hv) fun r b s₂ Γ₂ S₂ P₂ _ hr hq₂ =>
      S₂.stored G hk P₂ hr hq₂ fun ρ' s' S' P' _ hq' => retN (s := s) S' P' hq'))
noncomputable abbrev HS_AssignSub_k1 (ρ : Loc) (Q : AF → Loc → Led → Prop) := fun (Γ₄ : Led) => Q .next ρ Γ₄
noncomputable abbrev HS_AssignSub_k2 (c : Cx) (ρ : Loc) (Q : AF → Loc → Led → Prop) (E : EP) (a : AV) (b : AV) := fun (d : AV) (Γ₃ : Led) => HSet c b d a Γ₃ (HS_AssignSub_k1 ρ Q) E
noncomputable abbrev HS_AssignSub_k3 (c : Cx) (ρ : Loc) (Q : AF → Loc → Led → Prop) (E : EP) (i : Expr) (a : AV) := fun (b : AV) (Γ₂ : Led) => HE c i ρ Γ₂ (HS_AssignSub_k2 c ρ Q E a b) E
noncomputable abbrev HS_AssignSub_k4 (c : Cx) (ρ : Loc) (Q : AF → Loc → Led → Prop) (E : EP) (o : Expr) (i : Expr) := fun (a : AV) (Γ₁ : Led) => HE c o ρ Γ₁ (HS_AssignSub_k3 c ρ Q E i a) E
theorem HS_AssignSub {o i value : Expr} {p' pos : Pos} (hs : swapsWith value (some (.Subscript o i p')) pos.line c.env = pure false)
    (q : HE c value ρ Γ (HS_AssignSub_k4 c ρ Q E o i) E) : HS c (.Assign [.Subscript o i p'] value pos) ρ Γ Q E := fun s S =>
  wpAny_Assign_Subscript (vuse S (.refl ..) (q s S) fun v a s₁ Γ₁ S₁ P₁ _ hv hq => vuse S₁ P₁ (hq s₁ S₁) fun ov b s₂ Γ₂ S₂ P₂ T₂ ho hq₂ => vuse S₂ P₂ (hq₂ s₂ S₂) fun iv d s₃ Γ₃ S₃ P₃ T₃ hi hq₃ =>
    wuse P₃ (hq₃ s₃ ov iv v S₃.C (ho.tups T₃) hi ((hv.tups T₂).tups T₃)) fun _ s₄ Γ₄ S₄ P₄ P' hq₄ => retN (s := s) (S₃.pres S₄ P') P₄ hq₄) hs
noncomputable def AV.plain : AV → Bool | .ref _ => false | .tup _ => false | _ => true
theorem expr_goes {P : Prop} {h : Heap} {v : Value} {a : AV} (hv : VR h v a) (hp : a.plain = true) (x : P) : match (generalizing := false) v with | .ref _ => False | _ => P := by
  cases hv <;> first | exact x | cases hp
noncomputable abbrev HS_Expr_k1 (ρ : Loc) (Q : AF → Loc → Led → Prop) := fun (a : AV) (Γ₁ : Led) => a.plain = true ∧ Q .next ρ Γ₁
theorem HS_Expr {e : Expr} {pos : Pos} (hi : interactive c.env = false) (hs : swapsWith e none pos.line c.env = pure false) (q : HE c e ρ Γ (HS_Expr_k1 ρ Q) E) : HS c (.Expr e pos) ρ Γ Q E := fun s S =>
  wpAny_Expr (vuse S (.refl ..) (q s S) fun v a s₁ Γ₁ S₁ P₁ _ hv hq => by
    have := retN (Q := Q) (s := s) S₁ P₁ hq.2
    exact expr_goes hv hq.1 this) hi hs
noncomputable abbrev HS_If_k1 (c : Cx) (ρ : Loc) (Q : AF → Loc → Led → Prop) (E : EP) (a : List Stmt) (b : List Stmt) := fun (x : Bool) (Γ₁ : Led) => Br x (HB c a ρ Γ₁ Q E) (HB c b ρ Γ₁ Q E)
theorem HS_If {t : Expr} {a b : List Stmt} {pos : Pos} (q : HT c t ρ Γ (HS_If_k1 c ρ Q E a b) E) : HS c (.If t a b pos) ρ Γ Q E := fun s S =>
  wpAny_If (buse S (.refl ..) (q s S) fun x s₁ Γ₁ S₁ P₁ _ hq => by
    cases x with
    | true => exact wliftX P₁ (hq s₁ S₁)
    | false => exact wliftX P₁ (hq s₁ S₁))
noncomputable abbrev HS_Return_k1 (ρ : Loc) (Q : AF → Loc → Led → Prop) := fun (a : AV) (Γ₁ : Led) => Q (.ret a) ρ Γ₁
theorem HS_Return {e : Expr} {pos : Pos} (q : HE c e ρ Γ (HS_Return_k1 ρ Q) E) : HS c (.Return (some e) pos) ρ Γ Q E := fun s S =>
  wpAny_Return_some (vuse S (.refl ..) (q s S) fun v a s₁ Γ₁ S₁ P₁ _ hv hq => retR (s := s) S₁ P₁ hv hq)
theorem HS_Return0 {pos : Pos} (q : Q (.ret .none) ρ Γ) : HS c (.Return none pos) ρ Γ Q E := fun s S => wpAny_Return_none (retR (s := s) S (.refl ..) .none q)
end
/-- a context within the program's heap part K, at most so deep -/
structure In (c : Cx) (K : Frag) (D : Nat) : Prop where
  G : Gd c
  K : c.K = K
  dep : c.A.depth ≤ D
  uni : c.A.units ≤ 3 * D
section
variable {c : Cx} {K : Frag} {D : Nat} {E : EP} {ρ : Loc} {Γ : Led} {Q : AV → Led → Prop} {QB : Bool → Led → Prop}
theorem SatC.inK {s : Shared} (S : SatC c Γ s) (I : In c K D) : K.In s.heap := I.K ▸ S.kin I.G
/-! calls -/
noncomputable def KeepOk (c : Cx) (f : AV) (Γ : Led) : Prop := ∀ s v, SatC c Γ s → VR s.heap v f → ∃ k, (k = Keeper.frame ∨ k = Keeper.machine ∨ k = Keeper.boundFrame) ∧ Looks c.M s.heap (keeperOf v) k
theorem keepK (I : In c K D) {f : Addr} (h : keepIn K (.ref f) = true) : KeepOk c (.ref f) Γ := fun s v S hv => by
  cases hv.ref'; exact keeps_K h _ (S.inK I)
theorem keepB {n : String} : KeepOk c (.bi n) Γ := fun s v S hv => by cases hv; exact ⟨.machine, .inr (.inl rfl), Looks.of_pure rfl⟩
theorem keepT {n : String} : KeepOk c (.ty n) Γ := fun s v S hv => by cases hv; exact ⟨.machine, .inr (.inl rfl), Looks.of_pure rfl⟩
theorem keepF {f : Addr} {fd : FuncData} (h : Lk f Γ (.fn fd)) : KeepOk c (.ref f) Γ := fun s v S hv => by
  cases hv.ref'
  obtain ⟨o, ho, hc, hd⟩ := S.or h
  refine ⟨.frame, .inl rfl, (Looks.ld (part := none) ho).andThen ?_⟩
  rw [hd]; exact .now
theorem wcall {X : List Addr} {Γo : Led} {ho : Heap} {s : Shared} {f : Value} {vs : List Value} (P : Pres X Γo ho Γ s.heap) (q : Wp c fOut [] Γ (call f vs []) (RV Q) E s) :
    wpAny c.M c.A (call f vs []) (PG c X Γo ho (RV Q)) (PX c (fIn c) X Γo ho E) s :=
  wpAny_mono (wlift P q) (fun _ _ x => x) fun _ _ x => x.flag fOut_in
noncomputable abbrev HE_Call_k1 (c : Cx) (Q : AV → Led → Prop) (E : EP) (vf : AV) := fun (as : List AV) (Γ₂ : Led) => KeepOk c vf Γ₂ ∧ HC c vf as Γ₂ Q E
noncomputable abbrev HE_Call_k2 (c : Cx) (ρ : Loc) (Q : AV → Led → Prop) (E : EP) (e : Expr) (es : List Expr) := fun (vf : AV) (Γ₁ : Led) => HEs c (e :: es) ρ Γ₁ (HE_Call_k1 c Q E vf) E
theorem HE_Call {f : Str} {p pos : Pos} {e : Expr} {es : List Expr} (hst : starEach (e :: es) c.env = (false, eval e c.env) :: starEach es c.env) (hpl : (backTo pos (starEach es c.env)).any (·.1) = false)
    (q : HE c (.Name f p) ρ Γ (HE_Call_k2 c ρ Q E e es) E) : HE c (.Call (.Name f p) (e :: es) [] pos) ρ Γ Q E := fun s S => by
  show wpAny c.M c.A (eval (.Call (.Name f p) (e :: es) [] pos) c.env) _ _ s
  rw [arm_eval_Call_Name']
  refine wpAny_bind (vuse S (.refl ..) (q s S) fun vf a s₁ Γ₁ S₁ P₁ _ hv hq => ?_)
  have key := hq s₁ pos S₁
  rw [hst] at key ⊢
  refine callWith_of (P := fun h => ∃ k, (k = Keeper.frame ∨ k = Keeper.machine ∨ k = Keeper.boundFrame) ∧ Looks c.M h (keeperOf vf) k) (by show ((false || (backTo pos (starEach es c.env)).any (·.1)) || false) = false; rw [hpl]; rfl) (fun _ h => h) (evalArgs_plain ?_)
  refine vsuse S₁ P₁ key fun vs as s₂ Γ₂ S₂ P₂ T₂ hvs hq₂ => ⟨hq₂.1 s₂ vf S₂.C (hv.tups T₂), ?_⟩
  exact wcall P₂ (hq₂.2 s₂ vf vs S₂.C (hv.tups T₂) hvs)
noncomputable abbrev HE_Call0_k1 (c : Cx) (Q : AV → Led → Prop) (E : EP) := fun (vf : AV) (Γ₁ : Led) => KeepOk c vf Γ₁ ∧ HC c vf [] Γ₁ Q E
theorem HE_Call0 {f : Str} {p pos : Pos} (q : HE c (.Name f p) ρ Γ (HE_Call0_k1 c Q E) E) : HE c (.Call (.Name f p) [] [] pos) ρ Γ Q E := fun s S => by
  show wpAny c.M c.A (eval (.Call (.Name f p) [] [] pos) c.env) _ _ s
  rw [arm_eval_Call_Name']
  refine wpAny_bind (vuse S (.refl ..) (q s S) fun vf a s₁ Γ₁ S₁ P₁ _ hv hq => ?_)
  refine callWith_of (P := fun h => ∃ k, (k = Keeper.frame ∨ k = Keeper.machine ∨ k = Keeper.boundFrame) ∧ Looks c.M h (keeperOf vf) k) rfl (fun _ h => h) (evalArgs_nil3 ⟨hq.1 s₁ vf S₁.C hv, ?_⟩)
  exact wcall P₁ (hq.2 s₁ vf [] S₁.C hv .nil)

/-! a function of the program is entered -/
inductive LocsOf : List (Str × NameKind) → List (Str × AV) → Loc → Prop
  | nil {b : List (Str × AV)} : LocsOf [] b []
  | skip {x : Str} {k : NameKind} {r : List (Str × NameKind)} {b : List (Str × AV)} {ρ : Loc} : (k == .local) = false → LocsOf r b ρ → LocsOf ((x, k) :: r) b ρ
  | arg {x : Str} {r : List (Str × NameKind)} {b : List (Str × AV)} {ρ : Loc} {a : AV} : Lk x b a → LocsOf r b ρ → LocsOf ((x, .local) :: r) b ((x, some a) :: ρ)
  | un {x : Str} {r : List (Str × NameKind)} {b : List (Str × AV)} {ρ : Loc} : x ∉ b.map (·.1) → LocsOf r b ρ → LocsOf ((x, .local) :: r) b ((x, none) :: ρ)
noncomputable def Cx.enter (c : Cx) (env : Env) : Cx := { c with A := c.A.deeper env, env := env, fr := env :: c.fr }
/-- what a body gives back to its caller -/
noncomputable def Ret (Q : AV → Led → Prop) : AF → Loc → Led → Prop := fun f _ Γ => match f with | .ret a => Q a Γ | .next => Q .none Γ | _ => False
theorem zip_rel {h : Heap} : ∀ {names : List Str} {vs : List Value} {as : List AV}, VRs h vs as → ∀ {x : Str}, LocR h ((names.zip vs).lookup x) ((names.zip as).lookup x)
  | [], _, _, _, _ => trivial
  | n :: r, _, _, .nil, _ => trivial
  | n :: r, _ :: vs, _ :: as, .cons hv hs, x => by
    simp only [List.zip_cons_cons, List.lookup_cons]
    cases x == n with
    | true => exact hv
    | false => exact zip_rel hs
theorem mem_of_lookup {α β : Type} [BEq α] [LawfulBEq α] : ∀ {l : List (α × β)} {x : α} {w : β}, l.lookup x = some w → (x, w) ∈ l
  | (k, v) :: r, x, w, h => by
    rw [List.lookup_cons] at h
    cases e : x == k with
    | true => rw [e] at h; cases h; rw [eq_of_beq e]; exact .head _
    | false => rw [e] at h; exact .tail _ (mem_of_lookup h)
theorem Lk.lookup {α β : Type} [BEq α] [LawfulBEq α] {l : List (α × β)} {x : α} {w : β} (h : Lk x l w) (hn : (l.map (·.1)).Nodup) : l.lookup x = some w := by
  induction h with
  | here => simp [List.lookup_cons]
  | there h ih =>
    rw [List.map_cons, List.nodup_cons] at hn
    rw [List.lookup_cons]
    split
    · rename_i e
      exact absurd (by have := List.mem_map_of_mem (f := (·.1)) h.mem; rw [← eq_of_beq e]; exact this) hn.1
    · exact ih hn.2
theorem lookup_none {α β : Type} [BEq α] [LawfulBEq α] {l : List (α × β)} {x : α} (h : x ∉ l.map (·.1)) : l.lookup x = none := by
  cases q : l.lookup x with
  | none => rfl
  | some w => exact absurd (List.mem_map_of_mem (f := (·.1)) (mem_of_lookup q)) h
theorem LocsOf.rel {h : Heap} {m : Str → Option Value} {ns : List (Str × NameKind)} {b : List (Str × AV)} {ρ : Loc} (r : LocsOf ns b ρ) (hn : (b.map (·.1)).Nodup) (H : ∀ x, LocR h (m x) (b.lookup x)) : ∀ p ∈ ρ, LocR h (m p.1) p.2 := by
  induction r with
  | nil => exact fun p hp => nomatch hp
  | skip _ r ih => exact ih hn H
  | arg e r ih => exact fun p hp => (List.mem_cons.mp hp).elim (fun q => by rw [q, ← e.lookup hn]; exact H _) (ih hn H p)
  | un e r ih => exact fun p hp => (List.mem_cons.mp hp).elim (fun q => by rw [q, ← lookup_none e]; exact H _) (ih hn H p)
theorem funFrames_push {base h : Heap} {env : Env} {l : List Env} {L : Addr} {m : Str → Option Value} (hk : env.scope.kind = .function) (hf : env.frame = some L) (hn : h.Ns L m) (hb : base.get? L = none) (hl : h.FunFrames base l) : h.FunFrames base (env :: l) := by
  obtain ⟨o, es, ep, ho, hd, _⟩ := hn
  exact ⟨by rw [hk]; decide, ⟨L, o, hf, hb, ho, fun vs q => by rw [hd] at q; cases q⟩, hl⟩
theorem lookup_reverse {α β : Type} [BEq α] [LawfulBEq α] : ∀ {l : List (α × β)}, (l.map (·.1)).Nodup → ∀ x, l.reverse.lookup x = l.lookup x
  | [], _, _ => rfl
  | (k, v) :: r, hn, x => by
    rw [List.map_cons, List.nodup_cons] at hn
    rw [List.reverse_cons, List.lookup_append, lookup_reverse hn.2 x, List.lookup_cons]
    cases e : x == k with
    | true =>
      have hk : r.lookup x = none := by
        cases q : r.lookup x with
        | none => rfl
        | some w => exact absurd (List.mem_map.mpr ⟨(x, w), mem_of_lookup q, eq_of_beq e⟩) hn.1
      simp [hk, List.lookup_cons, e]
    | false => simp [List.lookup_cons, e]
theorem nodup_zip {α β : Type} : ∀ {ns : List α} {vs : List β}, ns.Nodup → ((ns.zip vs).map (·.1)).Nodup
  | [], _, _ => .nil
  | n :: r, [], _ => .nil
  | n :: r, v :: vs, h => by
    rw [List.nodup_cons] at h
    rw [List.zip_cons_cons, List.map_cons, List.nodup_cons]
    refine ⟨fun m => h.1 ?_, nodup_zip h.2⟩
    obtain ⟨⟨a, b⟩, hp, e⟩ := List.mem_map.mp m
    have := (List.of_mem_zip hp).1
    rw [show a = n from e] at this; exact this
/-- the body's ends told to the caller -/
theorem ends {L : Addr} {Γ : Led} {s : Shared} {h₀ : Heap} (hL : s.heap.get? L = none) (keep : ∀ b o, s.heap.get? b = some o → h₀.get? b = some o)
    {Γ' : Led} {h' : Heap} (P : Pres [L] Γ h₀ Γ' h') : Pres [] Γ s.heap Γ' h' :=
  ((Pres.mono (Y := [L]) (X := []) ⟨fun a o e _ _ => ⟨o.slots, keep a o e⟩, fun _ m => .inl m, fun _ m => nomatch m⟩ sub_nil).trans P).drop hL
theorem SatC.out {env : Env} {s : Shared} (S : SatC (c.enter env) Γ s) : SatC c Γ s := ⟨S.base, S.gens, S.os, S.led, S.new, S.nod, S.frs.2.2, fun e he => S.off e (.tail _ he)⟩
theorem own_raise {α : Type} {M : Model} {A : Around} {cd : Code} {m : Sem α} {k : Value → Sem Unit} {Q : α → Shared → Prop} {E : Value → Shared → Prop} {s : Shared} (h : wpOwn M A cd m Q (fun e s' => wpOwn M A cd (k e) (fun _ s'' => E e s'') E s') s) : wpOwn M A cd (m.onRaise k) Q E s := fun Γ p hc hΓ => by
  rw [Sem.wp_onRaise]
  exact Sem.wp_mono M Γ m (fun _ _ _ h' => h') (fun e p' s' h' => h' Γ p' hc hΓ) p s (h Γ p hc hΓ)
/-- a call as a piece of code of its own -/
noncomputable def HCc (c : Cx) (f : AV) (as : List AV) (Γ : Led) (Q : AV → Led → Prop) (E : EP) : Prop := ∀ s vf vs, SatC c Γ s → VR s.heap vf f → VRs s.heap vs as →
  codeAny c.M c.A (.call vf ⟨vs, []⟩) (fun r s' => match r with | .ok (.ret v) => PG c [] Γ s.heap (RV Q) v s' | .ok _ => False | .error e => PX c fOut [] Γ s.heap E e s') s
theorem HCc.hc {f : AV} {as : List AV} (h : HCc c f as Γ Q E) : HC c f as Γ Q E := fun s vf vs S hf hvs => wpAny_call (h s vf vs S hf hvs)
/-- what holds of a context that is no frame's -/
structure Gd0 (c : Cx) : Prop where
  kin : c.K.In c.h₀
  prg : (c.prog.main.file == Str.ofString "/claim/cut.py") = true ∧ c.prog.main.scope.names.lookup (Str.ofString "super") = none
  bat : ∃ mg, c.h₀.Ns mainGlobals mg ∧ ∀ P, c.h₀.get? P = none → c.h₀.BuiltinsAt mg P
  sm : ∃ o, c.h₀.get? sysModules = some o
  dig : ∃ mc, c.h₀.Ns cStatics mc ∧ mc "sys.int_max_str_digits" = none
  top : ∃ p loose mg mb, TopRead p loose mg mb c.h₀
  hdl : c.A.handled = none
  frs : c.A.frames = some c.fr
theorem Gd.z (G : Gd c) : Gd0 c := ⟨G.kin, G.prg, G.bat, G.sm, G.dig, G.top, G.hdl, G.frs⟩
theorem un_step {u D : Nat} (h : u ≤ 3 * D) : u + 3 ≤ 3 * (D + 1) := Nat.add_le_add_right h 3
theorem In.step (G0 : Gd0 c) (hK : c.K = K) (hdp : c.A.depth ≤ D) (hun : c.A.units ≤ 3 * D) {env : Env} {L : Addr} (hk : env.scope.kind = .function) (hfr : env.frame = some L) (hgl : env.globals = mainGlobals) (hbl : env.builtins = builtinsNs) : In (c.enter env) K (D + 1) :=
  ⟨⟨G0.kin, G0.prg, G0.bat, G0.sm, G0.dig, G0.top, G0.hdl, by show c.A.frames.map (env :: ·) = some (env :: c.fr); rw [G0.frs]; rfl, ⟨env, c.fr, L, rfl, hfr, hfr⟩, hk, hgl, hbl⟩, hK, Nat.succ_le_succ hdp, un_step hun⟩
theorem SatC.step {s : Shared} {env : Env} {h₀ : Heap} {tk : Nat} {L : Addr} {m : Str → Option Value} (S : SatC c Γ s) (keep : ∀ b o, s.heap.get? b = some o → h₀.get? b = some o) (hk : env.scope.kind = .function) (hfr : env.frame = some L) (hns : h₀.Ns L m) (hLb : c.h₀.get? L = none) (hLΓ : L ∉ adr Γ) : SatC (c.enter env) Γ { s with heap := h₀, toks := tk } := {
    base := fun b o e => keep b o (S.base b o e)
    gens := S.gens
    os := S.os
    led := fun p hp => (S.led p hp).keeps (fun a us t => t.keeps keep) fun ob e => keep _ _ e
    new := S.new
    nod := S.nod
    frs := funFrames_push hk hfr hns hLb (S.frs.of_keeps fun b o e _ => ⟨o, keep b o e, rfl⟩)
    off := fun e he L' hL' m => by
      rcases List.mem_cons.mp he with rfl | he
      · rw [hfr] at hL'; cases hL'; exact hLΓ m
      · exact S.off e he L' hL' m }
theorem SatC.newAt {s : Shared} {L : Addr} (S : SatC c Γ s) (hL : s.heap.objs.size = L) : s.heap.get? L = none ∧ c.h₀.get? L = none ∧ L ∉ adr Γ := by
  subst hL
  exact ⟨by cases q : s.heap.get? s.heap.objs.size with
    | none => rfl
    | some o => exact absurd (Heap.lt_size q) (Nat.lt_irrefl _), S.base_none (Nat.le_refl _), fun m => Nat.lt_irrefl _ (S.below m)⟩
theorem own_end {s s₁ : Shared} {Γ₁ : Led} {env : Env} {body : List Stmt} (G' : Gd (c.enter env)) (hLn : s.heap.get? env.locals = none) (P₁ : Pres [] Γ s.heap Γ₁ s₁.heap)
    (Hb : wpOwn c.M c.A (.func body env) (execs body env) (PG (c.enter env) [env.locals] Γ₁ s₁.heap (RF (c.enter env) (Ret Q))) (PX (c.enter env) (fIn (c.enter env)) [env.locals] Γ₁ s₁.heap E) s₁) :
    codeAny c.M c.A (.func body env) (fun r s' => match r with | .ok (.ret v) => PG c [] Γ s.heap (RV Q) v s' | .ok _ => False | .error e => PX c fOut [] Γ s.heap E e s') s₁ := by
  refine codeAny_of_own ?_
  show wpOwn _ c.A _ (do point; match ← (execs body env).onRaise (leaving env) with | .ret v => ret v | _ => ret .none) _ _ _
  refine wpOwn_bind (wpOwn_of_wpAny (wpAny_point (wpOwn_bind (own_raise (wpOwn_mono Hb (fun fl s' hg => ?_) (fun y s' hx => ?_))))))
  · refine hg.use fun Γ' S' P' hr => ?_
    obtain ⟨af, ρ', hfl, N', L', hq⟩ := hr
    have P'' : Pres [] Γ s.heap Γ' s'.heap := ((P₁.mono (sub_nil (X := [env.locals]))).trans P').drop hLn
    cases fl <;> cases af <;> first | exact hfl.elim | exact hq.elim | exact wpOwn_of_wpAny (wpAny_pure ⟨Γ', S'.out, P'', _, .none, hq⟩) | exact wpOwn_of_wpAny (wpAny_pure ⟨Γ', S'.out, P'', _, hfl, hq⟩)
  · refine wpOwn_of_wpAny (wpAny_mono (hx.left (A := c.A.deeper env) (E' := fun _ _ => False) G' G'.frs) (fun _ s'' hx' => ?_) fun _ _ f => f.elim)
    refine PX.use hx' fun e d T' fl code told Γ' he F h1 h2 => ?_
    exact ⟨e, d, T', fl, code, told, Γ', he, ⟨F.S.out, ((P₁.mono (sub_nil (X := [env.locals]))).trans F.P).drop hLn, XAt.lift (X := []) F.A P₁, F.eΓ, F.eb, F.tb⟩, h1, h2⟩
theorem HC_own (I : In c K D) {f : Addr} {o : Obj} {fd : FuncData} {body : List Stmt} {as as' : List AV} {ρ₀ : Loc} (hD : D + 1 < recursionLimit)
    (ho : List.lookup f K = some o) (hdata : o.data = .func fd) (hbody : fd.body = .stmts body) (hcd : codeIn K fd.code fd.qualname = true)
    (hbind : ∀ s vs, SatC c Γ s → VRs s.heap vs as → ∃ vs', VRs s.heap vs' as' ∧ BindsTo s fd ⟨vs, []⟩ ((fd.params.args.map (·.arg)).zip vs')) (hcell : ∀ x ∈ fd.scope.names, x.2 ≠ .cell) (hloc : ∀ n ∈ fd.params.args.map (·.arg), fd.scope.names.lookup n = some .local) (hrev : (fd.params.args.map (·.arg)).Nodup)
    (hρ : LocsOf fd.scope.names ((fd.params.args.map (·.arg)).zip as') ρ₀) (hnod : (ρ₀.map (·.1)).Nodup) (hgl : fd.globals = mainGlobals) (hbl : fd.builtins = builtinsNs) (hco : fd.scope.isCoroutine = false) (hgen : fd.scope.isGenerator = false) (hk : fd.scope.kind = .function)
    (q : ∀ c', In c' K (D + 1) → c'.env.scope = fd.scope → c'.env.cells = fd.closure → c'.env.func = some f → c'.env.code = fd.code → c'.A = c.A.deeper c'.env → ∀ s₁, Sat c' ρ₀ Γ s₁ → wpOwn c'.M c.A (.func body c'.env) (execs body c'.env) (PG c' [c'.env.locals] Γ s₁.heap (RF c' (Ret Q))) (PX c' (fIn c') [c'.env.locals] Γ s₁.heap E) s₁) : HCc c (.ref f) as Γ Q E := fun s vf vs0 S hf hvs0 => by
  cases hf.ref'
  obtain ⟨vs, hvs, hb⟩ := hbind s vs0 S hvs0
  refine codeAny_call_function (Nat.lt_of_le_of_lt I.dep (by lia)) (S.inK I _ _ ho) hdata hco hgen hbody (codeRec_of (S.inK I) hcd) (hb _ _ _ _ ?_)
  refine wpAny_newFunctionEnv hcell (fun x hx => ?_) (fun h₀ hns hsb => ?_) hk
  · obtain ⟨n, v⟩ := x
    exact hloc n (List.of_mem_zip hx).1
  have keep : ∀ b o, s.heap.get? b = some o → h₀.get? b = some o := fun b o e => hsb.extBut b o (Nat.ne_of_lt (Heap.lt_size e)) (Heap.get?_push_of_some _ e)
  refine ⟨(S.nolimit I.G).fresh _ hsb, ?_⟩
  obtain ⟨hLn, hLb, hLΓ⟩ := S.newAt rfl
  generalize s.heap.objs.size = L at hns hLn hLb hLΓ ⊢
  generalize hE : newEnv fd.scope L fd.globals fd.closure (fd.qualname ++ Str.ofString ".<locals>.") (some f) fd.code none fd.builtins = env
  have hsc : env.scope = fd.scope := hE ▸ rfl
  have hfr : env.frame = some L := hE ▸ rfl
  have hlo : L = env.locals := hE ▸ rfl
  have hcc : env.cells = fd.closure ∧ env.func = some f ∧ env.code = fd.code ∧ env.globals = fd.globals ∧ env.builtins = fd.builtins := hE ▸ ⟨rfl, rfl, rfl, rfl, rfl⟩
  clear hE
  subst hlo
  have I' : In (c.enter env) K (D + 1) := .step I.G.z I.K I.dep I.uni (hsc ▸ hk) hfr (hcc.2.2.2.1.trans hgl) (hcc.2.2.2.2.trans hbl)
  have hr : ∀ p ∈ ρ₀, LocR h₀ (((fd.params.args.map (·.arg)).zip vs).reverse.lookup p.1) p.2 := hρ.rel (m := fun x => ((fd.params.args.map (·.arg)).zip vs).reverse.lookup x) (nodup_zip hrev) fun x => by
    rw [lookup_reverse (nodup_zip hrev) x]
    exact zip_rel (names := fd.params.args.map (·.arg)) (hvs.tups fun a us t => t.keeps keep) (x := x)
  refine own_end I'.G hLn ⟨fun a o e _ _ => ⟨o.slots, keep a o e⟩, fun _ m => .inl m, fun _ m => nomatch m⟩ (q _ I' hsc hcc.1 hcc.2.1 hcc.2.2.1 rfl _ ⟨S.step keep (hsc ▸ hk) hfr hns hLb hLΓ, ⟨⟨_, hns, hr⟩, hnod⟩, hLΓ, hLb⟩)
theorem HCc_def (I : In c K D) {f : Addr} {o : Obj} {fd : FuncData} {body : List Stmt} {as : List AV} {ρ₀ : Loc} (hD : D + 1 < recursionLimit)
    (ho : List.lookup f K = some o) (hdata : o.data = .func fd) (hbody : fd.body = .stmts body) (hcd : codeIn K fd.code fd.qualname = true)
    (hbind : ∀ s vs, vs.length = as.length → BindsTo s fd ⟨vs, []⟩ ((fd.params.args.map (·.arg)).zip vs)) (hcell : ∀ x ∈ fd.scope.names, x.2 ≠ .cell) (hloc : ∀ n ∈ fd.params.args.map (·.arg), fd.scope.names.lookup n = some .local) (hrev : (fd.params.args.map (·.arg)).Nodup)
    (hρ : LocsOf fd.scope.names ((fd.params.args.map (·.arg)).zip as) ρ₀) (hnod : (ρ₀.map (·.1)).Nodup) (hgl : fd.globals = mainGlobals) (hbl : fd.builtins = builtinsNs) (hco : fd.scope.isCoroutine = false) (hgen : fd.scope.isGenerator = false) (hk : fd.scope.kind = .function)
    (q : ∀ c', In c' K (D + 1) → c'.env.scope = fd.scope → c'.env.cells = fd.closure → HB c' body ρ₀ Γ (Ret Q) E) : HCc c (.ref f) as Γ Q E :=
  HC_own I hD ho hdata hbody hcd (fun s vs S h => ⟨vs, h, hbind s vs h.length⟩) hcell hloc hrev hρ hnod hgl hbl hco hgen hk fun c' I' h1 h2 _ _ hA s₁ S₁ => wpOwn_of_wpAny (by
    show wpAny c'.M (c.A.deeper c'.env) _ _ _ _
    rw [← hA]
    exact q c' I' h1 h2 s₁ S₁)
end
section
variable {c : Cx} {K : Frag} {D : Nat} {E : EP} {sc : Scope} {ρ : Loc} {Γ : Led} {Q : AV → Led → Prop} {QB : Bool → Led → Prop} {QF : AF → Loc → Led → Prop} {x : Str} {p pos : Pos}
theorem kind_of {k : NameKind} (hs : c.env.scope = sc) (hk : sc.names.lookup x = some k) : c.env.kindOf x = some k := by show c.env.scope.names.lookup x = _; rw [hs]; exact hk
theorem hName {c : Cx} {K : Frag} {D : Nat} {E : EP} {sc : Scope} (I : In c K D) (hs : c.env.scope = sc) {x : Str} (hk : sc.names.lookup x = some .local) (hd : (x == Str.ofString "__debug__") = false) {ρ : Loc} {a : AV} (l : Lk x ρ (some a)) {Γ : Led} {pos : Pos} {Q : AV → Led → Prop} (q : Q a Γ) : HE c (.Name x pos) ρ Γ Q E := HE_Name I.G (kind_of hs hk) hd l q
theorem hGlobal {c : Cx} {K : Frag} {D : Nat} {E : EP} {sc : Scope} (I : In c K D) (hs : c.env.scope = sc) {x : Str} (hk : sc.names.lookup x = some .globalImplicit) (hd : (x == Str.ofString "__debug__") = false) {v : Value} (hg : nsIn K mainGlobals x = some (some v)) {a : AV} (ha : avOf v = some a) {ρ : Loc} {Γ : Led} {pos : Pos} {Q : AV → Led → Prop} (q : Q a Γ) :
    HE c (.Name x pos) ρ Γ Q E := HE_Global I.G (kind_of hs hk) hd (I.K ▸ hg) ha q
theorem hBuiltin {c : Cx} {K : Frag} {D : Nat} {E : EP} {sc : Scope} (I : In c K D) (hs : c.env.scope = sc) {x : Str} (hk : sc.names.lookup x = some .globalImplicit) (hd : (x == Str.ofString "__debug__") = false) (hg : nsIn K mainGlobals x = some none) (hx : (x == Str.ofString "__name__") = false)
    {v : Value} (hb : bootBuiltins x = some v) {a : AV} (ha : avOf v = some a) {ρ : Loc} {Γ : Led} {pos : Pos} {Q : AV → Led → Prop} (q : Q a Γ) : HE c (.Name x pos) ρ Γ Q E := HE_Builtin I.G (kind_of hs hk) hd (I.K ▸ hg) hx hb ha q
noncomputable abbrev hAssign_k1 (QF : AF → Loc → Led → Prop) (Γ₁ : Led) := fun (ρ' : Loc) => QF .next ρ' Γ₁
noncomputable abbrev hAssign_k2 (ρ : Loc) (QF : AF → Loc → Led → Prop) (x : Str) := fun (a : AV) (Γ₁ : Led) => HSto x a ρ (hAssign_k1 QF Γ₁)
theorem hAssign {c : Cx} {K : Frag} {D : Nat} {E : EP} {sc : Scope} (I : In c K D) (hs : c.env.scope = sc) {x : Str} (hk : sc.names.lookup x = some .local) {ρ : Loc} {Γ : Led} {QF : AF → Loc → Led → Prop} {value : Expr} {p pos : Pos} (hw : swapsWith value (some (.Name x p)) pos.line c.env = pure false)
    (q : HE c value ρ Γ (hAssign_k2 ρ QF x) E) : HS c (.Assign [.Name x p] value pos) ρ Γ QF E := HS_Assign I.G (kind_of hs hk) hw q
noncomputable abbrev hAug_k1 (QF : AF → Loc → Led → Prop) (Γ₂ : Led) := fun (ρ' : Loc) => QF .next ρ' Γ₂
noncomputable abbrev hAug_k2 (ρ : Loc) (QF : AF → Loc → Led → Prop) (x : Str) := fun (r : AV) (Γ₂ : Led) => HSto x r ρ (hAug_k1 QF Γ₂)
noncomputable abbrev hAug_k3 (c : Cx) (ρ : Loc) (QF : AF → Loc → Led → Prop) (E : EP) (x : Str) (op : Operator) (old : AV) := fun (a : AV) (Γ₁ : Led) => HIn c op old a Γ₁ (hAug_k2 ρ QF x) E
theorem hAug {op : Operator} {value : Expr} {old : AV} (I : In c K D) (hs : c.env.scope = sc) (hk : sc.names.lookup x = some .local) (l : Lk x ρ (some old))
    (q : HE c value ρ Γ (hAug_k3 c ρ QF E x op old) E) : HS c (.AugAssign (.Name x p) op value pos) ρ Γ QF E := HS_AugAssign I.G (kind_of hs hk) l q
noncomputable abbrev hExpr_k1 (ρ : Loc) (QF : AF → Loc → Led → Prop) := fun (a : AV) (Γ₁ : Led) => a.plain = true ∧ QF .next ρ Γ₁
theorem hExpr {e : Expr} (hs : c.env.scope = sc) (hk : sc.kind = .function) (hw : swapsWith e none pos.line c.env = pure false) (q : HE c e ρ Γ (hExpr_k1 ρ QF) E) : HS c (.Expr e pos) ρ Γ QF E :=
  HS_Expr (by unfold interactive; rw [hs, hk]; rfl) hw q
section
variable {P P' : Prop}
theorem nx_next (q : P) : Nx .next P P' := q
theorem nx_ret {a : AV} (q : P') : Nx (.ret a) P P' := q
theorem nx_brk (q : P') : Nx .brk P P' := q
theorem nx_cont (q : P') : Nx .cont P P' := q
theorem br_t (q : P) : Br true P P' := q
theorem br_f (q : P') : Br false P P' := q
theorem br_split {b : Bool} (q : b = true → P) (q' : b = false → P') : Br b P P' := by cases b; exact q' rfl; exact q rfl
end
theorem Up.other {κ α : Type} {k k' : κ} {a b : α} {l l' : List (κ × α)} (U : Up k a l l') (hne : k' ≠ k) (h : Lk k' l b) : Lk k' l' b := by
  induction U with
  | here => cases h with
    | here => exact absurd rfl hne
    | there h => exact .there h
  | there U ih => cases h with
    | here => exact .here
    | there h => exact .there (ih h)
/-! lengths -/
theorem VRs.one {h : Heap} {vs : List Value} {a : AV} (x : VRs h vs [a]) : ∃ v, vs = [v] ∧ VR h v a := by cases x with | cons hv hn => cases hn; exact ⟨_, rfl, hv⟩
theorem VRs.two {h : Heap} {vs : List Value} {a b : AV} (x : VRs h vs [a, b]) : ∃ v w, vs = [v, w] ∧ VR h v a ∧ VR h w b := by cases x with | cons hv hn => cases hn with | cons hw hn => cases hn; exact ⟨_, _, rfl, hv, hw⟩
theorem VRs.three {h : Heap} {vs : List Value} {a b d : AV} (x : VRs h vs [a, b, d]) : ∃ v w u, vs = [v, w, u] ∧ VR h v a ∧ VR h w b ∧ VR h u d := by cases x with | cons hv hn => obtain ⟨w, u, rfl, hw, hu⟩ := hn.two; exact ⟨_, _, _, rfl, hv, hw, hu⟩
theorem HC_len_list {a : Addr} {l : List AV} (h : Lk a Γ (.list l)) (hl : (l.length : Int) < 2 ^ 63) (q : Q (.int l.length) Γ) : HC c (.bi "len") [.ref a] Γ Q E := fun s vf vs S hf hvs => by
  cases hf; obtain ⟨v, rfl, hv⟩ := hvs.one; cases hv.ref'
  obtain ⟨vs, n, hL', hvs⟩ := S.or h
  have hL := hL'.isList
  have hz : (vs.toArray.size : Int) = l.length := by simp [hvs.length]
  refine call_len_list hL (by rw [hz]; exact hl) ?_
  rw [hz]
  exact retT (t := s.toks + 1 + 1) S (.int ..) q
theorem HC_len_str {x : Str} (hl : (x.length : Int) < 2 ^ 63) (q : Q (.int x.length) Γ) : HC c (.bi "len") [.str x] Γ Q E := fun s vf vs S hf hvs => by
  cases hf; obtain ⟨v, rfl, hv⟩ := hvs.one; obtain ⟨t, rfl⟩ := hv.str'
  exact len_str (by lia) (retT (t := s.toks + 1 + 1) S (.int ..) q)
end
section
variable {c : Cx} {K : Frag} {D : Nat} {E : EP} {ρ : Loc} {Γ : Led} {Q : AV → Led → Prop} {QF : AF → Loc → Led → Prop}
theorem isStr_of {x : Str} {v : Value} : v.isStr x = Value.isStrOf x v := by cases v <;> rfl
theorem lookIn_of {prog : Program} {w : World} {h : Heap} {d : Addr} {kvs : List (Str × Value)} {name : Str} (hd : h.DictOf (strKind prog w) d kvs) :
    ∃ o, h.get? d = some o ∧ lookIn name o = some (valueAt kvs name) := by
  obtain ⟨o, es, ep, ho, he, hdt, hk, hp, hn⟩ := hd
  refine ⟨o, ho, ?_⟩
  have hf := hp.find name
  unfold lookIn
  rw [hdt]
  dsimp only
  have e1 : (fun x : DictEntry => x.key.isStr name) = fun x : DictEntry => (strKind prog w).is name x.key := by funext x; exact isStr_of
  rw [e1]
  have e2 : es.toList.any (·.refKey) = false := by
    rw [List.any_eq_false]
    intro en hen
    obtain ⟨k, hk', _⟩ := hk en (by simpa using hen)
    obtain ⟨t, ht⟩ := Value.isStrOf_shape hk'
    simp [DictEntry.refKey, ht]
  cases q : List.find? (fun x : DictEntry => (strKind prog w).is name x.key) es.toList with
  | some en => rw [q] at hf; simp only [Option.map_some] at hf; rw [← hf]
  | none => rw [q] at hf; simp only [Option.map_none] at hf; rw [← hf]; dsimp only; rw [e2]; rfl
noncomputable def AV.noBi : AV → Bool | .bi _ => false | _ => true
theorem handed_of {h : Heap} {v : Value} {a : AV} (hv : VR h v a) (e : a.noBi = true) : handedIn v = true := by
  cases hv <;> first | rfl | cases e
/-- an attribute of an object is read -/
theorem HAt_inst (I : In c K D) {x d C : Addr} {es : List (Str × AV)} {name : Str} {a : AV} {attr : Option Value} (hx : Lk x Γ (.inst C d)) (hd : Lk d Γ (.sd es)) (hl : Lk name es a)
    (hg : findIn K (.ref C) (Str.ofString "__getattribute__") = some (some (.builtin "object.__getattribute__"))) (hh : hasDictIn K C = true) (ha : findIn K (.ref C) name = some attr) (hn : noGet K attr = true) (hb : a.noBi = true) (q : Q a Γ) :
    HAt c (.ref x) name Γ Q E := fun s vo b S ho => by
  cases ho.ref'
  obtain ⟨sl, hox⟩ := S.or hx
  obtain ⟨kvs, hD, hk⟩ := S.or hd
  obtain ⟨v, hv, hr⟩ := sd_get hD hk hl
  obtain ⟨o, hod, hlk⟩ := lookIn_of (name := name) hD
  rw [hv] at hlk
  exact get_value (S.inK I) (od := some o) ⟨hox, rfl, rfl, hod⟩ hg (findObj_own hh ha hn hlk) (handed_of hr hb) (retT S hr q)
theorem stored_nodup {κ : Type} [DecidableEq κ] {kvs : List (κ × Value)} {k : κ} {v : Value} (hn : (kvs.map (·.1)).Nodup) : ((stored kvs k v).map (·.1)).Nodup := by
  unfold stored
  split
  · have : (kvs.map fun kv => if kv.1 = k then (kv.1, v) else kv).map (·.1) = kvs.map (·.1) := by
      rw [List.map_map]
      apply List.map_congr_left
      intro p _
      by_cases h : p.1 = k <;> simp [h]
    rw [this]; exact hn
  · rename_i h
    rw [List.map_append, List.nodup_append]
    refine ⟨hn, by simp, ?_⟩
    intro a ha b hb
    simp only [List.map_cons, List.map_nil, List.mem_singleton] at hb
    obtain ⟨p, hp, rfl⟩ := List.mem_map.mp ha
    intro e
    exact h (List.any_eq_true.mpr ⟨p, hp, by simp [e, hb]⟩)
/-- the entry of a name is put -/
theorem putName_pairs {prog : Program} {w : World} {h : Heap} {d : Addr} {kvs : List (Str × Value)} {name : Str} {t : Tok} {v : Value} (hd : h.DictOf (strKind prog w) d kvs) :
    ∃ o, h.get? d = some o ∧ aRefKeyMayBeTheName name (match o.data with | .dict es _ => es | _ => #[]) = false ∧ (∃ es ep, o.data = .dict es ep) ∧
      ((h.update d (Obj.putName name (PyData.keyHash w.params name) (.str name t) v)).DictOf (strKind prog w) d (stored kvs name v)) ∧ (∃ es ep, (Obj.putName name (PyData.keyHash w.params name) (.str name t) v o).data = .dict es ep ∧ es.size ≤ kvs.length + 1) := by
  obtain ⟨o, es, ep, ho, he, hdt, hk, hp, hn⟩ := hd
  have e1 : (fun x : DictEntry => x.key.isStr name) = fun x : DictEntry => (strKind prog w).is name x.key := by funext x; exact isStr_of
  have e2 : es.any (·.refKey) = false := by
    rw [← Array.any_toList, List.any_eq_false]
    intro en hen
    obtain ⟨k, hk', _⟩ := hk en (by simpa using hen)
    obtain ⟨t, ht⟩ := Value.isStrOf_shape hk'
    simp [DictEntry.refKey, ht]
  have hidx := hp.findIdx name
  refine ⟨o, ho, ?_, ⟨es, ep, hdt⟩, ?_, ?_⟩
  · rw [hdt]; dsimp only
    rw [aRefKeyMayBeTheName_at, e2, Bool.and_false]
  · obtain ⟨oc, od, oda, osl⟩ := o
    cases hdt
    rw [Obj.putName_eq]
    cases q : es.findIdx? (fun x : DictEntry => x.key.isStr name) with
    | some i =>
      have hnew : Obj.putNameByArray name (PyData.keyHash w.params name) (.str name t) v ⟨oc, od, .dict es ep, osl⟩ = ⟨oc, od, .dict (es.modify i fun e => { e with val := v }) ep, osl⟩ := by
        simp only [Obj.putNameByArray, q]
      have qi : es.toList.findIdx? (fun x : DictEntry => (strKind prog w).is name x.key) = some i := by rw [← e1, ← List.findIdx?_toArray]; exact q
      refine ⟨_, _, _, Heap.get?_update_self _ ho (by rw [hnew]; rfl), by rw [hnew]; exact he, by rw [hnew], hk.modify i v, ?_, ?_⟩
      · have hm := hp.modify hn qi v
        rw [Array.toList_modify]
        have hst : stored kvs name v = kvs.map fun kv => if kv.1 = name then (kv.1, v) else kv := by
          rw [hidx] at qi
          have : (kvs.any fun kv => decide (kv.1 = name)) = true := by
            have := List.findIdx?_eq_some_iff_getElem.mp qi
            exact List.any_eq_true.mpr ⟨kvs[i]'this.1, List.getElem_mem _, this.2.1⟩
          simp only [stored, this, if_true]
        rw [hst]; exact hm
      · have := stored_nodup (k := name) (v := v) hn
        exact this
    | none =>
      have hnew : Obj.putNameByArray name (PyData.keyHash w.params name) (.str name t) v ⟨oc, od, .dict es ep, osl⟩ = ⟨oc, od, .dict (es.push ⟨PyData.keyHash w.params name, .str name t, v⟩) (ep + 1), osl⟩ := by
        simp only [Obj.putNameByArray, q]
      have qi : es.toList.findIdx? (fun x : DictEntry => (strKind prog w).is name x.key) = none := by rw [← e1, ← List.findIdx?_toArray]; exact q
      have hkey : (strKind prog w).is name (.str name t) = true := strKind_is ..
      have hh : PyData.keyHash w.params name = (strKind prog w).hash name := rfl
      rw [hh] at hnew ⊢
      refine ⟨_, _, _, Heap.get?_update_self _ ho (by rw [hnew]; rfl), by rw [hnew]; exact he, by rw [hnew], hk.push hkey v, ?_, ?_⟩
      · rw [Array.toList_push]
        have hst : stored kvs name v = kvs ++ [(name, v)] := by
          rw [hidx] at qi
          have : (kvs.any fun kv => decide (kv.1 = name)) = false := by
            rw [List.findIdx?_eq_none_iff] at qi
            rw [List.any_eq_false]
            intro p hp; simpa using qi p hp
          simp only [stored, this, Bool.false_eq_true, if_false]
        rw [hst]; exact hp.append hkey _ _
      · exact stored_nodup (k := name) (v := v) hn
  · obtain ⟨oc, od, oda, osl⟩ := o
    cases hdt
    rw [Obj.putName_eq]
    have hl := hp.length
    simp only [Array.length_toList] at hl
    cases q : es.findIdx? (fun x : DictEntry => x.key.isStr name) with
    | some i => exact ⟨es.modify i fun e => { e with val := v }, ep, by simp only [Obj.putNameByArray, q], by rw [Array.size_modify]; lia⟩
    | none => exact ⟨es.push ⟨PyData.keyHash w.params name, .str name t, v⟩, ep + 1, by simp only [Obj.putNameByArray, q], by rw [Array.size_push]; lia⟩
/-- what a put of a name does to the entries -/
inductive Put (k : Str) (a : AV) : List (Str × AV) → List (Str × AV) → Prop where
  | up {es es' : List (Str × AV)} : Up k a es es' → Put k a es es'
  | new {es : List (Str × AV)} : k ∉ es.map (·.1) → Put k a es (es ++ [(k, a)])
theorem KVR.put {h : Heap} {k : Str} {a : AV} {v : Value} {kvs : List (Str × Value)} {es es' : List (Str × AV)} (hk : KVR h kvs es) (hv : VR h v a) (hn : (kvs.map (·.1)).Nodup) (P : Put k a es es') : KVR h (stored kvs k v) es' := by
  cases P with
  | up u => exact hk.up hv u hn
  | new n => exact hk.new hv n
theorem freed_of {o : Obj} {es : Array DictEntry} {ep : Nat} (h : o.data = .dict es ep) : o.isFreed = false := by
  obtain ⟨_, _, dd, _⟩ := o
  cases h; rfl
/-- the store in an object's own dict -/
theorem wput {M' : Model} {A : Around} {E' : Value → Shared → Prop} {R : Fin → Shared → Prop} {s : Shared} {d : Addr} {name : Str} {tk : Tok} {v : Value} {kvs : List (Str × Value)} (hd : s.heap.DictOf (strKind c.prog c.w) d kvs) (hz : kvs.length ≤ 99)
    (q : ∀ h', h'.DictOf (strKind c.prog c.w) d (stored kvs name v) → Heap.SameBut d s.heap h' → R (.done (.ret .none)) { s with heap := h', toks := s.toks + 1 }) : wpAny (model c.prog c.w) A (Builtin.ObjectAttr.storeInDict d (.str name tk) name v) R E' s := by
  obtain ⟨o, ho, hr, ⟨es, ep, hdt⟩, hnew, ⟨es', ep', hd', hl'⟩⟩ := putName_pairs (name := name) (t := s.toks) (v := v) hd
  have D' := Heap.get?_update_self (Obj.putName name (PyData.keyHash c.w.params name) (.str name s.toks) v) ho (freed_of hd')
  unfold Builtin.ObjectAttr.storeInDict nsSet
  refine wpAny_bind (wpAny_pure ?_)
  refine wpAny_bind ?_
  refine wpAny_bind ?_
  refine wpAny_bind (wpAny_askSetting (wpAny_pure ?_))
  refine wpAny_bind (wpAny_mkText ?_)
  refine wpAny_bind (wpAny_loadPart ho ?_)
  rw [hdt] at hr ⊢
  dsimp only at hr ⊢
  rw [hr]
  refine wpAny_updatePart ho ?_
  refine wpAny_bind (wpAny_lookBehind D' (by rw [hd']; exact pastItsLine_dict (by rw [sizeLine_eq]; lia)) ?_)
  exact wpAny_pure (q _ hnew (Heap.SameBut.update ..))
theorem HSAt_inst (I : In c K D) {x d C : Addr} {es es' : List (Str × AV)} {name : Str} {a : AV} {Γ' : Led} {QU : Led → Prop} (hx : Lk x Γ (.inst C d)) (hd : Lk d Γ (.sd es)) (hz : es.length ≤ 99) (P : Put name a es es') (U : Up d (.sd es') Γ Γ')
    (hs : findIn K (.ref C) (Str.ofString "__setattr__") = some (some (.builtin "object.__setattr__"))) (hp : plainOver K C = true) (ht : takerIn K C name = some none) (hh : hasDictIn K C = true) (q : QU Γ') : HSAt c (.ref x) name a Γ QU E := fun s vo vv S ho hv => by
  cases ho.ref'
  obtain ⟨sl, hox⟩ := S.or hx
  obtain ⟨kvs, hD, hk⟩ := S.or hd
  obtain ⟨od, hod, _⟩ := lookIn_of (name := name) hD
  have hn : (kvs.map (·.1)).Nodup := by obtain ⟨_, _, _, _, _, _, _, _, hn⟩ := hD; exact hn
  have X : K.In s.heap := S.inK I
  have X1 : K.In ({ s with toks := s.toks + 1 } : Shared).heap := X
  have II : InstAt s.heap x ⟨.ref C, some d, .plain, sl⟩ C (some od) := ⟨hox, rfl, rfl, hod⟩
  refine set_plain X II hs (osa_open (s := { s with toks := s.toks + 1 }) X II hp ht fun b => ?_)
  obtain ⟨cd, hc, hd'⟩ := any_some hh
  refine wpAny_bind (wpAny_pure (wpAny_bind (wpAny_bind (wpAny_loadPart hox (wpAny_bind ((looks_clsIn X1 hc).here ?_))))))
  rw [hd']
  refine wpAny_pure (a := some d) ?_
  refine wput (c := c) (M' := c.M) (s := { s with toks := s.toks + 1 }) hD (by rw [hk.length]; exact hz) fun h' h1 h2 => ?_
  have T := tups_but S U.key_mem h2
  exact ⟨Γ', (S.upd U h2 ⟨_, h1, (hk.put hv hn P).tups T⟩).tok _, .upd U h2, q⟩
end
section
variable {c : Cx} {K : Frag} {D : Nat} {E : EP} {ρ : Loc} {Γ : Led} {Q : AV → Led → Prop} {QB : Bool → Led → Prop} {QF : AF → Loc → Led → Prop}
/-- everything stands, more may stand behind -/
theorem SatC.grow {s : Shared} {h' : Heap} {t : Nat} (S : SatC c Γ s) (k : ∀ b o, s.heap.get? b = some o → h'.get? b = some o) : SatC c Γ { s with heap := h', toks := t } where
  base b o e := k b o (S.base b o e)
  gens := S.gens
  os := S.os
  led p hp := (S.led p hp).keeps (fun _ _ t => t.keeps k) fun _ e => k _ _ e
  new := S.new
  nod := S.nod
  frs := S.frs.of_keeps fun b o e _ => ⟨o, k b o e, rfl⟩
  off := S.off
theorem Pres.more {Γ : Led} {h h' : Heap} (k : ∀ b o, h.get? b = some o → h'.get? b = some o) : Pres [] Γ h Γ h' := ⟨fun a o e _ _ => ⟨o.slots, k a o e⟩, fun _ m => .inl m, fun _ m => nomatch m⟩
/-- a new object behind -/
theorem SatC.behind {s : Shared} {h' : Heap} {t : Nat} {o : AO} (S : SatC c Γ s) (k : ∀ b o, s.heap.get? b = some o → h'.get? b = some o) (hO : OR c.prog c.w h' s.heap.objs.size o) : SatC c ((s.heap.objs.size, o) :: Γ) { s with heap := h', toks := t } :=
  (S.grow k).take hO (S.base_none (Nat.le_refl _)) (fun m => Nat.lt_irrefl _ (S.below m)) fun e he q => Nat.lt_irrefl _ (S.fr_lt he q)
theorem Pres.behind {s : Shared} {h' : Heap} {o : AO} (k : ∀ b o, s.heap.get? b = some o → h'.get? b = some o) {ob : Obj} (hs : h'.get? s.heap.objs.size = some ob) : Pres [] Γ s.heap ((s.heap.objs.size, o) :: Γ) h' :=
  ⟨fun a ob e _ _ => ⟨ob.slots, k a ob e⟩, fun a m => (List.mem_cons.mp m).elim (fun e => .inr (e ▸ none_at s.heap)) .inl, fun _ m => nomatch m⟩

/-! attributes -/
noncomputable abbrev HE_Attribute_k1 (c : Cx) (Q : AV → Led → Prop) (E : EP) (attr : Str) := fun (o : AV) (Γ₁ : Led) => HAt c o attr Γ₁ Q E
theorem HE_Attribute {value : Expr} {attr : Str} {pos : Pos} (he : eval (.Attribute value attr pos) c.env = (do
      let o ← eval value c.env
      standAt pos.atName
      let r ← holding [o] (getAttr o attr true)
      letTemporaryGo value o r
      pure r)) (q : HE c value ρ Γ (HE_Attribute_k1 c Q E attr) E) : HE c (.Attribute value attr pos) ρ Γ Q E := fun s S =>
  Attribute_any_ (vuse S (.refl ..) (q s S) fun v a s₁ Γ₁ S₁ P₁ _ hv hq => wlift P₁ (hq s₁ v true S₁.C hv)) he
noncomputable abbrev HS_AssignAttr_k1 (ρ : Loc) (QF : AF → Loc → Led → Prop) := fun (Γ₃ : Led) => QF .next ρ Γ₃
noncomputable abbrev HS_AssignAttr_k2 (c : Cx) (ρ : Loc) (QF : AF → Loc → Led → Prop) (E : EP) (attr : Str) (a : AV) := fun (b : AV) (Γ₂ : Led) => HSAt c b attr a Γ₂ (HS_AssignAttr_k1 ρ QF) E
noncomputable abbrev HS_AssignAttr_k3 (c : Cx) (ρ : Loc) (QF : AF → Loc → Led → Prop) (E : EP) (o : Expr) (attr : Str) := fun (a : AV) (Γ₁ : Led) => HE c o ρ Γ₁ (HS_AssignAttr_k2 c ρ QF E attr a) E
theorem HS_AssignAttr {o value : Expr} {attr : Str} {p pos : Pos} (hs : swapsWith value (some (.Attribute o attr p)) pos.line c.env = pure false)
    (q : HE c value ρ Γ (HS_AssignAttr_k3 c ρ QF E o attr) E) : HS c (.Assign [.Attribute o attr p] value pos) ρ Γ QF E := fun s S =>
  plainObj_wpAny_Assign_Attribute (vuse S (.refl ..) (q s S) fun v a s₁ Γ₁ S₁ P₁ _ hv hq => vuse S₁ P₁ (hq s₁ S₁) fun w b s₂ Γ₂ S₂ P₂ T hw hq₂ =>
    wuse P₂ (hq₂ s₂ w v S₂.C hw (hv.tups T)) fun _ s₃ Γ₃ S₃ P₃ P' hq₃ => retN (s := s) (S₂.pres S₃ P') P₃ hq₃) hs

/-! methods -/
noncomputable def RM (Q : AV → List AV → Led → Prop) : Heap → Value × List Value → Led → Prop := fun h fx Γ => ∃ f as, VR h fx.1 f ∧ VRs h fx.2 as ∧ Q f as Γ
noncomputable def HM (c : Cx) (o : AV) (n : Str) (Γ : Led) (Q : AV → List AV → Led → Prop) (E : EP) : Prop := ∀ s vo pl, SatC c Γ s → VR s.heap vo o → Wp c (fIn c) [] Γ (getMethod vo n pl) (RM Q) E s
noncomputable abbrev HE_MCall_k1 (c : Cx) (Q : AV → Led → Prop) (E : EP) (f : AV) (first : List AV) := fun (as : List AV) (Γ₃ : Led) => KeepOk c f Γ₃ ∧ HC c f (first ++ as) Γ₃ Q E
noncomputable abbrev HE_MCall_k2 (c : Cx) (ρ : Loc) (Q : AV → Led → Prop) (E : EP) (e : Expr) (es : List Expr) := fun (f : AV) (first : List AV) (Γ₂ : Led) => HEs c (e :: es) ρ Γ₂ (HE_MCall_k1 c Q E f first) E
noncomputable abbrev HE_MCall_k3 (c : Cx) (ρ : Loc) (Q : AV → Led → Prop) (E : EP) (e : Expr) (es : List Expr) (name : Str) := fun (ov : AV) (Γ₁ : Led) => HM c ov name Γ₁ (HE_MCall_k2 c ρ Q E e es) E
theorem HE_MCall {o e : Expr} {es : List Expr} {name : Str} {apos pos : Pos} {pl : Sem Bool} (he : eval (.Call (.Attribute o name apos) (e :: es) [] pos) c.env = (do
        let ov ← eval o c.env
        standAt apos.atName
        let (f, first) ← holding [ov] (getMethod ov name pl)
        callWith pos f first (backTo pos (starEach (e :: es) c.env)) [])) (hst : starEach (e :: es) c.env = (false, eval e c.env) :: starEach es c.env) (hpl : (backTo pos (starEach es c.env)).any (·.1) = false)
    (q : HE c o ρ Γ (HE_MCall_k3 c ρ Q E e es name) E) : HE c (.Call (.Attribute o name apos) (e :: es) [] pos) ρ Γ Q E := fun s S => by
  refine MethodCall_ (pl := pl) (vuse S (.refl ..) (q s S) fun v a s₁ Γ₁ S₁ P₁ _ hv hq => ?_) he
  refine wuse P₁ (hq s₁ v pl S₁.C hv) fun fx s₂ Γ₂ S₂ P₂ P' ⟨f, as0, hf, has0, hq₂⟩ => ?_
  have S₂' := S₁.pres S₂ P'
  have key := hq₂ s₂ pos S₂'
  rw [hst] at key ⊢
  refine callWith_of (P := fun h => ∃ k, (k = Keeper.frame ∨ k = Keeper.machine ∨ k = Keeper.boundFrame) ∧ Looks c.M h (keeperOf fx.1) k) (by show ((false || (backTo pos (starEach es c.env)).any (·.1)) || false) = false; rw [hpl]; rfl) (fun _ h => h) (evalArgs_plain ?_)
  refine vsuse S₂' P₂ key fun vs as s₃ Γ₃ S₃ P₃ T₃ hvs hq₃ => ⟨hq₃.1 s₃ fx.1 S₃.C (hf.tups T₃), ?_⟩
  exact wcall P₃ (hq₃.2 s₃ fx.1 _ S₃.C (hf.tups T₃) ((has0.tups T₃).append hvs))
noncomputable abbrev HE_MCall0_k1 (c : Cx) (Q : AV → Led → Prop) (E : EP) := fun (f : AV) (first : List AV) (Γ₂ : Led) => KeepOk c f Γ₂ ∧ HC c f first Γ₂ Q E
noncomputable abbrev HE_MCall0_k2 (c : Cx) (Q : AV → Led → Prop) (E : EP) (name : Str) := fun (ov : AV) (Γ₁ : Led) => HM c ov name Γ₁ (HE_MCall0_k1 c Q E) E
theorem HE_MCall0 {o : Expr} {name : Str} {apos pos : Pos} {pl : Sem Bool} (he : eval (.Call (.Attribute o name apos) [] [] pos) c.env = (do
        let ov ← eval o c.env
        standAt apos.atName
        let (f, first) ← holding [ov] (getMethod ov name pl)
        callWith pos f first (backTo pos (starEach [] c.env)) []))
    (q : HE c o ρ Γ (HE_MCall0_k2 c Q E name) E) : HE c (.Call (.Attribute o name apos) [] [] pos) ρ Γ Q E := fun s S => by
  refine MethodCall_ (pl := pl) (vuse S (.refl ..) (q s S) fun v a s₁ Γ₁ S₁ P₁ _ hv hq => ?_) he
  refine wuse P₁ (hq s₁ v pl S₁.C hv) fun fx s₂ Γ₂ S₂ P₂ P' ⟨f, as0, hf, has0, hq₂⟩ => ?_
  refine callWith_of (P := fun h => ∃ k, (k = Keeper.frame ∨ k = Keeper.machine ∨ k = Keeper.boundFrame) ∧ Looks c.M h (keeperOf fx.1) k) rfl (fun _ h => h) (evalArgs_nil3 ⟨hq₂.1 s₂ fx.1 S₂ hf, ?_⟩)
  have := wcall P₂ (hq₂.2 s₂ fx.1 _ S₂ hf has0)
  simpa using this
theorem HM_fn (I : In c K D) {x d C f : Addr} {es : List (Str × AV)} {name : Str} {QM : AV → List AV → Led → Prop} (hx : Lk x Γ (.inst C d)) (hd : Lk d Γ (.sd es)) (hn : name ∉ es.map (·.1))
    (hg : findIn K (.ref C) (Str.ofString "__getattribute__") = some (some (.builtin "object.__getattribute__"))) (hg2 : findIn K (.ref C) (Str.ofString "__getattr__") = some none) (hf : findIn K (.ref C) name = some (some (.ref f)))
    (ht : typeIn K (.ref f) = some (.type "function")) (q : QM (.ref f) [.ref x] Γ) : HM c (.ref x) name Γ QM E := fun s vo pl S ho => by
  cases ho.ref'
  obtain ⟨sl, hox⟩ := S.or hx
  obtain ⟨kvs, hD, hk⟩ := S.or hd
  obtain ⟨o, hod, hlk⟩ := lookIn_of (name := name) hD
  rw [hk.none hn] at hlk
  have h3 : PG c [] Γ s.heap (RM QM) (.ref f, [.ref x]) s := ⟨Γ, S, .refl .., _, _, .ref _, .cons (.ref _) .nil, q⟩
  have h1 : InstAt s.heap x ⟨.ref C, some d, .plain, sl⟩ C (some o) := ⟨hox, rfl, rfl, hod⟩
  exact method_fn (S.inK I) h1 hg hg2 hf ht (by simp [shadowIn, hlk]) h3
theorem HM_list {l : Addr} {xs : List AV} {name : Str} {id : String} {QM : AV → List AV → Led → Prop} (hl : Lk l Γ (.list xs)) (slot : Slot "list" name id) (hty : typeOf (.builtin id) = pure (.type "method_descriptor")) (q : QM (.bi id) [.ref l] Γ) :
    HM c (.ref l) name Γ QM E := fun s vo pl S ho => by
  cases ho.ref'
  obtain ⟨vs, n, hL, _⟩ := S.or hl
  have h1 : s.TypeIs (.ref l) "list" := ⟨_, hL, rfl⟩
  have h2 : ∀ a, Value.ref l = .ref a → ∃ o, s.heap.get? a = some o ∧ o.dict = none := fun a e => by cases e; exact ⟨_, hL, rfl⟩
  have h3 : PG c [] Γ s.heap (RM QM) (.builtin id, [.ref l]) s := ⟨Γ, S, .refl .., _, _, .bi _, .cons (.ref _) .nil, q⟩
  exact getMethod_builtin h1 PySem.F.plainAttrs_list slot hty h2 h3
theorem HM_dict {d : Addr} {es : List (Str × AV)} {name : Str} {id : String} {QM : AV → List AV → Led → Prop} (hl : Lk d Γ (.sd es)) (slot : Slot "dict" name id) (hty : typeOf (.builtin id) = pure (.type "method_descriptor")) (q : QM (.bi id) [.ref d] Γ) :
    HM c (.ref d) name Γ QM E := fun s vo pl S ho => by
  cases ho.ref'
  obtain ⟨kvs, ⟨o, e1, e2, hL, he, _⟩, _⟩ := S.or hl
  have h1 : s.TypeIs (.ref d) "dict" := ⟨_, hL, he.1⟩
  have h2 : ∀ a, Value.ref d = .ref a → ∃ o, s.heap.get? a = some o ∧ o.dict = none := fun a e => by cases e; exact ⟨_, hL, he.2.1⟩
  have h3 : PG c [] Γ s.heap (RM QM) (.builtin id, [.ref d]) s := ⟨Γ, S, .refl .., _, _, .bi _, .cons (.ref _) .nil, q⟩
  exact getMethod_builtin h1 PySem.F.plainAttrs_dict slot hty h2 h3
theorem HM_join {x : Str} {QM : AV → List AV → Led → Prop} (q : QM (.bi "str.join") [.str x] Γ) : HM c (.str x) (Str.ofString "join") Γ QM E := fun s vo pl S ho => by
  obtain ⟨t, rfl⟩ := ho.str'; have h3 : PG c [] Γ s.heap (RM QM) (.builtin "str.join", [.str x t]) s := ⟨Γ, S, .refl .., _, _, .bi _, .cons (.str ..) .nil, q⟩; with_reducible exact GM.join h3
theorem HM_rfind {x : Str} {QM : AV → List AV → Led → Prop} (q : QM (.bi "str.rfind") [.str x] Γ) : HM c (.str x) (Str.ofString "rfind") Γ QM E := fun s vo pl S ho => by
  obtain ⟨t, rfl⟩ := ho.str'; have h3 : PG c [] Γ s.heap (RM QM) (.builtin "str.rfind", [.str x t]) s := ⟨Γ, S, .refl .., _, _, .bi _, .cons (.str ..) .nil, q⟩; with_reducible exact GM.rfind h3
theorem HM_strip {x : Str} {QM : AV → List AV → Led → Prop} (q : QM (.bi "str.strip") [.str x] Γ) : HM c (.str x) (Str.ofString "strip") Γ QM E := fun s vo pl S ho => by
  obtain ⟨t, rfl⟩ := ho.str'; have h3 : PG c [] Γ s.heap (RM QM) (.builtin "str.strip", [.str x t]) s := ⟨Γ, S, .refl .., _, _, .bi _, .cons (.str ..) .nil, q⟩; with_reducible exact GM.strip h3

theorem VRs.take {h : Heap} : ∀ {vs : List Value} {as : List AV}, VRs h vs as → ∀ k, VRs h (vs.take k) (as.take k)
  | [], _, x, k => by cases x; rw [List.take_nil, List.take_nil]; exact .nil
  | v :: vs, _, x, k => by
    cases x with | cons hv hs => cases k with
    | zero => exact .nil
    | succ k => exact .cons hv (hs.take k)
/-! lists -/
theorem IsL.same {h : Heap} {l : Addr} {f : Array Value → Array Value} : Heap.SameBut l h (h.update l (Obj.mapSeq f)) := Heap.SameBut.update ..
theorem HC_append {l : Addr} {xs : List AV} {x : AV} {Γ' : Led} (hl : Lk l Γ (.list xs)) (hz : xs.length ≤ 9999) (U : Up l (.list (xs ++ [x])) Γ Γ') (q : Q .none Γ') : HC c (.bi "list.append") [.ref l, x] Γ Q E := fun s vf vs S hf hvs => by
  cases hf; obtain ⟨v, u, rfl, hv, hu⟩ := hvs.two; cases hv.ref'
  obtain ⟨ys, n, hL, hys⟩ := S.or hl
  have hs := IsL.same (h := s.heap) (l := l) (f := fun xs => xs.push u)
  have T := tups_but S U.key_mem hs
  have hz' : ys.toArray.size ≤ sizeLine := by rw [List.size_toArray, hys.length, sizeLine_eq]; lia
  refine call_meets F.slot_list_append ⟨_, hL, rfl⟩ F.entry_list_append (F.args_list_append_2 _ _) (list_append l ys.toArray n u hz') ⟨hL, ?_⟩
  refine ⟨Γ', (S.upd U hs ⟨ys ++ [u], _, by have := hL.update (fun xs => xs.push u); simpa using this, (hys.append (.cons hu .nil)).tups T⟩).tok _, .upd U hs, _, .none, q⟩
theorem HC_pop {l : Addr} {xs : List AV} {x : AV} {Γ' : Led} (hl : Lk l Γ (.list (xs ++ [x]))) (hz : xs.length ≤ 9999) (U : Up l (.list xs) Γ Γ') (q : Q x Γ') : HC c (.bi "list.pop") [.ref l] Γ Q E := fun s vf vs S hf hvs => by
  cases hf; obtain ⟨v, rfl, hv⟩ := hvs.one; cases hv.ref'
  obtain ⟨ys, n, hL, hys⟩ := S.or hl
  have hs := IsL.same (h := s.heap) (l := l) (f := fun xs => xs.eraseIdxIfInBounds (ys.toArray.size - 1))
  have T := tups_but S U.key_mem hs
  have hlen : ys.length = xs.length + 1 := by rw [hys.length]; simp
  obtain ⟨y, hy, hr⟩ := hys.get (i := xs.length) (a := x) (by simp)
  have hz' : ys.toArray.size ≤ sizeLine := by rw [List.size_toArray, hlen, sizeLine_eq]; lia
  have hy' : ys.toArray[ys.toArray.size - 1]? = some y := by simpa [hlen] using hy
  refine call_meets F.slot_list_pop ⟨_, hL, rfl⟩ F.entry_list_pop (F.args_list_pop_1 _) (MeetsSeq.list_pop_last l ys.toArray n y hy' hz') ⟨hL, ?_⟩
  have hrel : VRs s.heap (ys.take xs.length) xs := by
    have := hys.take xs.length
    simpa using this
  have he : ys.toArray.eraseIdxIfInBounds (ys.toArray.size - 1) = (ys.take xs.length).toArray := by
    apply Array.ext'
    rw [Array.toList_eraseIdxIfInBounds]
    simp only [List.size_toArray, hlen, Nat.add_sub_cancel]
    rw [List.eraseIdx_eq_take_drop_succ]
    simp [hlen]
  refine ⟨Γ', (S.upd U hs ⟨ys.take xs.length, _, by have := hL.update (fun xs => xs.eraseIdxIfInBounds (ys.toArray.size - 1)); rw [he] at this; exact this, hrel.tups T⟩), .upd U hs, _, hr.tups T, q⟩
theorem HBin_lists {a b : Addr} {xs ys : List AV} (ha : Lk a Γ (.list xs)) (hb : Lk b Γ (.list ys)) (hz : xs.length + ys.length ≤ 9999) (q : ∀ r, Q (.ref r) ((r, .list (xs ++ ys)) :: Γ)) : HBin c .Add (.ref a) (.ref b) Γ Q E := fun s va vb S h1 h2 => by
  cases h1.ref'; cases h2.ref'
  obtain ⟨us, n, hL, hus⟩ := S.or ha
  obtain ⟨ws, m, hM, hws⟩ := S.or hb
  refine P.add_list hL hM ⟨_, S.pushed (ao := .list (xs ++ ys)) ⟨us ++ ws, 0, ?_, (hus.append hws).tups (tups_push _)⟩, Pres.pushed .., _, .ref _, q _⟩ (by simp only [List.size_toArray, hus.length, hws.length, sizeLine_eq]; lia)
  have := Heap.get?_push_size s.heap (o := { cls := .type "list", data := .seq (us.toArray ++ ws.toArray) }) rfl
  simpa using this
theorem HC_list {a : Addr} {xs : List AV} (ha : Lk a Γ (.list xs)) (hz : xs.length ≤ 9999) (q : ∀ r, Q (.ref r) ((r, .list xs) :: Γ)) : HC c (.ty "list") [.ref a] Γ Q E := fun s vf vs S hf hvs => by
  cases hf; obtain ⟨v, rfl, hv⟩ := hvs.one; cases hv.ref'
  obtain ⟨us, n, hL, hus⟩ := S.or ha
  refine call_list_seq a (.inl rfl) hL rfl rfl (fun h' c' k hD => ?_) (by simp only [List.size_toArray, hus.length, sizeLine_eq]; lia)
  have := S.behind (t := s.toks) (o := .list xs) k ⟨us, c', hD, hus.tups fun _ _ t => t.keeps k⟩
  exact ⟨_, this, Pres.behind k hD, _, .ref _, q _⟩
end
section
variable {c : Cx} {K : Frag} {D : Nat} {E : EP} {ρ : Loc} {Γ : Led} {Q : AV → Led → Prop} {QB : Bool → Led → Prop} {QF : AF → Loc → Led → Prop}
/-! texts -/
noncomputable def strsOf (l : List Str) : List AV := l.map .str
theorem VRs.strs {h : Heap} {l : List Str} : ∀ {vs : List Value}, VRs h vs (strsOf l) → ∃ ts : List (Str × Tok), vs = strValues ts ∧ ts.map (·.1) = l := by
  induction l with
  | nil => exact fun x => by cases x; exact ⟨[], rfl, rfl⟩
  | cons x l ih =>
    intro vs y
    cases y with
    | cons hv hs =>
      obtain ⟨ts, h1, h2⟩ := ih hs
      obtain ⟨t, rfl⟩ := VR.str' hv
      exact ⟨(x, t) :: ts, by rw [h1]; rfl, by rw [List.map_cons, h2]⟩
theorem HC_join {sep : Str} {a : Addr} {l : List Str} (ha : Lk a Γ (.list (strsOf l))) (hok : JoinOk sep l = true) (q : Q (.str (Txt.join sep l)) Γ) : HC c (.bi "str.join") [.str sep, .ref a] Γ Q E := fun s vf vs S hf hvs => by
  cases hf; obtain ⟨v, u, rfl, hv, hu⟩ := hvs.two; obtain ⟨t, rfl⟩ := hv.str'; cases hu.ref'
  obtain ⟨ys, n, hL, hys⟩ := S.or ha
  obtain ⟨ts, rfl, hts⟩ := hys.strs
  with_reducible refine SC.join hL.isList hts hok ?_
  exact fun t' k => retT S (.str ..) q
theorem HC_rfind {x y : Str} (q : Q (.int (Txt.rfind x y)) Γ) : HC c (.bi "str.rfind") [.str x, .str y] Γ Q E := fun s vf vs S hf hvs => by
  cases hf; obtain ⟨v, u, rfl, hv, hu⟩ := hvs.two; obtain ⟨t, rfl⟩ := hv.str'; obtain ⟨t', rfl⟩ := hu.str'
  with_reducible exact SC.rfind (retT S (.int ..) q)
theorem HC_strip {x y : Str} (hz : x.length ≤ 16777216) (q : Q (.str (Txt.stripChars x y)) Γ) : HC c (.bi "str.strip") [.str x, .str y] Γ Q E := fun s vf vs S hf hvs => by
  cases hf; obtain ⟨v, u, rfl, hv, hu⟩ := hvs.two; obtain ⟨t, rfl⟩ := hv.str'; obtain ⟨t', rfl⟩ := hu.str'
  have hz' : x.length ≤ sizeLine := by rw [sizeLine_eq]; lia
  with_reducible refine SC.stripChars (hsz := hz') fun t' k => ?_
  exact retT S (.str ..) q
theorem HBin_smul {x : Str} {n : Int} (hok : MulOk x n) (q : Q (.str (Txt.mul x n)) Γ) : HBin c .Mult (.str x) (.int n) Γ Q E := fun s va vb S h1 h2 => by
  obtain ⟨t, rfl⟩ := h1.str'; obtain ⟨u, rfl⟩ := h2.int'
  with_reducible refine SB.mul hok fun t' k => ?_
  exact retT S (.str ..) q
theorem HC_str_int {i : Int} (hi : i.natAbs < 10 ^ 4300) (q : Q (.str (Str.ofString (toString i))) Γ) (hnd : ∀ s, SatC c Γ s → s.heap.NoDigits) (hh : c.A.handled = none) : HC c (.ty "str") [.int i] Γ Q E := fun s vf vs S hf hvs => by
  cases hf; obtain ⟨v, rfl, hv⟩ := hvs.one; obtain ⟨t, rfl⟩ := hv.int'
  with_reducible refine str_of_int_or hh (hnd s S) (fun _ => ?_) (fun h => absurd hi (Nat.not_lt.mpr h))
  exact retT S (.str ..) q
theorem HC_abs {i : Int} (q : Q (.int (if i < 0 then -i else i)) Γ) : HC c (.bi "abs") [.int i] Γ Q E := fun s vf vs S hf hvs => by
  cases hf; obtain ⟨v, rfl, hv⟩ := hvs.one; obtain ⟨t, rfl⟩ := hv.int'
  with_reducible refine call_abs_int fun u tk => ?_
  exact retT S (.int ..) q
theorem HC_chr {i : Int} (hi : 0 ≤ i) (hi' : i ≤ 1114111) (q : Q (.str ⟨#[i.toNat]⟩) Γ) : HC c (.bi "chr") [.int i] Γ Q E := fun s vf vs S hf hvs => by
  cases hf; obtain ⟨v, rfl, hv⟩ := hvs.one; obtain ⟨t, rfl⟩ := hv.int'
  have hb : (decide (i < 0) || decide (i > 1114111)) = false := by simp; lia
  with_reducible refine P.chr_of_int hb ?_
  exact retT S (.str ..) q
/-! kinds -/
theorem HC_isi_int_str {i : Int} (q : Q (.bool false) Γ) : HC c (.bi "isinstance") [.int i, .ty "str"] Γ Q E := fun s vf vs S hf hvs => by
  cases hf; obtain ⟨v, u, rfl, hv, hu⟩ := hvs.two; obtain ⟨t, rfl⟩ := hv.int'; cases hu
  with_reducible refine IsiPair.int_str ?_
  exact retT S (.bool _) q
theorem HC_isi_int_tuple {i : Int} (q : Q (.bool false) Γ) : HC c (.bi "isinstance") [.int i, .ty "tuple"] Γ Q E := fun s vf vs S hf hvs => by
  cases hf; obtain ⟨v, u, rfl, hv, hu⟩ := hvs.two; obtain ⟨t, rfl⟩ := hv.int'; cases hu
  with_reducible refine IsiPair.int_tuple ?_
  exact retT S (.bool _) q
theorem HC_isi_str_str {i : Str} (q : Q (.bool true) Γ) : HC c (.bi "isinstance") [.str i, .ty "str"] Γ Q E := fun s vf vs S hf hvs => by
  cases hf; obtain ⟨v, u, rfl, hv, hu⟩ := hvs.two; obtain ⟨t, rfl⟩ := hv.str'; cases hu
  with_reducible refine IsiPair.str_str ?_
  exact ret_ S (.bool _) q
theorem HC_isi_tup_tup {l : List AV} (q : Q (.bool true) Γ) : HC c (.bi "isinstance") [.tup l, .ty "tuple"] Γ Q E := fun s vf vs S hf hvs => by
  cases hf; obtain ⟨v, u, rfl, hv, hu⟩ := hvs.two; obtain ⟨a, vs, rfl, ht, _⟩ := hv.tup'; cases hu
  obtain ⟨o, ho, hc, _⟩ := ht
  have hT : s.TypeIs (.ref a) "tuple" := ⟨o, ho, hc⟩
  with_reducible refine call_isinstance (isinstance_true (Tx := "tuple") F.isi_meta_tuple F.sub_tuple_tuple) ⟨hT, ?_⟩
  exact ret_ S (.bool _) q
/-! is None -/
noncomputable def AV.isNone : AV → Bool | .none => true | _ => false
theorem VR.isNone {h : Heap} {v : Value} {a : AV} (x : VR h v a) : (v == .none) = a.isNone := by cases x <;> rfl
theorem HCmp_isNone {a : AV} (q : Q (.bool a.isNone) Γ) : HCmp c .Is a .none Γ Q E := fun s va vb S h1 h2 => by
  cases h2.none'
  with_reducible refine is_none ?_
  rw [h1.isNone]; exact ret_ S (.bool _) q
theorem HCmp_isNotNone {a : AV} (q : Q (.bool !a.isNone) Γ) : HCmp c .IsNot a .none Γ Q E := fun s va vb S h1 h2 => by
  cases h2.none'
  with_reducible refine isNot_none ?_
  rw [h1.isNone]; exact ret_ S (.bool _) q
/-! within a tuple of texts -/
theorem strEqAt {A : Around} {s : Shared} {x y : Str} {t u : Tok} : SeqAt.EqAt A s (.str y t) (.str x u) (y == x) := (PyProof.Rows.eqGives_str y x t u).at A s
theorem strs_mem {h : Heap} {vs : List Value} {l : List Str} (hv : VRs h vs (strsOf l)) {x : Str} {y : Value} (hy : y ∈ vs) : ∃ z t, y = .str z t ∧ z ∈ l := by
  obtain ⟨ts, rfl, rfl⟩ := hv.strs
  obtain ⟨p, hp, rfl⟩ := List.mem_map.mp hy
  exact ⟨p.1, p.2, rfl, List.mem_map_of_mem hp⟩
noncomputable def isText (x : Str) : Value → Bool | .str y _ => y == x | _ => false
theorem any_text {x : Str} : ∀ (ts : List (Str × Tok)), (strValues ts).any (isText x) = (ts.map (·.1)).any (· == x)
  | [] => rfl
  | p :: r => by
    have := any_text (x := x) r
    simp only [strValues, List.map_cons, List.any_cons] at this ⊢
    rw [this]; rfl
theorem HCmp_in_strs {x : Str} {l : List Str} {b : Bool} (hb : (l.any (· == x)) = b) (q : Q (.bool b) Γ) : HCmp c .In (.str x) (.tup (strsOf l)) Γ Q E := fun s va vb S h1 h2 => by
  obtain ⟨t, rfl⟩ := h1.str'; obtain ⟨a, vs, rfl, ht, hvs⟩ := h2.tup'
  refine SeqAt.in_tupleAt (isText x) ht (fun y hy => ?_) ?_
  · obtain ⟨z, u, rfl, _⟩ := strs_mem (x := x) hvs (by simpa using hy)
    exact strEqAt
  · obtain ⟨ts, rfl, rfl⟩ := hvs.strs
    have : ((strValues ts).toArray.any (isText x)) = b := by rw [← hb, ← any_text, ← Array.any_toList]
    rw [this]; exact ret_ S (.bool _) q
theorem HCmp_notIn_strs {x : Str} {l : List Str} {b : Bool} (hb : (l.any (· == x)) = b) (q : Q (.bool !b) Γ) : HCmp c .NotIn (.str x) (.tup (strsOf l)) Γ Q E := fun s va vb S h1 h2 => by
  obtain ⟨t, rfl⟩ := h1.str'; obtain ⟨a, vs, rfl, ht, hvs⟩ := h2.tup'
  refine SeqAt.notIn_tupleAt (isText x) ht (fun y hy => ?_) ?_
  · obtain ⟨z, u, rfl, _⟩ := strs_mem (x := x) hvs (by simpa using hy)
    exact strEqAt
  · obtain ⟨ts, rfl, rfl⟩ := hvs.strs
    have : ((strValues ts).toArray.any (isText x)) = b := by rw [← hb, ← any_text, ← Array.any_toList]
    rw [this]; exact ret_ S (.bool _) q
/-! pieces of texts -/
theorem HSub_str {value slice : Expr} {x : Str} {i : Int} (hs : ∀ t u, subscripted slice false (.str x t) (.int i u) = operate [.str x t, .int i u] (getItem (.str x t) (.int i u))) (ht : ∀ t r, letTemporaryGo value (.str x t) r = pure ())
    (hf : fitsSsize i = true) (h0 : -x.length ≤ i) (h1 : i < x.length) (q : Q (.str (Txt.item x i)) Γ) : HSub c value slice (.str x) (.int i) Γ Q E := fun s vo vi S ho hi => by
  obtain ⟨t, rfl⟩ := ho.str'; obtain ⟨u, rfl⟩ := hi.int'
  with_reducible refine item_str hf h0 h1 (fun _ => ?_) (hs t u) (ht t)
  exact retT S (.str ..) q
end
section
variable {c : Cx} {K : Frag} {D : Nat} {E : EP} {ρ : Loc} {Γ : Led} {Q : AV → Led → Prop} {QB : Bool → Led → Prop} {QF : AF → Loc → Led → Prop}
/-! slices -/
noncomputable def PR (v : Value) (a : Option Int) : Prop := match a with | none => v = .none | some i => ∃ t, v = .int i t
noncomputable def HSl (c : Cx) (value slice : Expr) (o : AV) (lo hi : Option Int) (Γ : Led) (Q : AV → Led → Prop) (E : EP) : Prop := ∀ s vo l u, SatC c Γ s → VR s.heap vo o → PR l lo → PR u hi →
  wpAny c.M c.A (subscriptTail value slice vo (.ref s.heap.objs.size)) (PG c [] Γ s.heap (RV Q)) (PX c (fIn c) [] Γ s.heap E) { s with heap := s.heap.push { cls := .type "slice", data := .fields #[l, u, .none] } }
noncomputable abbrev HE_SubFrom_k1 (c : Cx) (Q : AV → Led → Prop) (E : EP) (value : Expr) (lo : Expr) (p : Pos) (o : AV) := fun (l : AV) (Γ₂ : Led) => ∃ i, l = .int i ∧ HSl c value (.Slice (some lo) none none p) o (some i) none Γ₂ Q E
noncomputable abbrev HE_SubFrom_k2 (c : Cx) (ρ : Loc) (Q : AV → Led → Prop) (E : EP) (value : Expr) (lo : Expr) (p : Pos) := fun (o : AV) (Γ₁ : Led) => HE c lo ρ Γ₁ (HE_SubFrom_k1 c Q E value lo p o) E
theorem HE_SubFrom {value lo : Expr} {p pos : Pos} (q : HE c value ρ Γ (HE_SubFrom_k2 c ρ Q E value lo p) E) :
    HE c (.Subscript value (.Slice (some lo) none none p) pos) ρ Γ Q E := fun s S =>
  Subscript_ (vuse S (.refl ..) (q s S) fun v a s₁ Γ₁ S₁ P₁ _ hv hq => wpAny_Slice (vuse S₁ P₁ (hq s₁ S₁) fun w b s₂ Γ₂ S₂ P₂ T hw hq₂ => wpAny_pure (wpAny_pure (by
    obtain ⟨i, rfl, hq₃⟩ := hq₂
    exact wpAny_mono (hq₃ s₂ v w .none S₂.C (hv.tups T) hw.int' rfl) (fun _ _ => PG.lift P₂) fun _ _ => PX.lift P₂))))
noncomputable abbrev HE_SubUpto_k1 (c : Cx) (Q : AV → Led → Prop) (E : EP) (value : Expr) (hi : Expr) (p : Pos) (o : AV) := fun (l : AV) (Γ₂ : Led) => ∃ i, l = .int i ∧ HSl c value (.Slice none (some hi) none p) o none (some i) Γ₂ Q E
noncomputable abbrev HE_SubUpto_k2 (c : Cx) (ρ : Loc) (Q : AV → Led → Prop) (E : EP) (value : Expr) (hi : Expr) (p : Pos) := fun (o : AV) (Γ₁ : Led) => HE c hi ρ Γ₁ (HE_SubUpto_k1 c Q E value hi p o) E
theorem HE_SubUpto {value hi : Expr} {p pos : Pos} (q : HE c value ρ Γ (HE_SubUpto_k2 c ρ Q E value hi p) E) :
    HE c (.Subscript value (.Slice none (some hi) none p) pos) ρ Γ Q E := fun s S =>
  Subscript_ (vuse S (.refl ..) (q s S) fun v a s₁ Γ₁ S₁ P₁ _ hv hq => wpAny_Slice (wpAny_pure (vuse S₁ P₁ (hq s₁ S₁) fun w b s₂ Γ₂ S₂ P₂ T hw hq₂ => wpAny_pure (by
    obtain ⟨i, rfl, hq₃⟩ := hq₂
    exact wpAny_mono (hq₃ s₂ v .none w S₂.C (hv.tups T) rfl hw.int') (fun _ _ => PG.lift P₂) fun _ _ => PX.lift P₂))))
noncomputable abbrev HE_SubBoth_k1 (c : Cx) (Q : AV → Led → Prop) (E : EP) (value : Expr) (lo : Expr) (hi : Expr) (p : Pos) (o : AV) (a : AV) := fun (b : AV) (Γ₃ : Led) => ∃ i j, a = .int i ∧ b = .int j ∧ HSl c value (.Slice (some lo) (some hi) none p) o (some i) (some j) Γ₃ Q E
noncomputable abbrev HE_SubBoth_k2 (c : Cx) (ρ : Loc) (Q : AV → Led → Prop) (E : EP) (value : Expr) (lo : Expr) (hi : Expr) (p : Pos) (o : AV) := fun (a : AV) (Γ₂ : Led) => HE c hi ρ Γ₂ (HE_SubBoth_k1 c Q E value lo hi p o a) E
noncomputable abbrev HE_SubBoth_k3 (c : Cx) (ρ : Loc) (Q : AV → Led → Prop) (E : EP) (value : Expr) (lo : Expr) (hi : Expr) (p : Pos) := fun (o : AV) (Γ₁ : Led) => HE c lo ρ Γ₁ (HE_SubBoth_k2 c ρ Q E value lo hi p o) E
theorem HE_SubBoth {value lo hi : Expr} {p pos : Pos} (q : HE c value ρ Γ (HE_SubBoth_k3 c ρ Q E value lo hi p) E) :
    HE c (.Subscript value (.Slice (some lo) (some hi) none p) pos) ρ Γ Q E := fun s S =>
  Subscript_ (vuse S (.refl ..) (q s S) fun v a s₁ Γ₁ S₁ P₁ _ hv hq => wpAny_Slice (vuse S₁ P₁ (hq s₁ S₁) fun w b s₂ Γ₂ S₂ P₂ T hw hq₂ => vuse S₂ P₂ (hq₂ s₂ S₂) fun u d s₃ Γ₃ S₃ P₃ T₃ hu hq₃ => wpAny_pure (by
    obtain ⟨i, j, rfl, rfl, hq₄⟩ := hq₃
    exact wpAny_mono (hq₄ s₃ v w u S₃.C ((hv.tups T).tups T₃) (hw.tups T₃).int' hu.int') (fun _ _ => PG.lift P₃) fun _ _ => PX.lift P₃)))
theorem PR.part {v : Value} {a : Option Int} (h : PR v a) : ∃ p : Option (Int × Tok), v = partValue p ∧ p.map (·.1) = a := by
  cases a with
  | none => exact ⟨none, h, rfl⟩
  | some i => obtain ⟨t, rfl⟩ := h; exact ⟨some (i, t), rfl, rfl⟩
theorem PR.isPart {v : Value} {a : Option Int} (h : PR v a) : IsPart v a := by
  cases a with
  | none => cases h; exact .none
  | some i => obtain ⟨t, rfl⟩ := h; exact .int ..
theorem HSl_str {value slice : Expr} {x : Str} {lo hi : Option Int} (hz : x.length ≤ 16777216) (hs : ∀ t a, subscripted slice false (.str x t) (.ref a) = operate [.ref a, .str x t] (getItem (.str x t) (.ref a))) (ht : ∀ t r, letTemporaryGo value (.str x t) r = pure ())
    (q : Q (.str (Txt.slice x lo hi)) Γ) : HSl c value slice (.str x) lo hi Γ Q E := fun s vo l u S ho hl hu => by
  obtain ⟨t, rfl⟩ := ho.str'
  obtain ⟨pl, rfl, rfl⟩ := hl.part
  obtain ⟨pu, rfl, rfl⟩ := hu.part
  have S' := S.push { cls := .type "slice", data := .fields #[partValue pl, partValue pu, .none] }
  have P' : Pres [] Γ s.heap Γ (s.heap.push { cls := .type "slice", data := .fields #[partValue pl, partValue pu, .none] }) := Pres.push ..
  unfold subscriptTail
  refine wpAny_bind (wpAny_pure ?_)
  rw [hs]
  refine wpAny_bind ?_
  have key : wpAny (model c.prog c.w) c.A (getItem (.str x t) (.ref s.heap.objs.size)) (fun v s' => wpAny (model c.prog c.w) c.A (do letTemporaryGo value (.str x t) v; pure v) (PG c [] Γ s.heap (RV Q)) (PX c (fIn c) [] Γ s.heap E) s') (PX c (fIn c) [] Γ s.heap E)
      { s with heap := s.heap.push { cls := .type "slice", data := .fields #[partValue pl, partValue pu, .none] } } := by
    refine wpAny_getItem_str_slice (l := pl) (u := pu) (st := none) ⟨_, Heap.get?_push_size _ rfl, rfl, rfl⟩ rfl ?_
    have fin : ∀ (v : Value) (k : Nat), VR (s.heap.push { cls := .type "slice", data := .fields #[partValue pl, partValue pu, .none] }) v (.str (Txt.slice x (pl.map (·.1)) (pu.map (·.1)))) →
        wpAny (model c.prog c.w) c.A (do letTemporaryGo value (.str x t) v; pure v) (PG c [] Γ s.heap (RV Q)) (PX c (fIn c) [] Γ s.heap E) { s with heap := s.heap.push { cls := .type "slice", data := .fields #[partValue pl, partValue pu, .none] }, toks := k } := fun v k hv => by
      rw [ht]
      exact wpAny_bind (wpAny_pure (wpAny_pure ⟨Γ, S'.tok k, P', _, hv, q⟩))
    unfold sliceMade
    unfold Txt.slice at fin
    split
    · rename_i h
      have h' : ((1 : Int) == 1 && (Builtin.Str.strSliceIndices (pl.map (·.1)) (pu.map (·.1)) 1 x.length).length == x.length) = true := h
      rw [if_pos h'] at fin
      exact fin _ _ (.str ..)
    · rename_i h
      have h' : ¬ ((1 : Int) == 1 && (Builtin.Str.strSliceIndices (pl.map (·.1)) (pu.map (·.1)) 1 x.length).length == x.length) = true := h
      rw [if_neg h'] at fin
      have hlen : ((Builtin.Str.strSliceIndices (pl.map (·.1)) (pu.map (·.1)) 1 x.length).filterMap (x.cps[·]?)).toArray.size ≤ sizeLine := by
        rw [List.size_toArray]
        exact Nat.le_trans (List.length_filterMap_le ..) (Nat.le_trans (sliceIndices_le _ _ _) (by rw [sizeLine_eq]; lia))
      exact ⟨hlen, fin _ _ (.str ..)⟩
  exact wpAny_operating key
theorem VRs.drop {h : Heap} : ∀ {vs : List Value} {as : List AV}, VRs h vs as → ∀ k, VRs h (vs.drop k) (as.drop k)
  | [], _, x, k => by cases x; rw [List.drop_nil, List.drop_nil]; exact .nil
  | v :: vs, _, x, k => by
    cases x with | cons hv hs => cases k with
    | zero => exact .cons hv hs
    | succ k => exact hs.drop k
theorem sl_list {value slice : Expr} {a : Addr} {xs ys : List AV} {lo hi : Option Int} (hz : xs.length ≤ 9999) (hl : Lk a Γ (.list xs)) (hs : ∀ b, subscripted slice false (.ref a) (.ref b) = operate [.ref b, .ref a] (getItem (.ref a) (.ref b)))
    (hy : ∀ (h : Heap) (vs : List Value), VRs h vs xs → ∃ ws : List Value, slicePick vs.toArray lo hi none = ws.toArray ∧ VRs h ws ys) (q : ∀ r, Q (.ref r) ((r, .list ys) :: Γ)) : HSl c value slice (.ref a) lo hi Γ Q E := fun s vo l u S ho hlo hhi => by
  cases ho.ref'
  have S' := S.push { cls := .type "slice", data := .fields #[l, u, .none] }
  have P' : Pres [] Γ s.heap Γ (s.heap.push { cls := .type "slice", data := .fields #[l, u, .none] }) := Pres.push ..
  obtain ⟨vs, n, hL, hvs⟩ := S'.or hl
  obtain ⟨ws, hw, hws⟩ := hy _ vs hvs
  have hL' : Heap.IsList (s.heap.push { cls := .type "slice", data := .fields #[l, u, .none] }) a vs.toArray := hL.isList
  refine tail_any (T := "list") ⟨_, hL, rfl⟩ slot_list_getitem.lookup ?_ (hs _)
  refine wpAny_getItem_list_slice (st := none) hL' (Heap.IsSliceOf.new ..) hlo.isPart hhi.isPart .none (by intro h; cases h) ?_ (by rw [List.size_toArray, hvs.length, sizeLine_eq]; lia)
  rw [hw]
  refine ⟨_, S'.pushed (ao := .list ys) ⟨ws, 0, Heap.get?_push_size _ rfl, hws.tups (tups_push _)⟩, P'.trans (Pres.pushed ..), _, .ref _, q _⟩
theorem HSl_from {value slice : Expr} {a : Addr} {xs : List AV} {i : Int} (hi : 0 ≤ i) (hz : xs.length ≤ 9999) (hl : Lk a Γ (.list xs)) (hs : ∀ b, subscripted slice false (.ref a) (.ref b) = operate [.ref b, .ref a] (getItem (.ref a) (.ref b)))
    (q : ∀ r, Q (.ref r) ((r, .list (xs.drop i.toNat)) :: Γ)) : HSl c value slice (.ref a) (some i) none Γ Q E := by
  obtain ⟨k, rfl⟩ := Int.eq_ofNat_of_zero_le hi
  exact sl_list hz hl hs (fun h vs hv => ⟨vs.drop k, slicePick_from' _ k, hv.drop k⟩) q
theorem HSl_upto {value slice : Expr} {a : Addr} {xs : List AV} {i : Int} (hi : 0 ≤ i) (hz : xs.length ≤ 9999) (hl : Lk a Γ (.list xs)) (hs : ∀ b, subscripted slice false (.ref a) (.ref b) = operate [.ref b, .ref a] (getItem (.ref a) (.ref b)))
    (q : ∀ r, Q (.ref r) ((r, .list (xs.take i.toNat)) :: Γ)) : HSl c value slice (.ref a) none (some i) Γ Q E := by
  obtain ⟨k, rfl⟩ := Int.eq_ofNat_of_zero_le hi
  exact sl_list hz hl hs (fun h vs hv => ⟨vs.take k, slicePick_upto' _ k, hv.take k⟩) q
/-! more calls -/
theorem HC_extend {l b : Addr} {xs ys : List AV} {Γ' : Led} (hl : Lk l Γ (.list xs)) (hb : Lk b Γ (.list ys)) (hz : xs.length + ys.length ≤ 9999) (U : Up l (.list (xs ++ ys)) Γ Γ') (q : Q .none Γ') : HC c (.bi "list.extend") [.ref l, .ref b] Γ Q E := fun s vf vs S hf hvs => by
  cases hf; obtain ⟨v, u, rfl, hv, hu⟩ := hvs.two; cases hv.ref'; cases hu.ref'
  obtain ⟨us, n, hL, hus⟩ := S.or hl
  obtain ⟨ws, m, hM, hws⟩ := S.or hb
  have hs := IsL.same (h := s.heap) (l := l) (f := fun xs => xs ++ ws.toArray)
  have T := tups_but S U.key_mem hs
  have h1 : us.toArray.size + ws.toArray.size ≤ 9999 := by simp only [List.size_toArray, hus.length, hws.length]; exact hz
  have h2 : us.toArray.size + ws.toArray.size ≤ sizeLine + 1 := by rw [sizeLine_eq]; lia
  have h3 : us.toArray.size ≤ sizeLine := by rw [sizeLine_eq]; lia
  have h4 : ¬(!us.toArray.isEmpty && Builtin.List.listTooLong (us.toArray.size + ws.toArray.size)) = true := by
    have : Builtin.List.listTooLong (us.toArray.size + ws.toArray.size) = false := by
      unfold Builtin.List.listTooLong
      exact decide_eq_false (by rw [sizeLine_eq]; lia)
    rw [this]; simp
  refine call_meets F.slot_list_extend ⟨_, hL, rfl⟩ F.entry_list_extend (F.args_list_extend_2 _ _) (AutoSeq1.list_extend_list_list_0 l us.toArray n b ws.toArray m h4 h3 h2) ⟨hL, hM, ?_⟩
  refine ⟨Γ', (S.upd U hs ⟨us ++ ws, _, by have := hL.update (fun xs => xs ++ ws.toArray); simpa using this, (hus.append hws).tups T⟩).tok _, .upd U hs, _, .none, q⟩
end
section
variable {c : Cx} {K : Frag} {D : Nat} {E : EP} {ρ : Loc} {Γ : Led} {Q : AF → Loc → Led → Prop}
theorem frs_but {base h h' : Heap} {a : Addr} (k : ∀ b o, b ≠ a → h.get? b = some o → h'.get? b = some o) {l : List Env} (n : ∀ e ∈ l, e.frame ≠ some a) (x : h.FunFrames base l) : h'.FunFrames base l := by
  induction l with
  | nil => trivial
  | cons e r ih =>
    obtain ⟨L, o, hf, hn, ho, hd⟩ := x.2.1
    exact ⟨x.1, ⟨L, o, hf, hn, k L o (fun q => n e (.head _) (q ▸ hf)) ho, hd⟩, ih (fun e he => n e (.tail _ he)) x.2.2⟩
/-- the first of the ledger is let go -/
theorem SatC.shed {s : Shared} {a : Addr} {o : AO} {h' : Heap} {t : Nat} (S : SatC c ((a, o) :: Γ) s) (hs : Heap.ExtBut a s.heap h') : SatC c Γ { s with heap := h', toks := t } where
  base b ob e := hs b ob (fun q => by have := S.new _ (.head _); rw [← q] at this; dsimp only at this; rw [e] at this; cases this) (S.base b ob e)
  gens := S.gens
  os := S.os
  led p hp := by
    have hne : p.1 ≠ a := fun q => (List.nodup_cons.mp S.nod).1 (by have := List.mem_map_of_mem (f := (·.1)) hp; rw [q] at this; exact this)
    refine (S.led p (.tail _ hp)).keeps (fun b vs t => ?_) fun ob e => hs _ ob hne e
    obtain ⟨ob, hb, r⟩ := id t
    exact ⟨ob, hs b ob (fun q => by subst q; exact (S.led _ (.head _)).noTup t) hb, r⟩
  new p hp := S.new p (.tail _ hp)
  nod := (List.nodup_cons.mp S.nod).2
  frs := frs_but hs (fun e he q => S.off e he a q (.head _)) S.frs
  off e he L hL m := S.off e he L hL (.tail _ m)
theorem Pres.shed {h h' : Heap} {a : Addr} {o : AO} (hs : Heap.ExtBut a h h') : Pres [] ((a, o) :: Γ) h Γ h' :=
  ⟨fun b ob e _ n => ⟨ob.slots, hs b ob (fun q => n (q ▸ .head _)) e⟩, fun b m => .inl (.tail _ m), fun _ m => nomatch m⟩
/-- entries may be forgotten -/
theorem Pres.sub {X : List Addr} {Γ Γ₁ Γ₂ : Led} {h h₁ : Heap} (P : Pres X Γ h Γ₁ h₁) (s : ∀ p ∈ Γ₂, p ∈ Γ₁) : Pres X Γ h Γ₂ h₁ := ⟨P.keep, fun a m => P.grow a (by obtain ⟨p, hp, e⟩ := List.mem_map.mp m; exact e ▸ List.mem_map_of_mem (s p hp)), P.live⟩
/-- a part of a ledger, in any order -/
structure Sb (Γ' Γ : Led) : Prop where
  subset : ∀ {p : Addr × AO}, p ∈ Γ' → p ∈ Γ
  nod : (adr Γ).Nodup → (adr Γ').Nodup
theorem Sb.refl : Sb Γ Γ := ⟨id, id⟩
theorem Sb.tail {p : Addr × AO} : Sb Γ (p :: Γ) := ⟨fun h => .tail _ h, fun h => (List.nodup_cons.mp h).2⟩
theorem Sb.adr {Γ Γ' : Led} (h : Sb Γ' Γ) {a : Addr} (m : a ∈ adr Γ') : a ∈ adr Γ := by
  obtain ⟨p, hp, e⟩ := List.mem_map.mp m
  exact e ▸ List.mem_map_of_mem (h.subset hp)
theorem SatC.subl {Γ' : Led} {s : Shared} (S : SatC c Γ s) (h : Sb Γ' Γ) : SatC c Γ' s := S.sub (fun p hp => h.subset hp) (h.nod S.nod)
theorem Sat.subl {Γ' : Led} {s : Shared} (S : Sat c ρ Γ s) (h : Sb Γ' Γ) : Sat c ρ Γ' s := ⟨S.C.subl h, S.loc, fun m => S.lof (h.adr m), S.lnew⟩
/-! while -/
noncomputable def Turn (I : Nat → Loc → Led → Prop) (Q : AF → Loc → Led → Prop) (n : Nat) : AF → Loc → Led → Prop := fun f ρ Γ => match f with
  | .next | .cont => ∃ m Γ', m < n ∧ Sb Γ' Γ ∧ I m ρ Γ'
  | .brk => Q .next ρ Γ
  | .ret a => Q (.ret a) ρ Γ
theorem noted {X : List Addr} {h : Heap} {x : Value} {s : Shared} {R : Result → Shared → Prop} (G : Gd c) (p : PX c (fIn c) X Γ h E x s) (k : ∀ s', PX c (fIn c) X Γ h E x s' → True)
    (hR : ∀ s', cameBackBy c.M c.A c.env (fun x s' => PX c (fIn c) X Γ h E x s') x s' → R (.error x) s') : notedBy c.M c.A c.env (fun e s' => R (.error e) s') x s := by
  unfold notedBy
  refine wpAny_mono (p.noted (F := fun T _ => T.isSome = true) (E' := fun _ _ => False) G G.frs fun _ _ _ => rfl) (fun _ s' hx => hR s' (hx.cameBack G)) fun _ _ f => f.elim
noncomputable def WhileI (c : Cx) (Γ : Led) (h : Heap) (I : Nat → Loc → Led → Prop) (n : Nat) (s' : Shared) : Prop := ∃ ρ' Γ', Sat c ρ' Γ' s' ∧ Pres [c.env.locals] Γ h Γ' s'.heap ∧ I n ρ' Γ'
theorem WhileI.go {Γ' : Led} {ρ' : Loc} {h : Heap} {I : Nat → Loc → Led → Prop} {n : Nat} {s' : Shared} (S : Sat c ρ' Γ' s') (P : Pres [c.env.locals] Γ h Γ' s'.heap) (hq : ∃ m Γ₁, m < n ∧ Sb Γ₁ Γ' ∧ I m ρ' Γ₁) : ∃ m, m < n ∧ WhileI c Γ h I m s' := by
  obtain ⟨m, Γ₁, hm, hs, hI⟩ := hq
  exact ⟨m, hm, ρ', Γ₁, S.subl hs, P.sub fun p hp => hs.subset hp, hI⟩
theorem HS_While (G : Gd c) {test : Expr} {body : List Stmt} {pos : Pos} (I : Nat → Loc → Led → Prop) (n : Nat) (h0 : I n ρ Γ)
    (turn : ∀ n ρ Γ, I n ρ Γ → HT c test ρ Γ (fun b Γ₁ => Br b (HB c body ρ Γ₁ (Turn I Q n) E) (Q .next ρ Γ₁)) E) : HS c (.While test body [] pos) ρ Γ Q E := fun s S => by
  refine wpAny_While (codeAny_whileLoop (WhileI c Γ s.heap I) (fun n s₁ hI => ?_) n ⟨ρ, Γ, S, .refl .., h0⟩)
  refine hide fun Q1 E1 hQ1 hE1 => ?_
  obtain ⟨ρ₁, Γ₁, S₁, P₁, hI⟩ := hI
  have err : ∀ x s', PX c (fIn c) [c.env.locals] Γ s.heap E x s' → notedBy c.M c.A c.env (fun e s' => cameBackBy c.M c.A c.env (PX c (fIn c) [c.env.locals] Γ s.heap E) e s') x s' := fun x s' p =>
    noted (R := fun r s' => match r with | .ok f => PG c [c.env.locals] Γ s.heap (RF c Q) f s' | .error e => cameBackBy c.M c.A c.env (PX c (fIn c) [c.env.locals] Γ s.heap E) e s') G p (fun _ _ => trivial) fun _ h => h
  refine wpAny_mono (turn n ρ₁ Γ₁ hI s₁ S₁) (fun b s₂ hg => hg.use fun Γ₂ S₂ P₂ hb => hQ1 _ _ ?_) fun x s' p => hE1 _ _ (err x s' ((p.mono sub_nil).lift P₁))
  have S₂' := S₁.pres S₂ P₂
  have P₂' := P₁.trans (P₂.mono sub_nil)
  cases b with
  | true =>
    refine wpAny_mono (hb s₂ S₂') (fun f s₃ hg => RF.use4 hg fun Γ₃ ρ₃ S₃ P₃ N L => ?_) fun x s' p => err x s' (p.lift P₂')
    have S₃' := S₂'.of S₃ N L
    have P₃' := P₂'.trans P₃
    refine ⟨fun e hq => ?_, fun e hq => ?_, fun e hq => ?_, fun v a e hf hq => ?_⟩ <;> subst e
    · exact WhileI.go S₃' P₃' hq
    · exact retN (s := s) S₃' P₃' hq
    · exact WhileI.go S₃' P₃' hq
    · exact retR (s := s) S₃' P₃' hf hq
  | false => exact wpAny_execs_nil (retN (s := s) S₂' P₂' hb)
/-! what can be gone through -/
structure Src (c : Cx) (a : AV) (xs : List AV) (o : Nat → AO) (Inv : Led → Prop) : Prop where
  mono : ∀ {p : Addr × AO} {Γ : Led}, Inv Γ → Inv (p :: Γ)
  iter : ∀ {s : Shared} {v : Value} {Γ : Led} {Q : Value → Shared → Prop} {E' : Value → Shared → Prop}, SatC c Γ s → VR s.heap v a → Inv Γ →
    (∀ h' it, SatC c ((it, o 0) :: Γ) { s with heap := h' } → Pres [] Γ s.heap ((it, o 0) :: Γ) h' → Q (.ref it) { s with heap := h' }) → wpAny c.M c.A (pyIter v) Q E' s
  self : ∀ {s : Shared} {it : Addr} {Γ : Led} {Q : Value → Shared → Prop} {E' : Value → Shared → Prop} {i : Nat}, SatC c ((it, o i) :: Γ) s → Q (.ref it) s → wpAny c.M c.A (pyIter (.ref it)) Q E' s
  next : ∀ {s : Shared} {it : Addr} {Γ : Led} {Q : Option Value → Shared → Prop} {E' : Value → Shared → Prop} {i : Nat} {x : AV}, SatC c ((it, o i) :: Γ) s → Inv Γ → xs[i]? = some x →
    (∀ v h' t, SatC c ((it, o (i + 1)) :: Γ) { s with heap := h', toks := t } → Pres [] ((it, o i) :: Γ) s.heap ((it, o (i + 1)) :: Γ) h' → VR h' v x → Q (some v) { s with heap := h', toks := t }) → wpAny c.M c.A (pyNext (.ref it)) Q E' s
  stop : ∀ {s : Shared} {it : Addr} {Γ : Led} {Q : Option Value → Shared → Prop} {E' : Value → Shared → Prop}, SatC c ((it, o xs.length) :: Γ) s → Inv Γ →
    (∀ h', SatC c Γ { s with heap := h' } → Pres [] ((it, o xs.length) :: Γ) s.heap Γ h' → Q none { s with heap := h' }) → wpAny c.M c.A (pyNext (.ref it)) Q E' s
/-- an iterator's own place in the ledger -/
noncomputable def itr (P : Heap → Addr → Prop) : AO := .any P
theorem or_any {prog : Program} {w : World} {h : Heap} {a : Addr} {P : Heap → Addr → Prop} {ob : Obj} {vs : Array Value} (ho : h.get? a = some ob) (hd : ob.data = .fields vs) (hp : P h a)
    (st : ∀ h₁ h₂, P h₁ a → Tups h₁ h₂ → (∀ ob, h₁.get? a = some ob → h₂.get? a = some ob) → P h₂ a) : OR prog w h a (itr P) := ⟨hp, ⟨ob, ho, fun us n q => by rw [hd] at q; cases q⟩, st⟩
noncomputable def litr (l : Addr) (i : Nat) : AO := itr fun h a => h.IsListIter a l i
theorem or_lit {prog : Program} {w : World} {h : Heap} {a l : Addr} {i : Nat} (x : h.IsListIter a l i) : OR prog w h a (litr l i) := by
  obtain ⟨o, ho, hc, hd⟩ := id x
  exact or_any ho hd x fun h₁ h₂ ⟨o, ho, r⟩ _ k => ⟨o, k o ho, r⟩
theorem srcList (G : Gd c) {l : Addr} {xs : List AV} : Src c (.ref l) xs (litr l) (fun Γ => Lk l Γ (.list xs)) where
  mono h := .there h
  iter S hv hI hQ := by
    cases hv.ref'
    obtain ⟨vs, n, hL, hvs⟩ := S.or hI
    exact wpAny_pyIter_list hL.isList (hQ _ _ (S.pushed (or_lit ⟨_, Heap.get?_push_size _ rfl, rfl, rfl⟩)) (Pres.pushed ..))
  self S hQ := by
    rename_i s it Γ Q E' i
    have hit : s.heap.IsListIter it l i := (S.or (a := it) (o := litr l i) .here).1
    exact wpAny_pyIter_listiter hit hQ
  next S hI hx hQ := by
    rename_i s it Γ Q E' i x
    obtain ⟨ws, m, hM, hws⟩ := S.or (.there hI)
    have hit : s.heap.IsListIter it l i := (S.or (a := it) (o := litr l i) .here).1
    obtain ⟨v, hv, hr⟩ := hws.get hx
    refine wpAny_pyNext_list_item hit hM.isList (x := v) (by simpa using hv) fun h' hit' hs => ?_
    have U : Up it (litr l (i + 1)) ((it, litr l i) :: Γ) ((it, litr l (i + 1)) :: Γ) := .here
    exact hQ v h' s.toks (S.upd U hs (or_lit hit')) (.upd U hs) (hr.tups (tups_but S U.key_mem hs))
  stop S hI hQ := by
    rename_i s it Γ Q E'
    obtain ⟨ws, m, hM, hws⟩ := S.or (.there hI)
    have hit : s.heap.IsListIter it l xs.length := (S.or (a := it) (o := litr l xs.length) .here).1
    refine wpAny_pyNext_list_end G.hdl hit hM.isList (by simp [hws.length]) fun h' hs => ?_
    exact hQ h' (S.shed (t := s.toks) hs) (Pres.shed hs)
noncomputable def titr (t : Addr) (l : List AV) (i : Nat) : AO := itr fun h a => h.IsTupleIter a t i ∧ ∃ vs : List Value, IsTup h t vs.toArray ∧ VRs h vs l
noncomputable def tupSrc (l : List AV) (i : Nat) : AO := itr fun h a => ∃ t, h.IsTupleIter a t i ∧ ∃ vs : List Value, IsTup h t vs.toArray ∧ VRs h vs l
theorem or_tupS {prog : Program} {w : World} {h : Heap} {a t : Addr} {l : List AV} {i : Nat} (x : h.IsTupleIter a t i) {vs : List Value} (ht : IsTup h t vs.toArray) (hv : VRs h vs l) : OR prog w h a (tupSrc l i) := by
  obtain ⟨o, ho, hc, hd⟩ := id x
  exact or_any ho hd ⟨t, x, vs, ht, hv⟩ fun h₁ h₂ ⟨t, ⟨o, ho, r⟩, vs, ht, hv⟩ T k => ⟨t, ⟨o, k o ho, r⟩, vs, T _ _ ht, hv.tups T⟩
theorem srcTup (G : Gd c) {xs : List AV} : Src c (.tup xs) xs (tupSrc xs) (fun _ => True) where
  mono h := h
  iter S hv hI hQ := by
    obtain ⟨t, vs, rfl, ht, hvs⟩ := hv.tup'
    refine wpAny_pyIter_tuple ht (hQ _ _ (S.pushed (or_tupS ⟨_, Heap.get?_push_size _ rfl, rfl, rfl⟩ (tups_push _ _ _ ht) (hvs.tups (tups_push _)))) (Pres.pushed ..))
  self S hQ := by
    rename_i s it Γ Q E' i
    obtain ⟨t, ⟨o, ho, hc, hd⟩, vs, ht, hvs⟩ := (S.or (a := it) (o := tupSrc xs i) .here).1
    have hT : s.TypeIs (.ref it) "tuple_iterator" := ⟨o, ho, hc⟩
    refine wpAny_pyIter_slot hT F.slot_tuple_iterator_iter (wpAny_call_entry F.slot_tuple_iterator_iter hT F.entry_tuple_iterator_iter ?_ (F.args_tuple_iterator_iter_1 _))
    show wpAny _ _ (ret (.ref it)) _ _ s
    exact wpAny_pure ⟨_, rfl, "tuple_iterator", _, hT, F.slot_tuple_iterator_next.lookup, hQ⟩
  next S hI hx hQ := by
    rename_i s it Γ Q E' i x
    obtain ⟨t, hit, vs, ht, hvs⟩ := (S.or (a := it) (o := tupSrc xs i) .here).1
    obtain ⟨v, hv, hr⟩ := hvs.get hx
    refine wpAny_pyNext_tuple_item hit ht (x := v) (by simpa using hv) fun h' hit' hs => ?_
    have U : Up it (tupSrc xs (i + 1)) ((it, tupSrc xs i) :: Γ) ((it, tupSrc xs (i + 1)) :: Γ) := .here
    have T := tups_but S U.key_mem hs
    exact hQ v h' s.toks (S.upd U hs (or_tupS hit' (T _ _ ht) (hvs.tups T))) (.upd U hs) (hr.tups T)
  stop S hI hQ := by
    rename_i s it Γ Q E'
    obtain ⟨t, hit, vs, ht, hvs⟩ := (S.or (a := it) (o := tupSrc xs xs.length) .here).1
    refine wpAny_pyNext_tuple_end G.hdl hit ht (by simp [hvs.length]) fun h' hs => ?_
    exact hQ h' (S.shed (t := s.toks) hs) (Pres.shed hs)
/-! ranges -/
noncomputable def rngO (n : Int) : AO := itr fun h a => ∃ t u v, IsRange h a 0 n 1 t u v
noncomputable def upTo (n : Nat) : List AV := (List.range n).map fun (i : Nat) => AV.int (i : Int)
noncomputable def ritr (n : Nat) (i : Nat) : AO := itr fun h a => IsRangeIter h a i ((n : Int) - i) 1
theorem or_rit {prog : Program} {w : World} {h : Heap} {a : Addr} {n i : Nat} (x : IsRangeIter h a i ((n : Int) - i) 1) : OR prog w h a (ritr n i) :=
  or_any x rfl x fun h₁ h₂ x _ k => k _ x
theorem HC_range {n : Nat} {Q : AV → Led → Prop} (q : ∀ r, Q (.ref r) ((r, rngO n) :: Γ)) : HC c (.ty "range") [.int n] Γ Q E := fun s vf vs S hf hvs => by
  cases hf; obtain ⟨v, rfl, hv⟩ := hvs.one; obtain ⟨t, rfl⟩ := hv.int'
  refine call_range_1 ?_
  have hO : OR c.prog c.w (s.heap.push { cls := .type "range", data := .fields #[.int 0 s.toks, .int n t, .int 1 (s.toks + 1)] }) s.heap.objs.size (rngO n) :=
    or_any (Heap.get?_push_size _ rfl) rfl ⟨_, _, _, Heap.get?_push_size _ rfl⟩ fun h₁ h₂ ⟨t, u, v, x⟩ _ k => ⟨t, u, v, k _ x⟩
  exact ⟨_, (S.pushed hO).tok _, Pres.pushed .., _, .ref _, q _⟩
theorem fitsL {x : Int} (h1 : -(2 ^ 63) ≤ x) (h2 : x < 2 ^ 63) : Builtin.Range.rangeFitsLong x = true := by
  unfold Builtin.Range.rangeFitsLong
  rw [decide_eq_true h1, decide_eq_true h2]; rfl
theorem srcRange (G : Gd c) {r : Addr} {n : Nat} (hn : n < 2 ^ 60) : Src c (.ref r) (upTo n) (ritr n) (fun Γ => Lk r Γ (rngO n)) where
  mono h := .there h
  iter S hv hI hQ := by
    cases hv.ref'
    obtain ⟨t, u, v, hR⟩ := (S.or hI).1
    have hsz : Builtin.Range.rangeSize 0 n 1 = n := by
      unfold Builtin.Range.rangeSize
      rw [if_pos (by decide)]
      by_cases h : (0 : Int) < n
      · rw [if_pos h, Int.ediv_one]; lia
      · rw [if_neg h]; lia
    refine wpAny_pyIter_range hR ?_ ?_
    · unfold Builtin.Range.small
      rw [hsz]
      rw [fitsL (by decide) (by decide), fitsL (by lia) (by lia), fitsL (by decide) (by decide), if_pos (by decide), fitsL (by lia) (by lia)]
      simp
    · rw [hsz]
      rename_i s0 _ _ _
      have e := Heap.get?_push_size s0.heap (o := { cls := .type "range_iterator", dict := none, data := .fields #[rawInt 0, rawInt n, rawInt 1], slots := #[] }) rfl
      refine hQ _ _ (S.pushed (or_rit (n := n) (i := 0) ?_)) (Pres.pushed ..)
      simpa using e
  self S hQ := by
    rename_i s it Γ Q E' i
    have hit : IsRangeIter s.heap it i ((n : Int) - i) 1 := (S.or (a := it) (o := ritr n i) .here).1
    exact wpAny_pyIter_rangeiter hit hQ
  next S hI hx hQ := by
    rename_i s it Γ Q E' i x
    have hit : IsRangeIter s.heap it i ((n : Int) - i) 1 := (S.or (a := it) (o := ritr n i) .here).1
    have hi : i < n := by have := (List.getElem?_eq_some_iff.mp hx).1; simpa [upTo] using this
    have hx' : x = .int i := by
      have := (List.getElem?_eq_some_iff.mp hx).2
      simp [upTo] at this; exact this.symm
    subst hx'
    refine wpAny_pyNext_range_item hit (by lia) fun h' hit' hs => ?_
    have U : Up it (ritr n (i + 1)) ((it, ritr n i) :: Γ) ((it, ritr n (i + 1)) :: Γ) := .here
    have e1 : (i : Int) + 1 = ((i + 1 : Nat) : Int) := by lia
    have e2 : (n : Int) - i - 1 = (n : Int) - ((i + 1 : Nat) : Int) := by lia
    rw [e1, e2] at hit'
    exact hQ _ h' _ ((S.upd U hs (or_rit hit')).tok _) (.upd U hs) (.int ..)
  stop S hI hQ := by
    rename_i s it Γ Q E'
    have hl : (upTo n).length = n := by simp [upTo]
    have hit : IsRangeIter s.heap it (upTo n).length ((n : Int) - (upTo n).length) 1 := (S.or (a := it) (o := ritr n (upTo n).length) .here).1
    refine wpAny_pyNext_range_end G.hdl hit (by rw [hl]; lia) fun h' hs => ?_
    exact hQ h' (S.shed (t := s.toks) hs) (Pres.shed hs)
/-! for -/
noncomputable def HAsg (c : Cx) (t : Expr) (x : AV) (ρ : Loc) (Γ : Led) (P : Loc → Led → Prop) : Prop := ∀ s v, Sat c ρ Γ s → VR s.heap v x → ∀ {Γo : Led} {ho : Heap} {E' : Value → Shared → Prop} {k : Unit → Shared → Prop}, Pres [c.env.locals] Γo ho Γ s.heap →
  (∀ ρ' Γ' s', Sat c ρ' Γ' s' → Pres [c.env.locals] Γo ho Γ' s'.heap → P ρ' Γ' → k () s') → wpAny c.M c.A (assign t c.env v) k E' s
noncomputable def Turn2 (it : Addr) (o : Nat → AO) (I : Nat → Loc → Led → Prop) (Q : AF → Loc → Led → Prop) (i : Nat) : AF → Loc → Led → Prop := fun f ρ Γ => match f with
  | .next | .cont => ∃ Γ', Sb ((it, o (i + 1)) :: Γ') Γ ∧ I (i + 1) ρ Γ'
  | .brk => Q .next ρ Γ
  | .ret a => Q (.ret a) ρ Γ
noncomputable abbrev HS_For_k1 (c : Cx) (ρ : Loc) (Q : AF → Loc → Led → Prop) (E : EP) (target : Expr) (body : List Stmt) := fun (a : AV) (Γ₁ : Led) => ∃ xs o Inv I, Src c a xs o Inv ∧ I 0 ρ Γ₁ ∧ (∀ i ρ' Γ', I i ρ' Γ' → Inv Γ') ∧ ((∀ it v, letOwnedTupleGo target it v = pure ()) ∨ (∃ l, o = litr l) ∧ ∃ elts k p, target = .Tuple elts k p) ∧
      (∀ it i x ρ' Γ', xs[i]? = some x → I i ρ' Γ' → HAsg c target x ρ' ((it, o (i + 1)) :: Γ') (fun ρ₂ Γ₂ => HB c body ρ₂ Γ₂ (Turn2 it o I Q i) E)) ∧ (∀ ρ' Γ', I xs.length ρ' Γ' → Q .next ρ' Γ')
noncomputable def ForI (c : Cx) (Γ : Led) (h : Heap) (xs : List AV) (it : Addr) (o : Nat → AO) (I : Nat → Loc → Led → Prop) (k : Nat) (s' : Shared) : Prop := ∃ i ρ' Γ', k + i = xs.length ∧ Sat c ρ' ((it, o i) :: Γ') s' ∧ Pres [c.env.locals] Γ h ((it, o i) :: Γ') s'.heap ∧ I i ρ' Γ'
theorem ForI.go {Γ' : Led} {ρ' : Loc} {h : Heap} {xs : List AV} {it : Addr} {o : Nat → AO} {I : Nat → Loc → Led → Prop} {k i : Nat} {s' : Shared} (hk : k + i = xs.length) (hi : i < xs.length) (S : Sat c ρ' Γ' s') (P : Pres [c.env.locals] Γ h Γ' s'.heap) (hq : ∃ Γ₁, Sb ((it, o (i + 1)) :: Γ₁) Γ' ∧ I (i + 1) ρ' Γ₁) : ∃ m, m < k ∧ ForI c Γ h xs it o I m s' := by
  obtain ⟨Γ₁, hs, hI⟩ := hq
  exact ⟨k - 1, by lia, i + 1, ρ', Γ₁, by lia, S.subl hs, P.sub fun p hp => hs.subset hp, hI⟩
theorem letOwn_goes {target : Expr} {o : Nat → AO} {i : Nat} {it : Addr} {s : Shared} {v : Value} {x : AV} {Γ : Led} {Q' : Unit → Shared → Prop} {E' : Value → Shared → Prop} (hgo : (∀ it v, letOwnedTupleGo target it v = pure ()) ∨ (∃ l, o = litr l) ∧ ∃ elts k p, target = .Tuple elts k p)
    (C : SatC c ((it, o (i + 1)) :: Γ) s) (hr : VR s.heap v x) (hq : Q' () s) : wpAny c.M c.A (letOwnedTupleGo target (.ref it) v) Q' E' s := by
  rcases hgo with h | ⟨⟨l, rfl⟩, elts, k, p, rfl⟩
  · rw [h]; exact wpAny_pure hq
  · have hit' : Heap.IsListIter s.heap it l (i + 1) := (C.or (a := it) (o := litr l (i + 1)) .here).1
    cases hr with
    | ref a => exact wpAny_letOwnedTupleGo_listiter hit' hq
    | tup a _ _ _ _ => exact wpAny_letOwnedTupleGo_listiter hit' hq
    | _ => exact wpAny_pure hq
theorem HS_For (G : Gd c) {target iter : Expr} {body : List Stmt} {pos : Pos} (hfold : ∀ x, foldedSetIterable iter c.env x = pure x)
    (q : HE c iter ρ Γ (HS_For_k1 c ρ Q E target body) E) : HS c (.For target iter body [] pos) ρ Γ Q E := fun s S => by
  refine wpAny_For (vuse S (.refl ..) (q s S) fun v a s₁ Γ₁ S₁ P₁ _ hv hq => ?_) hfold
  refine hide fun Q1 E1 hQ1 hE1 => ?_
  obtain ⟨xs, o, Inv, I, src, h0, hinv, hgo, turn, fin⟩ := hq
  refine src.iter S₁.C hv (hinv _ _ _ h0) fun h₁ it C₁ R₁ => hQ1 _ _ ?_
  clear hQ1 hE1 Q1 E1
  have S₁' := S₁.pres C₁ R₁
  have P₁' := P₁.trans (R₁.mono (sub_nil (X := [c.env.locals])))
  have err : ∀ x s', PX c (fIn c) [c.env.locals] Γ s.heap E x s' → notedBy c.M c.A c.env (fun e s' => cameBackBy c.M c.A c.env (PX c (fIn c) [c.env.locals] Γ s.heap E) e s') x s' := fun x s' p =>
    noted (R := fun r s' => match r with | .ok f => PG c [c.env.locals] Γ s.heap (RF c Q) f s' | .error e => cameBackBy c.M c.A c.env (PX c (fIn c) [c.env.locals] Γ s.heap E) e s') G p (fun _ _ => trivial) fun _ h => h
  refine codeAny_forLoop_any (ForI c Γ s.heap xs it o I) (fun k s₂ hI => ?_) xs.length ⟨0, ρ, Γ₁, rfl, S₁', P₁', h0⟩
  refine hide fun Q1 E1 hQ1 hE1 => ?_
  obtain ⟨i, ρ₂, Γ₂, hk, S₂, P₂, hI⟩ := hI
  cases hx : xs[i]? with
  | none =>
    have hlen : i = xs.length := by rw [List.getElem?_eq_none_iff] at hx; lia
    subst hlen
    refine src.stop S₂.C (hinv _ _ _ hI) fun h' C₃ P₃ => hQ1 _ _ ?_
    exact wpAny_execs_nil (retN (s := s) (S₂.pres C₃ P₃) (P₂.trans (P₃.mono sub_nil)) (fin _ _ hI))
  | some x =>
    refine src.next S₂.C (hinv _ _ _ hI) hx fun v h' t C₃ R₃ hr => hQ1 _ _ ?_
    have S₃ := S₂.pres C₃ R₃
    have P₃ := P₂.trans (R₃.mono (sub_nil (X := [c.env.locals])))
    refine letOwn_goes hgo C₃ hr ?_
    refine turn it i x ρ₂ Γ₂ hx hI _ v S₃ hr P₃ fun ρ₄ Γ₄ s₄ S₄ P₄ hb => ?_
    refine wpAny_mono (hb s₄ S₄) (fun f s₅ hg => RF.use4 hg fun Γ₅ ρ₅ S₅ P₅ N L => ?_) fun x s' p => err x s' (p.lift P₄)
    have S₅' := S₄.of S₅ N L
    have P₅' := P₄.trans P₅
    have go := ForI.go (it := it) (o := o) (I := I) hk (List.getElem?_eq_some_iff.mp hx).1 S₅' P₅'
    refine ⟨fun e hq => ?_, fun e hq => ?_, fun e hq => ?_, fun v a e hf hq => ?_⟩ <;> subst e
    · exact go hq
    · exact retN (s := s) S₅' P₅' hq
    · exact go hq
    · exact retR (s := s) S₅' P₅' hf hq
end
section
variable {c : Cx} {K : Frag} {D : Nat} {E : EP} {sc : Scope} {ρ : Loc} {Γ : Led} {Q : AV → Led → Prop} {QF : AF → Loc → Led → Prop} {x : Str} {p pos : Pos}
/-! names of cells -/
theorem hCell {a : Addr} {v : AV} {cs : List (Str × Addr)} (I : In c K D) (hs : c.env.scope = sc) (hc : c.env.cells = cs) (hk : sc.names.lookup x = some .cell ∨ sc.names.lookup x = some .free) (hd : (x == Str.ofString "__debug__") = false) (hd2 : (x == Str.ofString "__classdict__") = false)
    (hl : cs.lookup x = some a) (l : Lk a Γ (.cell (some v))) (q : Q v Γ) : HE c (.Name x pos) ρ Γ Q E := fun s S => by
  obtain ⟨cv, hcell, hv⟩ := S.C.or l
  cases cv with
  | none => exact hv.elim
  | some w =>
    rcases hk with hk | hk
    · exact wpAny_Name (wpAny_loadName_cell I.G.kind (kind_of hs hk) (by rw [hc]; exact hl) hcell (ret0 S.C rfl hv q)) hd
    · exact wpAny_Name (wpAny_loadName_free I.G.kind (kind_of hs hk) (by rw [hc]; exact hl) hcell (ret0 S.C rfl hv q) hd2) hd
/-! stores -/
noncomputable abbrev HAsg_Name_k1 (Γ : Led) (P : Loc → Led → Prop) := fun (ρ' : Loc) => P ρ' Γ
theorem HAsg_Name {a : AV} {P : Loc → Led → Prop} (I : In c K D) (hs : c.env.scope = sc) (hk : sc.names.lookup x = some .local) (q : HSto x a ρ (HAsg_Name_k1 Γ P)) : HAsg c (.Name x p) a ρ Γ P := fun s v S hv Γo ho E' k Pr hk' =>
  wpAny_assign_Name (S.stored I.G (kind_of hs hk) Pr hv q fun ρ' s' S' P' _ hq => hk' ρ' Γ s' S' P' hq)
noncomputable abbrev HAsg_Tup2_k1 (Γ : Led) (P : Loc → Led → Prop) := fun (ρ₂ : Loc) => P ρ₂ Γ
noncomputable abbrev HAsg_Tup2_k2 (Γ : Led) (y : Str) (b : AV) (P : Loc → Led → Prop) := fun (ρ₁ : Loc) => HSto y b ρ₁ (HAsg_Tup2_k1 Γ P)
theorem HAsg_Tup2 {y : Str} {py : Pos} {k : Nat} {a b : AV} {P : Loc → Led → Prop} (I : In c K D) (hs : c.env.scope = sc) (hx : sc.names.lookup x = some .local) (hy : sc.names.lookup y = some .local)
    (q : HSto x a ρ (HAsg_Tup2_k2 Γ y b P)) : HAsg c (.Tuple [.Name x p, .Name y py] k pos) (.tup [a, b]) ρ Γ P := fun s v S hv Γo ho E' k' Pr hk' => by
  obtain ⟨t, vs, rfl, ht, hvs⟩ := hv.tup'
  obtain ⟨v, w, rfl, hv, hw⟩ := hvs.two
  refine assign_Tuple_tuple I.G.hdl ht rfl rfl fun h' he => ?_
  have k : ∀ b o, s.heap.get? b = some o → h'.get? b = some o := fun b o e => he b o (fun q => by rw [q, none_at] at e; cases e) e
  have S₁ : Sat c ρ Γ { s with heap := h', toks := s.toks } := S.pres (S.C.grow k) (Pres.more k)
  have P₁ := Pr.trans ((Pres.more k).mono sub_nil)
  have T : Tups s.heap h' := fun _ _ t => t.keeps k
  refine assignInOrder_cons (assign_Name (S₁.stored I.G (kind_of hs hx) P₁ (hv.tups T) q fun ρ₁ s₁ S₂ P₂ T₂ hq => ?_))
  refine assignInOrder_cons (assign_Name (S₂.stored I.G (kind_of hs hy) P₂ ((hw.tups T).tups T₂) hq fun ρ₂ s₂ S₃ P₃ _ hq₂ => ?_))
  exact assignInOrder_nil (hk' ρ₂ Γ s₂ S₃ P₃ hq₂)
/-- two names at once, the second first -/
noncomputable abbrev HS_Swap2_k1 (QF : AF → Loc → Led → Prop) (Γ₁ : Led) := fun (ρ₂ : Loc) => QF .next ρ₂ Γ₁
noncomputable abbrev HS_Swap2_k2 (ρ : Loc) (QF : AF → Loc → Led → Prop) (x : Str) (y : Str) := fun (v : AV) (Γ₁ : Led) => ∃ a b, v = .tup [a, b] ∧ HSto y b ρ (fun ρ₁ => HSto x a ρ₁ (HS_Swap2_k1 QF Γ₁))
theorem HS_Swap2 {y : Str} {py tp : Pos} {k : Nat} {value : Expr} (I : In c K D) (hs : c.env.scope = sc) (hx : sc.names.lookup x = some .local) (hy : sc.names.lookup y = some .local)
    (h1 : swapsWithSole [.Tuple [.Name x p, .Name y py] k tp] value pos.line c.env = pure false) (h2 : ∀ e : Env, e.scope = sc → swappedStores [.Tuple [.Name x p, .Name y py] k tp] value e = pure (some [x, y]))
    (q : HE c value ρ Γ (HS_Swap2_k2 ρ QF x y) E) : HS c (.Assign [.Tuple [.Name x p, .Name y py] k tp] value pos) ρ Γ QF E := fun s S => by
  refine Assign_Tuple_swapped (names := [x, y]) (vuse S (.refl ..) (q s S) fun v a s₁ Γ₁ S₁ P₁ _ hv hq => ?_) h1 (h2 _ hs)
  obtain ⟨a, b, rfl, hst⟩ := hq
  obtain ⟨t, vs, rfl, ht, hvs⟩ := hv.tup'
  obtain ⟨v, w, rfl, hv, hw⟩ := hvs.two
  refine unpackItems_tuple (items := [v, w].toArray) I.G.hdl ht fun h' he => ?_
  have k : ∀ b o, s₁.heap.get? b = some o → h'.get? b = some o := fun b o e => he b o (fun q => by rw [q, none_at] at e; cases e) e
  have S₂ : Sat c ρ Γ₁ { s₁ with heap := h', toks := s₁.toks } := S₁.pres (S₁.C.grow k) (Pres.more k)
  have P₂ := P₁.trans ((Pres.more k).mono (sub_nil (X := [c.env.locals])))
  have T : Tups s₁.heap h' := fun _ _ t => t.keeps k
  show wpAny c.M c.A (assignInOrder [fun n => bindName c.env y n, fun n => bindName c.env x n] [w, v]) _ _ _
  refine assignInOrder_cons (wpAny_bindName (S₂.stored I.G (kind_of hs hy) P₂ (hw.tups T) hst fun ρ₁ s₃ S₃ P₃ T₃ hq => ?_))
  refine assignInOrder_cons (wpAny_bindName (S₃.stored I.G (kind_of hs hx) P₃ ((hv.tups T).tups T₃) hq fun ρ₂ s₄ S₄ P₄ _ hq₂ => ?_))
  exact assignInOrder_nil (retN (s := s) S₄ P₄ hq₂)
end
/-! list comprehensions: the frame stays, the names stand in a namespace of their own -/
section
variable {M : Model} {A : Around} {E : Value → Shared → Prop} {s : Shared} {env : Env}
/-- how a comprehension's block ends -/
noncomputable def CompEnd (M : Model) (A : Around) (E : Value → Shared → Prop) (use : Option (Value → Sem Unit)) (Q : Value → Shared → Prop) (acc : Value) (ce : Env) (r : Result) (s' : Shared) : Prop :=
  ∃ m, match r, use with
  | .ok _, none => s'.heap.Ns ce.locals m ∧ ∀ h', Heap.SameBut ce.locals s'.heap h' → Q acc { s' with heap := h' }
  | .ok _, some u => wpAny M A (u acc) (fun _ s'' => ∃ m, s''.heap.Ns ce.locals m ∧ ∀ h', Heap.SameBut ce.locals s''.heap h' → Q .none { s'' with heap := h' }) E s'
  | .error x, _ => s'.heap.Ns ce.locals m ∧ ∀ h', Heap.SameBut ce.locals s'.heap h' → wpAny M A (passOn "comprehension.variables-let-go" x ce : Sem Value) (fun _ _ => False) E { s' with heap := h' }
theorem comp_run {e : Expr} {scope : Scope} {pos : Pos} {newAcc first : Sem Value} {g : Comprehension} {gs : List Comprehension} {cl : List (Str × Addr)} {use : Option (Value → Sem Unit)} {Q : Value → Shared → Prop}
    (hcl : clausesOf e = g :: gs) (hs : ∀ x, foldedSetIterable g.iter env x = pure x) (hclos : closureFor scope env = pure cl)
    (hkind : scope.kind = .function) (hnames : ∀ x ∈ scope.names, x.2 = .local → scope.names.lookup x.1 = some .local)
    (h : wpAny M A first (fun x s₁ => wpAny M A (pyIter x) (fun it s₂ => wpAny M A newAcc (fun acc s₃ =>
      wpAny M A (newFunctionEnv scope env.globals cl [] env.qual none .none (some env)) (fun cenv s₄ =>
        codeAny M A (.compStart e 0 it acc { cenv with scope := relabel scope env }) (CompEnd M A E use Q acc { cenv with scope := relabel scope env }) s₄) E s₃) E s₂) E s₁) E s) :
    wpAny M A (comprehension e scope env pos newAcc false first use) Q E s := by
  unfold comprehension
  rw [hclos, hcl]
  refine wpAny_bind (wpAny_mono h (fun x s₁ h₁ => wpAny_bind (wpAny_standAt (wpAny_bind (wpAny_of_eq (hs x) (wpAny_bind (wpAny_holding (wpAny_mono h₁ (fun it s₂ h₂ =>
    wpAny_standIf (wpAny_bind (wpAny_mono h₂ (fun acc s₃ h₃ => wpAny_bind (wpAny_pure (wpAny_bind (wpAny_mono h₃ (fun cenv s₄ h₄ => ?_) fun _ _ h' => h')))) fun _ _ h' => h')))
      fun _ _ h' => h'))))))) fun _ _ h' => h')
  dsimp only
  have hv : ∀ x ∈ (scope.names.filter fun x => (x.2 == .local || x.2 == .cell) && x.1 != (".0" : Str)).reverse, x.2 = .local →
      Env.kindOf { cenv with scope := relabel scope env } x.1 = some .local := fun x hx hl => lookup_relabel_local (hnames x (List.mem_filter.mp (List.mem_reverse.mp hx)).1 hl)
  have hv' : ∀ x ∈ (scope.names.filter fun x => (x.2 == .local || x.2 == .cell) && x.1 != (".0" : Str)).reverse.drop 1 ++ (scope.names.filter fun x => (x.2 == .local || x.2 == .cell) && x.1 != (".0" : Str)).reverse.take 1,
      x.2 = .local → Env.kindOf { cenv with scope := relabel scope env } x.1 = some .local := fun x hx hl =>
    (List.mem_append.mp hx).elim (fun h1 => hv x (List.mem_of_mem_drop h1) hl) fun h1 => hv x (List.mem_of_mem_take h1) hl
  refine wpAny_holding (wpAny_bind (wpAny_attempt (wpAny_holding (wpAny_run (codeAny_mono h₄ fun r s' hr => ?_)))))
  obtain ⟨m, hr⟩ := hr
  cases r with
  | ok f =>
    cases use with
    | none =>
      obtain ⟨hn, hr⟩ := hr
      exact wpAny_bind (wpAny_holding (wpAny_comp_letGo (cenv := { cenv with scope := relabel scope env }) hkind _ s' m hv hn fun h' m' _ hs' => wpAny_pure (hr h' hs')))
    | some u =>
      refine wpAny_bind (wpAny_rule (wpAny_bind (wpAny_holding (wpAny_mono hr (fun _ s'' hr' => ?_) fun _ _ h' => h'))))
      obtain ⟨m, hn, hr'⟩ := hr'
      exact wpAny_bind (wpAny_comp_letGo (cenv := { cenv with scope := relabel scope env }) hkind _ s'' m hv' hn fun h' m' _ hs' => wpAny_pure (hr' h' hs'))
  | error x =>
    have hr' : s'.heap.Ns cenv.locals m ∧ ∀ h', Heap.SameBut cenv.locals s'.heap h' → wpAny M A (passOn "comprehension.variables-let-go" x { cenv with scope := relabel scope env } : Sem Value) (fun _ _ => False) E { s' with heap := h' } := by cases use <;> exact hr
    obtain ⟨hn, hr⟩ := hr'
    exact wpAny_bind (wpAny_holding (wpAny_comp_letGo (cenv := { cenv with scope := relabel scope env }) hkind _ s' m hv hn fun h' m' _ hs' => wpAny_mono (hr h' hs') (fun _ _ f => f.elim) fun _ _ y => y))
end
noncomputable def Cx.comp (c : Cx) (e : Env) : Cx := { c with env := e }
section
variable {c : Cx} {K : Frag} {D : Nat} {E : EP} {sc : Scope} {ρ : Loc} {Γ : Led} {Q : AV → Led → Prop} {QF : AF → Loc → Led → Prop}
theorem SatC.comp {e : Env} {s : Shared} (S : SatC c Γ s) : SatC (c.comp e) Γ s := ⟨S.base, S.gens, S.os, S.led, S.new, S.nod, S.frs, S.off⟩
theorem SatC.uncomp {e : Env} {s : Shared} (S : SatC (c.comp e) Γ s) : SatC c Γ s := ⟨S.base, S.gens, S.os, S.led, S.new, S.nod, S.frs, S.off⟩
/-- a namespace that is no one's is changed -/
theorem SatC.butNs {s : Shared} {C : Addr} {m : Str → Option Value} {h' : Heap} {t : Nat} (S : SatC c Γ s) (hn : s.heap.Ns C m) (hb : c.h₀.get? C = none) (hΓ : C ∉ adr Γ) (hf : ∀ e ∈ c.fr, e.frame ≠ some C) (hs : Heap.SameBut C s.heap h') : SatC c Γ { s with heap := h', toks := t } where
  base b ob e := (hs.2 b fun q => by rw [q, hb] at e; cases e).trans (S.base b ob e)
  gens := S.gens
  os := S.os
  led p hp := (S.led p hp).keeps (tups_store hn hs) fun ob e => (hs.2 _ fun q => hΓ (q ▸ List.mem_map_of_mem hp)).trans e
  new := S.new
  nod := S.nod
  frs := frs_but (fun b o n e => (hs.2 b n).trans e) hf S.frs
  off := S.off
theorem Fly.passOn {X : List Addr} {h : Heap} {s : Shared} {e d t : Addr} {fl : Value} {code told : Str} {Γ' : Led} {env : Env} {M : Model} {A : Around} {E' : Value → Shared → Prop} {Q' : Value → Shared → Prop} {what : String} (F : Fly c X Γ h s e d (some t) fl code told Γ')
    (q : ∀ s', Fly c X Γ h s' e d (some t) (env.frame.elim .none fun f => rawInt f) code told Γ' → E' (.ref e) s') : wpAny M A (passOn what (.ref e) env : Sem Value) Q' E' s := by
  obtain ⟨o, vs, a0, ho, hc, hdct, hd, h0, h1⟩ := F.A.ob
  unfold PySem.passOn
  refine wpAny_bind (wpAny_field ho hd h1 ?_)
  rw [if_neg (by simp)]
  exact wpAny_bind (F.setFlight fun s' F' => wpAny_throw (q s' F'))
/-- the tests of a clause -/
noncomputable def HIfs (c : Cx) (ifs : List Expr) (ρ : Loc) (Γ : Led) (QB : Bool → Led → Prop) (E : EP) : Prop := ∀ s, Sat c ρ Γ s →
  Wp c (fIn c) [] Γ (forIn ifs true fun e r => if r = true then do let ok ← isTrue e c.env (eval e c.env); pure (ForInStep.yield ok) else pure (ForInStep.yield r)) (RB QB) E s
theorem HIfs_nil {QB : Bool → Led → Prop} (q : QB true Γ) : HIfs c [] ρ Γ QB E := fun s S => wpAny_tests_nil ⟨Γ, S.C, .refl .., q⟩
theorem HIfs_one {e : Expr} {QB : Bool → Led → Prop} (q : HT c e ρ Γ QB E) : HIfs c [e] ρ Γ QB E := fun s S => wpAny_tests_one (q s S)
/-- an exception leaves the block: its namespace still stands -/
noncomputable def PXC (c : Cx) (C : Addr) (Γ : Led) (h : Heap) (E : EP) (y : Value) (s' : Shared) : Prop := ∃ e d t fl code told Γ', y = .ref e ∧ Fly c [] Γ h s' e d (some t) fl code told Γ' ∧ C ∉ adr ((d, excD code told) :: Γ') ∧ (∃ m, s'.heap.Ns C m) ∧ E code Γ'
/-- one turn of the block: the value is at hand, the iterator stands behind -/
structure CompT (c : Cx) (K : Frag) (D : Nat) (cs : Scope) (cl : List (Str × Addr)) (x : Str) (ifs : List Expr) (elt : Expr) (xs : List AV) (o : Nat → AO) (Inv : Led → Prop) (J : Nat → List AV → Led → Prop) (E : EP) : Prop where
  inv : ∀ i ys Γ, J i ys Γ → Inv Γ ∧ ys.length ≤ 9999
  turn : ∀ i v ys Γ, xs[i]? = some v → J i ys Γ → ∀ c' it l, In c' K D → c'.env.scope = cs → c'.env.cells = cl →
    HIfs c' ifs [(x, some v)] ((it, o (i + 1)) :: (l, .list ys) :: Γ) (fun ok Γ₁ => Br ok
      (HE c' elt [(x, some v)] Γ₁ (fun y Γ₂ => ∃ Γ₃, Sb ((it, o (i + 1)) :: (l, .list ys) :: Γ₃) Γ₂ ∧ J (i + 1) (ys ++ [y]) Γ₃) E)
      (∃ Γ₃, Sb ((it, o (i + 1)) :: (l, .list ys) :: Γ₃) Γ₁ ∧ J (i + 1) ys Γ₃)) E
noncomputable def CompI (c' : Cx) (C : Addr) (x : Str) (it l : Addr) (o : Nat → AO) (Γ₁ : Led) (h₁ : Heap) (xs : List AV) (J : Nat → List AV → Led → Prop) (k : Nat) (s' : Shared) : Prop :=
  ∃ i xv ys Γi, k + i = xs.length ∧ Sat c' [(x, xv)] ((it, o i) :: (l, .list ys) :: Γi) s' ∧ Pres [C] Γ₁ h₁ ((it, o i) :: (l, .list ys) :: Γi) s'.heap ∧ J i ys Γi
theorem comp_core (I : In c K D) {elt iter : Expr} {x : Str} {px : Pos} {ifs : List Expr} {scope cs : Scope} {cl : List (Str × Addr)} {pos : Pos} {s₁ : Shared} {Γ₁ : Led} {a : AV} {v : Value} {xs : List AV} {o : Nat → AO} {Inv : Led → Prop} {J : Nat → List AV → Led → Prop} {R : Value → Env → Result → Shared → Prop} {E' : Value → Shared → Prop}
    (hcell : ∀ y ∈ scope.names, y.2 ≠ .cell) (hkind : scope.kind = .function) (hx : scope.names.lookup x = some .local) (hrel : relabel scope c.env = cs) (S₁ : SatC c Γ₁ s₁) (hv : VR s₁.heap v a) (src : Src c a xs o Inv) (J0 : J 0 [] Γ₁) (T : CompT c K D cs cl x ifs elt xs o Inv J E)
    (fin : ∀ l ce ys Γ' s', ce.frame = c.env.frame → SatC c ((l, .list ys) :: Γ') s' → Pres [] Γ₁ s₁.heap ((l, .list ys) :: Γ') s'.heap → J xs.length ys Γ' → ce.locals ∉ adr ((l, .list ys) :: Γ') → c.h₀.get? ce.locals = none → (∀ e ∈ c.fr, e.frame ≠ some ce.locals) → s₁.heap.get? ce.locals = none → (∃ m, s'.heap.Ns ce.locals m) → R (.ref l) ce (.ok .next) s')
    (bad : ∀ l ce y s', ce.frame = c.env.frame → PXC c ce.locals Γ₁ s₁.heap E y s' → c.h₀.get? ce.locals = none → (∀ e ∈ c.fr, e.frame ≠ some ce.locals) → s₁.heap.get? ce.locals = none → R (.ref l) ce (.error y) s') :
    wpAny c.M c.A (pyIter v) (fun it s₂ => wpAny c.M c.A (newList []) (fun acc s₃ => wpAny c.M c.A (newFunctionEnv scope c.env.globals cl [] c.env.qual none .none (some c.env)) (fun cenv s₄ =>
      codeAny c.M c.A (.compStart (.ListComp elt [⟨.Name x px, iter, ifs, 0⟩] scope pos) 0 it acc { cenv with scope := relabel scope c.env }) (R acc { cenv with scope := relabel scope c.env }) s₄) E' s₃) E' s₂) E' s₁ := by
  refine src.iter S₁ hv (T.inv _ _ _ J0).1 fun h₂ it C₂ R₂ => ?_
  refine wpAny_newObj_type (hd := by size_fits) ?_
  have C₃ := C₂.pushed (ao := .list []) (o := { cls := .type "list", data := .seq ([] : List Value).toArray }) ⟨[], 0, Heap.get?_push_size _ rfl, .nil⟩
  have R₃ := R₂.trans (Pres.pushed _ h₂ { cls := .type "list", data := .seq ([] : List Value).toArray } (.list []))
  dsimp only at C₃ R₃ ⊢
  generalize hl : h₂.objs.size = l at C₃ R₃ ⊢
  generalize hH : h₂.push { cls := .type "list", data := .seq ([] : List Value).toArray } = h₃ at C₃ R₃ ⊢
  have perm : ∀ p ∈ ((it, o 0) :: (l, AO.list []) :: Γ₁), p ∈ ((l, AO.list []) :: (it, o 0) :: Γ₁) := fun p hp => by
    rcases List.mem_cons.mp hp with rfl | hp
    · exact .tail _ (.head _)
    · rcases List.mem_cons.mp hp with rfl | hp
      · exact .head _
      · exact .tail _ (.tail _ hp)
  have nd : (adr ((it, o 0) :: (l, AO.list []) :: Γ₁)).Nodup := by
    have := C₃.nod
    simp only [adr, List.map_cons, List.nodup_cons, List.mem_cons, not_or] at this ⊢
    exact ⟨⟨fun e => this.1.1 e.symm, this.2.1⟩, this.1.2, this.2.2⟩
  have C₃' := C₃.sub perm nd
  have R₃' := R₃.sub perm
  refine wpAny_newFunctionEnv hcell (fun x hx => nomatch hx) (fun h₄ hns hsb => ?_) hkind
  have k : ∀ b o, h₃.get? b = some o → h₄.get? b = some o := fun b o e => hsb.extBut b o (Nat.ne_of_lt (Heap.lt_size e)) (Heap.get?_push_of_some _ e)
  have C₄ := C₃'.grow (t := s₁.toks + ([] : List (Str × Value)).length) k
  have R₄ := R₃'.trans (Pres.more k)
  generalize hC : h₃.objs.size = C at hns hsb ⊢
  have hCb : c.h₀.get? C = none := by rw [← hC]; exact C₃'.base_none (Nat.le_refl _)
  have hCf : ∀ e ∈ c.fr, e.frame ≠ some C := fun e he q => Nat.lt_irrefl _ (hC ▸ C₃'.fr_lt he q)
  have hC1 : s₁.heap.get? C = none := by
    cases q : s₁.heap.get? C with
    | none => rfl
    | some ob =>
      exfalso
      by_cases m : C ∈ adr Γ₁
      · have := C₃'.below (a := C) (.tail _ (.tail _ m))
        rw [← hC] at this; exact Nat.lt_irrefl _ this
      · obtain ⟨o', e'⟩ := R₃'.alive q m
        have := Heap.lt_size e'
        rw [← hC] at this; exact Nat.lt_irrefl _ this
  have hCΓ : C ∉ adr ((it, o 0) :: (l, AO.list []) :: Γ₁) := fun m => by have := C₃'.below m; rw [← hC] at this; exact Nat.lt_irrefl _ this
  generalize hce : ({ newEnv scope C c.env.globals cl c.env.qual none .none (some c.env) builtinsNs with scope := relabel scope c.env } : Env) = ce
  have hcs : ce.scope = cs := by rw [← hce]; exact hrel
  have hcc : ce.cells = cl := by rw [← hce]; rfl
  have hcl : ce.locals = C := by rw [← hce]; rfl
  have hcf : ce.frame = c.env.frame := by rw [← hce]; rfl
  have G' : Gd (c.comp ce) := ⟨I.G.kin, I.G.prg, I.G.bat, I.G.sm, I.G.dig, I.G.top, I.G.hdl, I.G.frs, by obtain ⟨e0, r, L, h1, h2, h3⟩ := I.G.fr1; exact ⟨e0, r, L, h1, h2, hcf.trans h3⟩, by show ce.scope.kind = _; rw [← hce]; exact hkind, by show ce.globals = _; rw [← hce]; exact I.G.glb, by show ce.builtins = _; rw [← hce]; exact I.G.blt⟩
  have I' : In (c.comp ce) K D := ⟨G', I.K, I.dep, I.uni⟩
  have S₄ : Sat (c.comp ce) [(x, none)] ((it, o 0) :: (l, .list []) :: Γ₁) { s₁ with heap := h₄, toks := s₁.toks + ([] : List (Str × Value)).length } := ⟨C₄.comp, ⟨⟨_, by show h₄.Ns ce.locals _; rw [hcl]; exact hns, fun p hp => by cases List.mem_singleton.mp hp; trivial⟩, by simp⟩, by show ce.locals ∉ _; rw [hcl]; exact hCΓ, by show c.h₀.get? ce.locals = none; rw [hcl]; exact hCb⟩
  have hk : (c.comp ce).env.kindOf x = some .local := by show ce.scope.names.lookup x = _; rw [hcs, ← hrel]; exact lookup_relabel_local hx
  -- an exception within the block
  have err : ∀ {ρe : Loc} {Γe : Led} {se s' : Shared} {y : Value}, Sat (c.comp ce) ρe Γe se → Pres [C] Γ₁ s₁.heap Γe se.heap → PX (c.comp ce) (fIn (c.comp ce)) [] Γe se.heap E y s' → notedBy c.M c.A ce (fun e s' => R (.ref l) ce (.error e) s') y s' := by
    intro ρe Γe se s' y Se Pe hy
    unfold notedBy
    refine wpAny_mono (PX.noted (A := c.A) (F := fun T _ => T.isSome = true) (E' := fun _ _ => False) G' G'.frs hy fun _ _ _ => rfl) (fun _ s'' hx' => ?_) fun _ _ f => f.elim
    refine PX.use hx' fun e d Tt fl code told Γ' he F h1 h2 => ?_
    cases Tt with
    | none => cases h1
    | some t =>
      obtain ⟨⟨m, hn, _⟩, _⟩ := Se.loc
      have hLo : C ∉ adr Γe := by have := Se.lof; rw [show (c.comp ce).env.locals = C from hcl] at this; exact this
      have hn' : se.heap.Ns C m := by rw [show (c.comp ce).env.locals = C from hcl] at hn; exact hn
      have hns' := ns_slots hn' fun ob ho => F.P.keep C ob ho (fun m => nomatch m) hLo
      obtain ⟨ob, _, _, hob, _⟩ := id hn'
      refine bad l ce _ s'' hcf ⟨e, d, t, fl, code, told, Γ', he, ⟨F.S.uncomp, (Pe.trans (F.P.mono sub_nil)).drop hC1, (F.A.lift (X := [C]) Pe), F.eΓ, F.eb, F.tb⟩, ?_, ⟨m, by rw [hcl]; exact hns'⟩, h2⟩ (by rw [hcl]; exact hCb) (by rw [hcl]; exact hCf) (by rw [hcl]; exact hC1)
      rw [hcl]
      exact fun mm => (F.P.grow C mm).not hob hLo
  have loop : codeAny c.M c.A (.compLoop (.ListComp elt [⟨.Name x px, iter, ifs, 0⟩] scope pos) 0 (.ref it) (.ref l) ce) (R (.ref l) ce) { s₁ with heap := h₄, toks := s₁.toks + ([] : List (Str × Value)).length } := by
    refine codeAny_compLoop_tests (CompI (c.comp ce) C x it l o Γ₁ s₁.heap xs J) (fun k s' hI => ?_) xs.length ⟨0, none, [], Γ₁, rfl, S₄, R₄.mono sub_nil, J0⟩ (fun _ => rfl)
    refine hide fun Q1 E1 hQ1 hE1 => ?_
    obtain ⟨i, xv, ys, Γi, hki, S', P', hJ⟩ := hI
    obtain ⟨hI1, hI2⟩ := T.inv _ _ _ hJ
    cases hxi : xs[i]? with
    | none =>
      have hlen : i = xs.length := by rw [List.getElem?_eq_none_iff] at hxi; lia
      subst hlen
      refine src.stop S'.C.uncomp (src.mono hI1) fun h' C₅ R₅ => hQ1 _ _ ?_
      have S₅ : Sat (c.comp ce) [(x, xv)] ((l, .list ys) :: Γi) { s' with heap := h' } := S'.pres C₅.comp R₅
      exact fin l ce ys Γi _ hcf C₅ ((P'.trans (R₅.mono sub_nil)).drop hC1) hJ S₅.lof (by rw [hcl]; exact hCb) (by rw [hcl]; exact hCf) (by rw [hcl]; exact hC1) (S₅.loc.1.elim fun m hn => ⟨m, hn.1⟩)
    | some av =>
      have hi : i < xs.length := (List.getElem?_eq_some_iff.mp hxi).1
      refine src.next S'.C.uncomp (src.mono hI1) hxi fun w h' t C₅ R₅ hw => hQ1 _ _ ?_
      have S₅ : Sat (c.comp ce) [(x, xv)] ((it, o (i + 1)) :: (l, .list ys) :: Γi) { s' with heap := h', toks := t } := S'.pres C₅.comp R₅
      have P₅ := P'.trans (R₅.mono (sub_nil (X := [C])))
      have P₅' : Pres [(c.comp ce).env.locals] Γ₁ s₁.heap ((it, o (i + 1)) :: (l, .list ys) :: Γi) h' := by show Pres [ce.locals] _ _ _ _; rw [hcl]; exact P₅
      refine wpAny_assign_Name (S₅.stored (P := fun ρ => ρ = [(x, some av)]) G' hk P₅' hw ⟨_, .here, rfl⟩ fun ρ₆ s₆ S₆ P₆ _ hρ => ?_)
      subst hρ
      have P₆' : Pres [C] Γ₁ s₁.heap ((it, o (i + 1)) :: (l, .list ys) :: Γi) s₆.heap := by have : ce.locals = C := hcl; rw [← this]; exact P₆
      have Ht := T.turn i av ys Γi hxi hJ (c.comp ce) it l I' hcs hcc s₆ S₆
      refine wpAny_mono Ht (fun ok s₇ hg => ?_) fun y s' hy => err S₆ P₆' hy
      refine hg.use fun Γ₇ C₇ R₇ hok => ?_
      have S₇ := S₆.pres C₇ R₇
      have P₇ := P₆'.trans (R₇.mono (sub_nil (X := [C])))
      cases ok with
      | false =>
        obtain ⟨Γ₈, hsub, hJ'⟩ := hok
        exact ⟨k - 1, by lia, i + 1, _, ys, Γ₈, by lia, S₇.subl hsub, P₇.sub fun p hp => hsub.subset hp, hJ'⟩
      | true =>
        refine wpAny_mono (hok s₇ S₇) (fun w₈ s₈ hg₈ => ?_) fun y s' hy => err S₇ P₇ hy
        refine hide fun Q2 E2 hQ2 hE2 => ?_
        obtain ⟨Γ₈, C₈, R₈, y, hy, Γ₉, hsub, hJ'⟩ := hg₈
        have S₈ := (S₇.pres C₈ R₈).subl hsub
        have P₈ := (P₇.trans (R₈.mono (sub_nil (X := [C])))).sub fun p hp => hsub.subset hp
        have U : Up l (.list (ys ++ [y])) ((it, o (i + 1)) :: (l, .list ys) :: Γ₉) ((it, o (i + 1)) :: (l, .list (ys ++ [y])) :: Γ₉) := .there .here
        have Ha := HC_append (c := c.comp ce) (E := E) (Q := fun _ Γ' => Γ' = (it, o (i + 1)) :: (l, .list (ys ++ [y])) :: Γ₉) (.there .here) hI2 U rfl s₈ (.builtin "list.append") [.ref l, w₈] S₈.C (.bi _) (.cons (.ref _) (.cons hy .nil))
        refine wpAny_mono Ha (fun _ s₉ hg₉ => hQ2 _ _ ?_) fun z s' hz => hE2 _ _ (err S₈ P₈ (hz.flag fOut_in))
        obtain ⟨Γ₁₀, C₉, R₉, _, _, hΓ⟩ := hg₉
        subst hΓ
        exact ⟨k - 1, by lia, i + 1, _, ys ++ [y], Γ₉, by lia, S₈.pres C₉ R₉, P₈.trans (R₉.mono (sub_nil (X := [C]))), hJ'⟩
  exact codeAny_compStart_list loop (src.self C₄ loop)
end
section
variable {c : Cx} {K : Frag} {D : Nat} {E : EP} {sc : Scope} {ρ : Loc} {Γ : Led} {Q : AV → Led → Prop} {QF : AF → Loc → Led → Prop}
theorem Fly.butNs {C e d t : Addr} {fl : Value} {code told : Str} {Γ₁ Γ' : Led} {h h' : Heap} {s : Shared} {m : Str → Option Value} (F : Fly c [] Γ₁ h s e d (some t) fl code told Γ') (hn : s.heap.Ns C m) (hb : c.h₀.get? C = none) (hΓ : C ∉ adr ((d, excD code told) :: Γ'))
    (hf : ∀ e ∈ c.fr, e.frame ≠ some C) (hh : h.get? C = none) (hs : Heap.SameBut C s.heap h') : Fly c [] Γ₁ h { s with heap := h' } e d (some t) fl code told Γ' := by
  obtain ⟨S, P, ⟨⟨o, vs, a0, ho, hc, hdct, hd, h0, h1⟩, ⟨tn, te, oT, ts, hT, hdT, h3⟩, en, ed⟩, z1, z2, z3⟩ := F
  obtain ⟨oC, es, ep, hC, hdC, _⟩ := id hn
  have ne : ∀ {a : Addr} {oa : Obj} {us : Array Value}, s.heap.get? a = some oa → oa.data = .fields us → a ≠ C := fun ha hda q => by
    rw [q, hC] at ha; cases ha; rw [hdC] at hda; cases hda
  exact ⟨S.butNs hn hb hΓ hf hs, P.fld (.inr hh) hs, ⟨⟨o, vs, a0, (hs.2 e (ne ho hd)).trans ho, hc, hdct, hd, h0, h1⟩, ⟨tn, te, oT, ts, (hs.2 t (ne hT hdT)).trans hT, hdT, h3⟩, en, ed⟩, z1, z2, z3⟩
theorem comp_bad {C : Addr} {ce : Env} {y : Value} {Γ₁ : Led} {h : Heap} {s' : Shared} {E' : Value → Shared → Prop} (G : Gd c) (hce : ce.locals = C) (hcf : ce.frame = c.env.frame) (p : PXC c C Γ₁ h E y s') (hb : c.h₀.get? C = none) (hf : ∀ e ∈ c.fr, e.frame ≠ some C) (hh : h.get? C = none)
    (k : ∀ y s', PX c (fIn c) [] Γ₁ h E y s' → E' y s') : ∃ m, s'.heap.Ns ce.locals m ∧ ∀ h', Heap.SameBut ce.locals s'.heap h' → wpAny c.M c.A (passOn "comprehension.variables-let-go" y ce : Sem Value) (fun _ _ => False) E' { s' with heap := h' } := by
  obtain ⟨e, d, t, fl, code, told, Γ', rfl, F, hΓ, ⟨m, hn⟩, hE⟩ := p
  subst hce
  refine ⟨m, hn, fun h' hs => (F.butNs hn hb hΓ hf hh hs).passOn fun s'' F' => k _ _ ?_⟩
  obtain ⟨e0, r, L, h1, h2, h3⟩ := G.fr1
  exact ⟨e, d, _, _, code, told, Γ', rfl, F', .inr (.inr ⟨L, h3, by rw [hcf, h3]; rfl⟩), hE⟩
noncomputable abbrev HE_Comp_k1 (c : Cx) (K : Frag) (D : Nat) (Q : AV → Led → Prop) (E : EP) (elt : Expr) (x : Str) (ifs : List Expr) (csc : Scope) (cl : List (Str × Addr)) := fun (a : AV) (Γ₁ : Led) => ∃ xs o Inv J, Src c a xs o Inv ∧ J 0 [] Γ₁ ∧ CompT c K D csc cl x ifs elt xs o Inv J E ∧ ∀ l ys Γ', J xs.length ys Γ' → Q (.ref l) ((l, .list ys) :: Γ')
theorem HE_Comp (I : In c K D) {elt iter : Expr} {x : Str} {px : Pos} {ifs : List Expr} {scope csc : Scope} {cs cl : List (Str × Addr)} {pos : Pos} (hs : c.env.scope = sc) (hc : c.env.cells = cs)
    (hfold : ∀ x, foldedSetIterable iter c.env x = pure x) (hclos : ∀ e : Env, e.scope = sc → e.cells = cs → closureFor scope e = pure cl) (hrel : ∀ e : Env, e.scope = sc → relabel scope e = csc)
    (hcell : ∀ y ∈ scope.names, y.2 ≠ .cell) (hkind : scope.kind = .function) (hnames : ∀ y ∈ scope.names, y.2 = .local → scope.names.lookup y.1 = some .local) (hx : scope.names.lookup x = some .local)
    (q : HE c iter ρ Γ (HE_Comp_k1 c K D Q E elt x ifs csc cl) E) :
    HE c (.ListComp elt [⟨.Name x px, iter, ifs, 0⟩] scope pos) ρ Γ Q E := fun s S => by
  show wpAny c.M c.A (eval (.ListComp elt [⟨.Name x px, iter, ifs, 0⟩] scope pos) c.env) _ _ s
  rw [eval_ListComp]
  refine comp_run (use := none) rfl hfold (hclos _ hs hc) hkind hnames (vuse S (.refl ..) (q s S) fun v a s₁ Γ₁ S₁ P₁ _ hv hq => ?_)
  obtain ⟨xs, o, Inv, J, src, J0, T, fin⟩ := hq
  refine comp_core I (R := fun acc ce r s' => CompEnd c.M c.A (PX c (fIn c) [] Γ s.heap E) none (PG c [] Γ s.heap (RV Q)) acc ce r s') hcell hkind hx (hrel _ hs) S₁.C hv src J0 T (fun l ce ys Γ' s' hcf C' P' hJ h1 h2 h3 h4 h5 => ?_) (fun l ce y s' hcf p h2 h3 h4 => ?_)
  · obtain ⟨m, hn⟩ := h5
    refine ⟨m, hn, fun h' hs => ⟨_, C'.butNs (t := s'.toks) hn h2 h1 h3 hs, P₁.trans (P'.fld (.inr h4) hs), _, .ref _, fin l ys Γ' hJ⟩⟩
  · exact comp_bad I.G rfl hcf p h2 h3 h4 fun y s' hy => hy.lift P₁
/-- a comprehension whose list goes to a name of the same line -/
noncomputable abbrev HS_AssignComp_k1 (c : Cx) (K : Frag) (D : Nat) (ρ : Loc) (QF : AF → Loc → Led → Prop) (E : EP) (elt : Expr) (x : Str) (y : Str) (ifs : List Expr) (csc : Scope) (cl : List (Str × Addr)) := fun (a : AV) (Γ₁ : Led) => ∃ xs o Inv J, Src c a xs o Inv ∧ J 0 [] Γ₁ ∧ CompT c K D csc cl x ifs elt xs o Inv J E ∧ ∀ l ys Γ', J xs.length ys Γ' → HSto y (.ref l) ρ (fun ρ' => QF .next ρ' ((l, .list ys) :: Γ'))
theorem HS_AssignComp (I : In c K D) {elt iter : Expr} {x y : Str} {px py : Pos} {ifs : List Expr} {scope csc : Scope} {cs cl : List (Str × Addr)} {pos spos : Pos} (hs : c.env.scope = sc) (hc : c.env.cells = cs)
    (hsw : ∀ e : Env, e.scope = sc → swapsWith (.ListComp elt [⟨.Name x px, iter, ifs, 0⟩] scope pos) (some (.Name y py)) spos.line e = pure true)
    (hfold : ∀ x, foldedSetIterable iter c.env x = pure x) (hclos : ∀ e : Env, e.scope = sc → e.cells = cs → closureFor scope e = pure cl) (hrel : ∀ e : Env, e.scope = sc → relabel scope e = csc)
    (hcell : ∀ y ∈ scope.names, y.2 ≠ .cell) (hkind : scope.kind = .function) (hnames : ∀ y ∈ scope.names, y.2 = .local → scope.names.lookup y.1 = some .local) (hx : scope.names.lookup x = some .local) (hy : sc.names.lookup y = some .local)
    (q : HE c iter ρ Γ (HS_AssignComp_k1 c K D ρ QF E elt x y ifs csc cl) E) :
    HS c (.Assign [.Name y py] (.ListComp elt [⟨.Name x px, iter, ifs, 0⟩] scope pos) spos) ρ Γ QF E := fun s S => by
  show wpAny c.M c.A (exec (.Assign [.Name y py] (.ListComp elt [⟨.Name x px, iter, ifs, 0⟩] scope pos) spos) c.env) _ _ s
  rw [exec_Assign_Name_used _ _ _ _ (hsw _ hs)]
  refine wpAny_bind (wpAny_standAt (wpAny_bind ?_))
  show wpAny _ _ (do let _ ← comprehension (.ListComp elt [⟨.Name x px, iter, ifs, 0⟩] scope pos) scope c.env _ (newList []) false (eval iter c.env) (some (assign (.Name y py) c.env))) _ _ s
  refine wpAny_bind (wpAny_mono (Q := fun _ s' => PG c [c.env.locals] Γ s.heap (RF c QF) .next s') (E := PX c (fIn c) [c.env.locals] Γ s.heap E) ?_ (fun _ s' hq => wpAny_pure (wpAny_pure hq)) fun _ _ e => e)
  refine comp_run (use := some _) rfl hfold (hclos _ hs hc) hkind hnames (vuse S (.refl ..) (q s S) fun v a s₁ Γ₁ S₁ P₁ _ hv hq => ?_)
  obtain ⟨xs, o, Inv, J, src, J0, T, fin⟩ := hq
  refine comp_core I (R := fun acc ce r s' => CompEnd c.M c.A (PX c (fIn c) [c.env.locals] Γ s.heap E) (some (assign (.Name y py) c.env)) (fun _ s' => PG c [c.env.locals] Γ s.heap (RF c QF) .next s') acc ce r s') hcell hkind hx (hrel _ hs) S₁.C hv src J0 T (fun l ce ys Γ' s' hcf C' P' hJ h1 h2 h3 h4 h5 => ?_) (fun l ce y s' hcf p h2 h3 h4 => ?_)
  · obtain ⟨m, hn⟩ := h5
    refine ⟨m, ?_⟩
    have S' := S₁.pres C' P'
    refine wpAny_assign_Name (S'.stored I.G (kind_of hs hy) (.refl ..) (.ref l) (fin l ys Γ' hJ) fun ρ' s'' S'' P'' _ hq' => ?_)
    have hne : ce.locals ∉ [c.env.locals] := fun mm => by
      obtain ⟨⟨mL, hL, _⟩, _⟩ := S₁.loc
      obtain ⟨oL, _, _, hoL, _⟩ := hL
      rw [List.mem_singleton.mp mm, hoL] at h4; cases h4
    have hn' := ns_slots hn fun ob ho => P''.keep _ ob ho hne h1
    refine ⟨m, hn', fun h' hs' => ?_⟩
    have C₃ := S''.C.butNs (t := s''.toks) hn' h2 h1 h3 hs'
    have P₃ : Pres [c.env.locals] Γ s.heap ((l, .list ys) :: Γ') h' := P₁.trans (((P'.mono (sub_nil (X := [c.env.locals]))).trans P'').fld (.inr h4) hs')
    have hP : Pres [] ((l, .list ys) :: Γ') s''.heap ((l, .list ys) :: Γ') h' → True := fun _ => trivial
    refine ⟨_, C₃, P₃, .next, ρ', trivial, ?_, S''.lof, hq'⟩
    obtain ⟨⟨mL, hL, hm⟩, nd⟩ := S''.loc
    have hneL : c.env.locals ≠ ce.locals := fun e => hne (by rw [← e]; exact .head _)
    refine ⟨⟨mL, hL.sameBut hs' hneL, fun p hp => (hm p hp).tups (tups_store hn' hs')⟩, nd⟩
  · exact comp_bad I.G rfl hcf p h2 h3 h4 fun y s' hy => (hy.mono sub_nil).lift P₁
end
/-! raise -/
noncomputable abbrev bmX : List Value := [.type "Exception", .type "BaseException", .type "object"]
noncomputable abbrev excO (d t : Addr) : Obj := { cls := .ref 41, dict := some d, data := .fields #[.ref t, .none, .none, .none, .bool false, .none] }
section
variable {M : Model} {A : Around} {E : Value → Shared → Prop} {env : Env}
variable {nm q : Str} {N : Addr} {bs : List Value} {hdct : Bool} {sn : List Str} {sub : List Value} {ab : Bool} {col : Option Bool} {dd : Option Addr} {k0 k1 k2 k3 k5 : Option Value} {newId : String}
theorem raise_made {s : Shared} {x : Sem Value} {Q : Flow → Shared → Prop} (hh : A.handled = none)
    (h : wpAny M A x (fun v s₁ => ∃ e d t, v = .ref e ∧ s₁.heap.get? 41 = some (excClassObj nm q 41 N bs bmX hdct sn sub ab col dd k0 k1 k2 k3 k5 newId) ∧ s₁.heap.get? e = some (excO d t) ∧ E (.ref e) s₁) E s) :
    wpAny M A (raiseStmt env (some x) none) Q E s := by
  have hcB : (Value.ref 41 :: bmX).contains (.type "BaseException") = true := by decide
  unfold raiseStmt
  refine wpAny_bind (wpAny_mono h (fun v s₁ h₁ => ?_) fun _ _ x => x)
  obtain ⟨e, d, t, rfl, hC, he, hE⟩ := h₁
  obtain ⟨hp, g, dr, tk, os⟩ := s₁
  repeat (first | with_reducible refine wpAny_loadPart_at he ?_ | with_reducible refine wpAny_loadPart_at hC ?_ | (with_reducible refine wpAny_isSubtype_exc hC ?_; rw [hcB]) | wp_step)
  exact wpAny_raiseNew_none hh hE
end
section
variable {c : Cx} {K : Frag} {D : Nat} {E : EP} {ρ : Loc} {Γ : Led} {QF : AF → Loc → Led → Prop}
/-- the class of the program's exceptions -/
noncomputable def ClsOk (K : Frag) : Prop := ∃ nm q N bs hdct sn sub ab col dd k0 k1 k2 k3 k5, List.lookup 41 K = some (excClassObj nm q 41 N bs bmX hdct sn sub ab col dd k0 k1 k2 k3 k5 "Exception.__new__")
noncomputable abbrev HS_Raise_k1 (E : EP) := fun (a : AV) (Γ₁ : Led) => ∃ x d t code told Γ', a = .ref x ∧ Γ₁ = (x, .obj (excO d t)) :: (d, excD code told) :: Γ' ∧ E code Γ'
theorem HS_Raise (I : In c K D) (hK : ClsOk K) {e : Expr} {pos : Pos} (q : HE c e ρ Γ (HS_Raise_k1 E) E) :
    HS c (.Raise (some e) none pos) ρ Γ QF E := fun s S => by
  obtain ⟨nm, qn, N, bs, hdct, sn, sub, ab, col, dd, k0, k1, k2, k3, k5, hC⟩ := hK
  show wpAny c.M c.A (exec (.Raise (some e) none pos) c.env) _ _ s
  rw [arm_exec_Raise]
  have key : wpAny c.M c.A (do let v ← eval e c.env; standAt pos; pure v) (fun v s₁ => ∃ e d t, v = .ref e ∧ s₁.heap.get? 41 = some (excClassObj nm qn 41 N bs bmX hdct sn sub ab col dd k0 k1 k2 k3 k5 "Exception.__new__") ∧ s₁.heap.get? e = some (excO d t) ∧ PX c (fIn c) [c.env.locals] Γ s.heap E (.ref e) s₁)
      (PX c (fIn c) [c.env.locals] Γ s.heap E) s := by
    refine wpAny_bind (vuse S (.refl ..) (q s S) fun v a s₁ Γ₁ S₁ P₁ _ hv hq => wpAny_bind (wpAny_standAt (wpAny_pure ?_)))
    obtain ⟨x, d, t, code, told, Γ', rfl, rfl, hE⟩ := hq
    cases hv.ref'
    have hO : s₁.heap.get? x = some (excO d t) := (S₁.C.led _ (.head _)).1
    have nd := List.nodup_cons.mp S₁.C.nod
    have hxd : x ≠ d := fun e => nd.1 (e ▸ .head _)
    refine ⟨x, d, t, rfl, S₁.C.inK I _ _ hC, hO, ⟨x, d, none, .none, code, told, Γ', rfl, ⟨S₁.C.subl .tail, P₁.sub fun p hp => .tail _ hp, ⟨⟨_, _, _, hO, rfl, rfl, rfl, rfl, rfl⟩, trivial, P₁.grow x (.head _), hxd⟩, nd.1, S₁.C.new _ (.head _), fun _ h => nomatch h⟩, .inl rfl, hE⟩⟩
  first
    | exact wpAny_bind (wpAny_standAt (raise_made I.G.hdl key))
    | (simp only [evalOpt, Option.map]; exact wpAny_bind (wpAny_standAt (raise_made I.G.hdl key)))
    | (show wpAny c.M c.A (do standAt pos; raiseStmt c.env (some (do let v ← eval e c.env; standAt pos; pure v)) none) _ _ s; exact wpAny_bind (wpAny_standAt (raise_made I.G.hdl key)))
end
section
variable {prog : Program} {w : World} {A : Around} {s : Shared} {E : Value → Shared → Prop}
theorem own_stack {cd : Code} {Q : List (Code × Pos) → Shared → Prop} (h : ∀ p below, Q ((cd, p) :: below) s) : wpOwn (model prog w) A cd stack Q E s := fun Γ p hc hΓ => by
  show Q ((Γ.code, p) :: Γ.below) s
  rw [hc]; exact h p Γ.below
theorem own_comps {body : List Stmt} {env : Env} {Q : List Env → Shared → Prop} (h : Q [] s) : wpOwn (model prog w) A (.func body env) comprehensionsAround Q E s := by
  unfold comprehensionsAround callersCodes
  refine wpOwn_bind (wpOwn_bind (own_stack fun p below => ?_))
  have hp : pastTheWaiting ((Code.func body env, p) :: below) = (Code.func body env, p) :: pastTheWaiting.go false (some (.func body env)) below := rfl
  rw [hp]
  have h1 : (((((Code.func body env, p) :: below).map (·.1)).findSome? (·.env?)).map (·.frame) != ((((Code.func body env, p) :: pastTheWaiting.go false (some (.func body env)) below).map (·.1)).findSome? (·.env?)).map (·.frame)) = false := by
    exact bne_self_eq_false (a := Option.map Env.frame (some env))
  dsimp only
  rw [h1]
  refine wpOwn_of_wpAny (wpAny_pure (wpOwn_of_wpAny (wpAny_pure ?_)))
  exact h
theorem super_base {body : List Stmt} {env : Env} {p1 p2 : Pos} {whole : Sem Value} {Q : Value → Shared → Prop} {f cd : Addr} {of ocd : Obj} {fd : FuncData} {first : Arg} {vs : Array Value} {file : Str} {t : Tok} {cls self : Value} {name : Str}
    (hn : (name == "__class__") = false) (hk1 : env.kindOf "super" = some .globalImplicit) (hk2 : env.kindOf "__class__" = some .free) (hf : env.func = some f) (hfo : s.heap.get? f = some of) (hfd : of.data = .func fd)
    (hfirst : (fd.params.posonlyargs ++ fd.params.args).head? = some first) (hc : env.code = .ref cd) (hcd : s.heap.get? cd = some ocd) (hcdd : ocd.data = .fields vs) (hv2 : vs[2]? = some (.str file t)) (hprog : (prog.main.file == file) = true) (htop : prog.main.scope.names.lookup (Str.ofString "super") = none)
    (h1 : ∀ Q', Q' (.type "super") s → wpAny (model prog w) (A.deeper env) (loadName env "super") Q' E s) (h2 : ∀ Q', Q' cls s → wpAny (model prog w) (A.deeper env) (loadName env "__class__") Q' E s) (h3 : ∀ Q', Q' self s → wpAny (model prog w) (A.deeper env) (loadName env first.arg) Q' E s)
    (h4 : ∀ Q', Q' true s → wpAny (model prog w) (A.deeper env) (isType cls) Q' E s)
    (next : wpAny (model prog w) (A.deeper env) (call (.type "super") [cls, self]) Q E s) :
    wpOwn (model prog w) A (.func body env) (attributeBase (.Call (.Name "super" p1) [] [] p2) name env whole) Q E s := by
  unfold attributeBase
  dsimp only
  have hz : (("super" : Str) != ("super" : Str) || name == "__class__" || env.kindOf "super" != some .globalImplicit || env.kindOf "__class__" != some .free) = false := by
    rw [hn, hk1, hk2]; simp
  rw [if_neg (by rw [hz]; decide)]
  rw [hf]
  dsimp only [Option.isSome_some]
  rw [if_pos rfl]
  refine wpOwn_bind (wpOwn_of_wpAny (wpAny_pure ?_))
  rw [hf]
  dsimp only
  rw [if_neg (by rw [hk2]; simp)]
  unfold funcData
  refine wpOwn_bind (wpOwn_of_wpAny ?_)
  refine wpAny_bind (wpAny_load hfo ?_)
  rw [hfd]
  refine wpAny_pure ?_
  rw [hfirst]
  dsimp only
  refine wpOwn_bind (wpOwn_of_wpAny (wpAny_askSetting ?_))
  rw [hc]
  refine wpOwn_bind (wpOwn_of_wpAny (wpAny_field hcd hcdd hv2 ?_))
  dsimp only
  rw [show (model prog w).prog = prog from rfl, if_pos hprog]
  dsimp only
  rw [htop]
  dsimp only [Option.isSome_none]
  rw [if_neg (by decide)]
  refine wpOwn_bind (wpOwn_of_wpAny (wpAny_rule ?_))
  refine wpOwn_bind (wpOwn_of_wpAny (wpAny_standAt ?_))
  refine wpOwn_bind (wpOwn_of_wpAny (h1 _ ?_))
  refine wpOwn_bind (wpOwn_of_wpAny (h2 _ ?_))
  refine wpOwn_bind (own_comps ?_)
  have hh : Env.holderOf env [] first.arg = env := rfl
  rw [hh]
  refine wpOwn_bind (wpOwn_of_wpAny (h3 _ ?_))
  refine wpOwn_bind (wpOwn_of_wpAny (h4 _ ?_))
  rw [if_pos (by decide)]
  exact wpOwn_of_wpAny next
end
section
variable {c : Cx} {K : Frag} {D : Nat} {E : EP} {sc : Scope} {ρ : Loc} {Γ : Led} {Q : AV → Led → Prop} {QF : AF → Loc → Led → Prop}
/-! another surrounding, the same heap -/
noncomputable def Cx.at (c : Cx) (A : Around) : Cx := { c with A := A }
theorem SatC.at {A : Around} {s : Shared} (S : SatC c Γ s) : SatC (c.at A) Γ s := ⟨S.base, S.gens, S.os, S.led, S.new, S.nod, S.frs, S.off⟩
theorem SatC.unat {A : Around} {s : Shared} (S : SatC (c.at A) Γ s) : SatC c Γ s := ⟨S.base, S.gens, S.os, S.led, S.new, S.nod, S.frs, S.off⟩
theorem Fly.unat {A : Around} {X : List Addr} {h : Heap} {s : Shared} {a d : Addr} {T : Option Addr} {fl : Value} {code told : Str} {Γ' : Led} (F : Fly (c.at A) X Γ h s a d T fl code told Γ') : Fly c X Γ h s a d T fl code told Γ' := ⟨F.S.unat, F.P, F.A, F.eΓ, F.eb, F.tb⟩
theorem PX.unat {A : Around} {F : XF} {X : List Addr} {h : Heap} {s : Shared} {x : Value} (p : PX (c.at A) F X Γ h E x s) : PX c F X Γ h E x s := by
  obtain ⟨e, d, T, fl, code, told, Γ', hx, Z, h3, h4⟩ := p
  exact ⟨e, d, T, fl, code, told, Γ', hx, Z.unat, h3, h4⟩
theorem In.at {A : Around} (I : In c K D) (h1 : A.handled = none) (h2 : A.frames = some c.fr) (h3 : A.depth ≤ D + 1) (h4 : A.units ≤ 3 * (D + 1)) : In (c.at A) K (D + 1) :=
  ⟨⟨I.G.kin, I.G.prg, I.G.bat, I.G.sm, I.G.dig, I.G.top, h1, h2, I.G.fr1, I.G.kind, I.G.glb, I.G.blt⟩, I.K, h3, h4⟩
theorem tc_weight (C : Addr) (vs : List Value) : (Code.builtin "type.__call__" ⟨.ref C :: vs, []⟩).weight = 1 ∧ (Code.builtin "type.__call__" ⟨.ref C :: vs, []⟩).cUnits ≤ 1 ∧ (Code.builtin "type.__call__" ⟨.ref C :: vs, []⟩).envs = [] := by
  refine ⟨rfl, ?_, rfl⟩
  exact Nat.le_refl _
theorem In.tc (I : In c K D) (C : Addr) (vs : List Value) : In (c.at (c.A.under (.builtin "type.__call__" ⟨.ref C :: vs, []⟩))) K (D + 1) := by
  obtain ⟨h1, h2, h3⟩ := tc_weight C vs
  refine I.at I.G.hdl ?_ ?_ ?_
  · show pushEnvs (Code.builtin "type.__call__" ⟨.ref C :: vs, []⟩).envs c.A.frames = some c.fr; rw [h3]; exact I.G.frs
  · show c.A.depth + _ ≤ _; rw [h1]; exact Nat.succ_le_succ I.dep
  · show c.A.units + _ ≤ _; have := I.uni; lia
/-! an object of the program's own class is made -/
theorem or_newInst {prog : Program} {w : World} {h : Heap} {C d x : Addr} (hx : h.get? x = some (instObj C d)) : OR prog w h x (.inst C d) := ⟨_, hx⟩
theorem or_newDict {prog : Program} {w : World} {h : Heap} {d : Addr} (hd : h.get? d = some emptyDict) : OR prog w h d (.sd []) := by
  refine ⟨[], ⟨_, #[], 0, hd, ⟨rfl, rfl, rfl⟩, rfl, ?_, ?_, .nil⟩, .nil⟩
  · intro e he; simp at he
  · first | exact .nil | (constructor)
theorem HC_new (I : In c K D) {C fI : Addr} {as : List AV} (hm : makesIn K C = true) (hi : findIn K (.ref C) "__init__" = some (some (.ref fI))) (hf : typeIn K (.ref fI) = some (.type "function"))
    (q : ∀ c' x d, In c' K (D + 1) → HCc c' (.ref fI) (.ref x :: as) ((x, .inst C d) :: (d, .sd []) :: Γ) (fun v Γ' => v = .none ∧ Q (.ref x) Γ') E) : HC c (.ref C) as Γ Q E := fun s vf vs S hvf hvs => by
  cases hvf.ref'
  have X := S.inK I
  obtain ⟨hh, g, dr, t, os⟩ := s
  refine wpAny_call (make_core (makes_of X hm) (looks_findIn X hi) (fun self => bind_fn X self hf) (.inl rfl) ?_)
  have I' := I.tc C vs
  have S1 := S.pushed (o := emptyDict) (ao := .sd []) (or_newDict (Heap.get?_push_size _ rfl))
  have P1 := Pres.pushed Γ hh emptyDict (.sd [])
  have S2 := S1.pushed (o := instObj C hh.objs.size) (ao := .inst C hh.objs.size) (or_newInst (Heap.get?_push_size _ rfl))
  have P2 := Pres.pushed ((hh.objs.size, .sd []) :: Γ) (hh.push emptyDict) (instObj C hh.objs.size) (.inst C hh.objs.size)
  have P := P1.trans P2
  have hz : (hh.push emptyDict).objs.size = hh.objs.size + 1 := Heap.size_push ..
  dsimp only at S2 P
  rw [hz] at S2 P
  refine codeAny_mono (q _ (hh.objs.size + 1) hh.objs.size I' _ (.ref fI) (.ref (hh.objs.size + 1) :: vs) S2.at (.ref _) (.cons (.ref _) (hvs.tups (S.tups0 P)))) fun r s' hr => ?_
  cases r with
  | error e => exact PX.lift P hr.unat
  | ok f => cases f with
    | ret v =>
      obtain ⟨Γ', S', P', a, hv, rfl, hq⟩ := hr
      exact ⟨hv.none', Γ', S'.unat, P.trans P', _, .ref _, hq⟩
    | _ => exact hr.elim
end
section
variable {c : Cx} {K : Frag} {D : Nat} {E : EP} {sc : Scope} {ρ : Loc} {Γ : Led} {Q : AV → Led → Prop} {QF : AF → Loc → Led → Prop}
/-! a function one of whose names is a cell -/
theorem bindL_lookup {kindOf : Str → Option NameKind} {x : Str} (hx : kindOf x = some .local) : ∀ {bs : List (Str × Value)} {m : Str → Option Value}, (bs.map (·.1)).Nodup → bindL kindOf bs m x = (bs.lookup x).or (m x)
  | [], m, _ => by simp [bindL]
  | (n, v) :: r, m, hn => by
    rw [List.map_cons, List.nodup_cons] at hn
    rw [bindL, bindL_lookup hx hn.2, List.lookup_cons]
    cases e : x == n with
    | true =>
      have e' : x = n := eq_of_beq e
      subst e'
      rw [if_pos hx, lookup_none hn.1]; simp
    | false =>
      have e' : ¬ x = n := fun q => by rw [q, beq_self_eq_true] at e; cases e
      split <;> simp [e']
theorem bindC_lookup {kindOf : Str → Option NameKind} {x : Str} (hx : ¬ kindOf x = some .local) : ∀ {bs : List (Str × Value)} {m : Str → Option Value}, (bs.map (·.1)).Nodup → bindC kindOf bs m x = (bs.lookup x).or (m x)
  | [], m, _ => by simp [bindC]
  | (n, v) :: r, m, hn => by
    rw [List.map_cons, List.nodup_cons] at hn
    rw [bindC, bindC_lookup hx hn.2, List.lookup_cons]
    cases e : x == n with
    | true =>
      have e' : x = n := eq_of_beq e
      subst e'
      rw [if_neg hx, lookup_none hn.1]; simp
    | false =>
      have e' : ¬ x = n := fun q => by rw [q, beq_self_eq_true] at e; cases e
      split <;> simp [e']
theorem lookup_one {κ β : Type} [BEq κ] [LawfulBEq κ] {x : κ} {a : β} : [(x, a)].lookup x = some a := by simp [List.lookup_cons]
theorem lt1_ne {L i : Nat} (e : L = L + 1 + i) : False := Nat.lt_irrefl L (by have h : L < L + 1 + i := Nat.lt_of_lt_of_le (Nat.lt_succ_self L) (Nat.le_add_right _ _); rw [← e] at h; exact h)
theorem size_le {n L i : Nat} (hL : n = L) : n ≤ L + 1 + i := hL ▸ Nat.le_trans (Nat.le_succ _) (Nat.le_add_right _ _)
theorem SatC.newNone {s : Shared} {L : Addr} {i : Nat} (S : SatC c Γ s) (hL : s.heap.objs.size = L) : s.heap.get? (L + 1 + i) = none := by
  cases q : s.heap.get? (L + 1 + i) with
  | none => rfl
  | some o => exact absurd (Heap.lt_size q) (Nat.not_lt.mpr (size_le hL))
theorem SatC.newNot {s : Shared} {L : Addr} {i : Nat} (S : SatC c Γ s) (hL : s.heap.objs.size = L) : L + 1 + i ∉ adr Γ := fun m => absurd (S.below m) (Nat.not_lt.mpr (size_le hL))
theorem SatC.newCell {s : Shared} {env : Env} {h₀ : Heap} {tk : Nat} {Γ₁ : Led} {L : Addr} {ov : Option AV} {i : Nat} (S : SatC c Γ s) (hL : s.heap.objs.size = L) (hfr : env.frame = some L) (S' : SatC (c.enter env) Γ₁ { s with heap := h₀, toks := tk }) (hn : L + 1 + i ∉ adr Γ₁) (hc : OR c.prog c.w h₀ (L + 1 + i) (.cell ov)) :
    SatC (c.enter env) ((L + 1 + i, .cell ov) :: Γ₁) { s with heap := h₀, toks := tk } :=
  S'.take hc (S.base_none (size_le hL)) hn fun e he q => by
    rcases List.mem_cons.mp he with rfl | he
    · rw [hfr] at q; exact lt1_ne (Option.some.inj q)
    · exact absurd (S.fr_lt he q) (Nat.not_lt.mpr (size_le hL))
theorem cell_or {P : Program} {w : World} {h : Heap} {a : Addr} {o : Option Value} {xv : AV} (hc : h.IsCell a o) (r : LocR h o (some xv)) : OR P w h a (.cell (some xv)) := by
  cases o with
  | none => exact r.elim
  | some v => exact ⟨some v, hc, r⟩
theorem HCc_cell (I : In c K D) {f : Addr} {o : Obj} {fd : FuncData} {body : List Stmt} {as : List AV} {ρ₀ : Loc} {x : Str} {xv : AV} (hD : D + 1 < recursionLimit)
    (ho : List.lookup f K = some o) (hdata : o.data = .func fd) (hbody : fd.body = .stmts body) (hcd : codeIn K fd.code fd.qualname = true)
    (hbind : ∀ s vs, vs.length = as.length → BindsTo s fd ⟨vs, []⟩ ((fd.params.args.map (·.arg)).zip vs)) (hcs : ∀ n, cellsFrom n fd.scope.names [] = [(x, n)]) (hloc : ∀ n ∈ fd.params.args.map (·.arg), fd.scope.names.lookup n = some .local ∨ n = x) (hxc : fd.scope.names.lookup x = some .cell) (hrev : (fd.params.args.map (·.arg)).Nodup)
    (hρ : LocsOf fd.scope.names ((fd.params.args.map (·.arg)).zip as) ρ₀) (hρl : ∀ p ∈ ρ₀, fd.scope.names.lookup p.1 = some .local) (hnod : (ρ₀.map (·.1)).Nodup) (hxa : Lk x ((fd.params.args.map (·.arg)).zip as) xv) (hcl : fd.closure = [])
    (hgl : fd.globals = mainGlobals) (hbl : fd.builtins = builtinsNs) (hco : fd.scope.isCoroutine = false) (hgen : fd.scope.isGenerator = false) (hk : fd.scope.kind = .function)
    (q : ∀ c' a, In c' K (D + 1) → c'.env.scope = fd.scope → c'.env.cells = [(x, a)] → HB c' body ρ₀ ((a, .cell (some xv)) :: Γ) (Ret Q) E) : HCc c (.ref f) as Γ Q E := fun s vf vs S hf hvs => by
  cases hf.ref'
  refine codeAny_call_function (Nat.lt_of_le_of_lt I.dep (by lia)) (S.inK I _ _ ho) hdata hco hgen hbody (codeRec_of (S.inK I) hcd) (hbind s vs hvs.length _ _ _ _ ?_)
  rw [hcl, hgl]
  have hnz : (((fd.params.args.map (·.arg)).zip vs).map (·.1)).Nodup := nodup_zip hrev
  refine wpAny_newFunctionEnv_cells hk (fun y hy => ?_) (fun env he s' x' => ?_)
  · obtain ⟨n, v⟩ := y
    rcases hloc n (List.of_mem_zip hy).1 with h | rfl
    · exact .inl h
    · exact .inr ⟨hxc, by rw [hcs]; simp [List.lookup_cons]⟩
  obtain ⟨⟨⟨h₀, tk, rfl⟩, hns, keep, fresh⟩, cell, apart, above⟩ := x'
  refine ⟨(S.nolimit I.G).keeps keep, ?_⟩
  generalize hL : s.heap.objs.size = L at he fresh
  have hcells : env.cells = [(x, L + 1 + 0)] := by rw [he]; exact hcs _
  have hsc : env.scope = fd.scope := by rw [he]; rfl
  have hfr : env.frame = some L := by rw [he]; rfl
  have hlo : env.locals = L := by rw [he]; rfl
  have hgb : env.globals = mainGlobals ∧ env.builtins = builtinsNs := by rw [he]; exact ⟨rfl, hbl⟩
  clear he fresh apart above
  obtain ⟨hLn, hLb, hLΓ⟩ := S.newAt hL
  have I' : In (c.enter env) K (D + 1) := .step I.G.z I.K I.dep I.uni (hsc ▸ hk) hfr hgb.1 hgb.2
  have S₀ : SatC (c.enter env) Γ { s with heap := h₀, toks := tk } := S.step keep (hsc ▸ hk) hfr (hlo ▸ hns) hLb hLΓ
  have hkx : env.kindOf x = some .cell := by show env.scope.names.lookup x = _; rw [hsc]; exact hxc
  have hc := cell x (L + 1 + 0) (by rw [hcells]; exact lookup_one)
  have hz : ∀ y, LocR h₀ (((fd.params.args.map (·.arg)).zip vs).lookup y) (((fd.params.args.map (·.arg)).zip as).lookup y) := fun y => zip_rel (hvs.tups fun a us t => t.keeps keep)
  rw [bindC_lookup (by rw [hkx]; decide) hnz, Option.or_none] at hc
  have hxz := hz x
  rw [hxa.lookup (nodup_zip hrev)] at hxz
  have S₁ : SatC (c.enter env) ((L + 1 + 0, .cell (some xv)) :: Γ) { s with heap := h₀, toks := tk } := S.newCell hL hfr S₀ (S.newNot hL) (cell_or hc hxz)
  exact own_end I'.G (hlo ▸ hLn) ⟨fun a o e _ _ => ⟨o.slots, keep a o e⟩, fun a m => (List.mem_cons.mp m).elim (fun e => .inr (by rw [e]; exact S.newNone hL)) .inl, fun _ m => nomatch m⟩
    (wpOwn_of_wpAny (q _ (L + 1 + 0) I' hsc hcells _ ⟨S₁, ⟨⟨_, hns, fun p hp => by
      rw [bindL_lookup (by show env.scope.names.lookup p.1 = _; rw [hsc]; exact hρl p hp) hnz, Option.or_none]
      exact hρ.rel (nodup_zip hrev) hz p hp⟩, hnod⟩, by rw [show (c.enter env).env.locals = L from hlo]; exact fun m => (List.mem_cons.mp m).elim lt1_ne hLΓ, by rw [show (c.enter env).env.locals = L from hlo]; exact hLb⟩))
end
noncomputable abbrev excN (t : Addr) : Obj := { cls := .ref 41, data := .fields #[.ref t, .none, .none, .none, .bool false, .none] }
section
variable {prog : Program} {w : World} {A : Around} {E : Value → Shared → Prop} {h : Heap} {g : Array GenState} {d : Drawn} {t : Nat} {os : OsState} {K : Frag}
variable {nm q : Str} {N : Addr} {bs : List Value} {hdct : Bool} {sn : List Str} {sub : List Value} {ab : Bool} {col : Option Bool} {dd : Option Addr} {k0 k1 k2 k3 k5 : Option Value}
noncomputable abbrev clsX (nm q : Str) (N : Addr) (bs : List Value) (hdct : Bool) (sn : List Str) (sub : List Value) (ab : Bool) (col : Option Bool) (dd : Option Addr) (k0 k1 k2 k3 k5 : Option Value) : Obj := excClassObj nm q 41 N bs bmX hdct sn sub ab col dd k0 k1 k2 k3 k5 "Exception.__new__"
theorem type_call_exc {rest : List Value} {fI : Addr} {Q : Fin → Shared → Prop} (X : K.In h) (hC : h.get? 41 = some (clsX nm q N bs hdct sn sub ab col dd k0 k1 k2 k3 k5))
    (hi : findIn K (.ref 41) "__init__" = some (some (.ref fI))) (hf : typeIn K (.ref fI) = some (.type "function"))
    (hq : ∀ h', h' = (h.push { cls := .type "tuple", data := .seq rest.toArray }).push (excN h.objs.size) →
      wpAny (model prog w) A (call (.ref fI) (.ref (h.objs.size + 1) :: rest) []) (fun v s' => v = .none ∧ Q (.done (.ret (.ref (h.objs.size + 1)))) s') E ⟨h', g, d, t, os⟩) (hrest : rest.length ≤ sizeLine) :
    wpAny (model prog w) A (Builtin.«type.__call__» ⟨.ref 41 :: rest, []⟩) Q E ⟨h, g, d, t, os⟩ := by
  have F := PySem.F.excBase_Exception
  repeat (first | with_reducible refine wpAny_loadPart_at hC ?_ | with_reducible refine wpAny_madeBy_exc hC ?_ | wp_step)
  refine codeAny_call_builtin_code (Code.quiet_builtin _ F.quiet) (wpAny_check_new_sub F hC ?_)
  refine codeAny_exc_new_sub F hC ?_ hrest
  show wpAny _ _ _ _ _ _
  have k : ∀ b o, h.get? b = some o → ((h.push { cls := .type "tuple", data := .seq rest.toArray }).push (excN h.objs.size)).get? b = some o := fun b o e => Heap.get?_push_of_some _ (Heap.get?_push_of_some _ e)
  have hC₁ := k _ _ hC
  have X₁ : K.In ((h.push { cls := .type "tuple", data := .seq rest.toArray }).push (excN h.objs.size)) := fun a o e => k _ _ (X a o e)
  have hget : ((h.push { cls := .type "tuple", data := .seq rest.toArray }).push (excN h.objs.size)).get? (h.objs.size + 1) = some (excN h.objs.size) := by heap_get
  have hcC : (Value.ref 41 :: bmX).contains (.ref 41) = true := by decide
  unfold isInstance
  repeat (first | with_reducible refine wpAny_loadPart_at hget ?_ | (with_reducible refine wpAny_isSubtype_exc hC₁ ?_; rw [hcC]) | wp_step)
  show wpAny _ _ (typeLookup (.ref 41) _) _ _ _
  refine Looks.at (looks_findIn X₁ hi) ?_
  refine wpAny_holding (wpAny_bind ((bind_fn X₁ _ hf).at ?_))
  refine wpAny_bind (wpAny_mono (hq _ rfl) (fun v s' hv => ?_) fun _ _ x => x)
  obtain ⟨rfl, hv⟩ := hv
  wp_walk
  exact hv
theorem call_exc {rest : List Value} {fI : Addr} {Q : Value → Shared → Prop} (X : K.In h) (hC : h.get? 41 = some (clsX nm q N bs hdct sn sub ab col dd k0 k1 k2 k3 k5))
    (hi : findIn K (.ref 41) "__init__" = some (some (.ref fI))) (hf : typeIn K (.ref fI) = some (.type "function"))
    (hq : ∀ h', h' = (h.push { cls := .type "tuple", data := .seq rest.toArray }).push (excN h.objs.size) →
      wpAny (model prog w) (A.under (.builtin "type.__call__" ⟨.ref 41 :: rest, []⟩)) (call (.ref fI) (.ref (h.objs.size + 1) :: rest) []) (fun v s' => v = .none ∧ Q (.ref (h.objs.size + 1)) s') E ⟨h', g, d, t, os⟩) (hrest : rest.length ≤ sizeLine) :
    wpAny (model prog w) A (call (.ref 41) rest) Q E ⟨h, g, d, t, os⟩ := by
  have f1 := tc_lookup
  have f2 := tc_bind (.ref 41)
  have hT : (⟨h, g, d, t, os⟩ : Shared).TypeIs (.ref 41) "type" := ⟨_, hC, rfl⟩
  refine wpAny_call (codeAny_of_tree ?_)
  show wpAny _ _ (callAny (.ref 41) _) _ _ _
  repeat (any_goals (first | assumption | with_reducible refine wpAny_loadPart_at hC ?_ | wp_step))
  refine ⟨rfl, ?_⟩
  refine codeAny_call_builtin_at (Code.quiet_builtin _ (by decide +kernel)) entry_typeCall (wpAny_check_type_call_sub hC (type_call_exc X hC hi hf hq hrest))
end
section
variable {c : Cx} {K : Frag} {D : Nat} {E : EP} {sc : Scope} {ρ : Loc} {Γ : Led} {Q : AV → Led → Prop} {QF : AF → Loc → Led → Prop}
theorem HC_exc (I : In c K D) (hK : ClsOk K) {fI : Addr} {as : List AV} (hl : as.length ≤ 99) (hi : findIn K (.ref 41) "__init__" = some (some (.ref fI))) (hf : typeIn K (.ref fI) = some (.type "function"))
    (q : ∀ c' x t, In c' K (D + 1) → HC c' (.ref fI) (.ref x :: as) ((x, .obj (excN t)) :: Γ) (fun v Γ' => v = .none ∧ Q (.ref x) Γ') E) : HC c (.ref 41) as Γ Q E := fun s vf vs S hvf hvs => by
  cases hvf.ref'
  have X := S.inK I
  obtain ⟨nm, qn, N, bs, hdct, sn, sub, ab, col, dd, k0, k1, k2, k3, k5, hC⟩ := hK
  obtain ⟨hh, g, dr, t, os⟩ := s
  refine call_exc X (X _ _ hC) hi hf (fun h' e => ?_) (by rw [hvs.length]; exact Nat.le_trans hl sz99)
  subst e
  have I' := I.tc 41 vs
  have S1 := S.push { cls := .type "tuple", data := .seq vs.toArray }
  have P1 := Pres.push Γ hh { cls := .type "tuple", data := .seq vs.toArray }
  have S2 := S1.pushed (o := excN hh.objs.size) (ao := .obj (excN hh.objs.size)) ⟨Heap.get?_push_size _ rfl, fun us n q => nomatch q⟩
  have P2 := Pres.pushed Γ (hh.push { cls := .type "tuple", data := .seq vs.toArray }) (excN hh.objs.size) (.obj (excN hh.objs.size))
  have P := P1.trans P2
  have hz : (hh.push { cls := .type "tuple", data := .seq vs.toArray }).objs.size = hh.objs.size + 1 := Heap.size_push ..
  dsimp only at S2 P
  rw [hz] at S2 P
  refine wpAny_mono (q _ (hh.objs.size + 1) hh.objs.size I' _ (.ref fI) (.ref (hh.objs.size + 1) :: vs) S2.at (.ref _) (.cons (.ref _) (hvs.tups (S.tups0 P)))) (fun v s' hr => ?_) fun e s' hr => PX.lift P hr.unat
  obtain ⟨Γ', S', P', a, hv, rfl, hq⟩ := hr
  exact ⟨hv.none', Γ', S'.unat, P.trans P', _, .ref _, hq⟩
end
/-! functions of the program, by their statements -/
inductive Fx where
  | no | mk (ps : Arguments) (body : List Stmt) (sc : Scope)
noncomputable def fX : Stmt → Fx
  | .FunctionDef _ args body _ _ _ scope _ _ _ => .mk args body scope
  | _ => .no
structure Fn (K : Frag) (f : Addr) (s : Stmt) (cl : List (Str × Addr)) (dV : Value) : Prop where
  ex : ∃ (o : Obj) (fd : FuncData), List.lookup f K = some o ∧ o.cls = .type "function" ∧ o.data = .func fd ∧ codeIn K fd.code fd.qualname = true ∧ fd.globals = mainGlobals ∧ fd.builtins = builtinsNs ∧ fd.closure = cl ∧ fd.defaults = dV ∧ fd.kwdefaults = .none ∧
    fX s = .mk fd.params (match fd.body with | .stmts b => b | _ => []) fd.scope ∧ (match fd.body with | .stmts _ => True | _ => False)
section
variable {c : Cx} {K : Frag} {D : Nat} {E : EP} {sc : Scope} {ρ : Loc} {Γ : Led} {Q : AV → Led → Prop} {QF : AF → Loc → Led → Prop}
theorem keep_fn {f : Addr} {st : Stmt} {cl : List (Str × Addr)} {dV : Value} (F : Fn K f st cl dV) : keepIn K (.ref f) = true := by
  obtain ⟨⟨_, _, _, _⟩, fd, h1, _, h2, _⟩ := F.ex
  dsimp only at h2; subst h2
  have e := h1
  unfold keepIn
  dsimp only
  split
  · rfl
  · rename_i h; rw [show _ = _ from h] at e; cases e
  · rename_i h _; exact absurd e (h _ _ _ _)
theorem type_fn {f : Addr} {st : Stmt} {cl : List (Str × Addr)} {dV : Value} (F : Fn K f st cl dV) : typeIn K (.ref f) = some (.type "function") := by
  obtain ⟨o, fd, h1, h2, _⟩ := F.ex
  show (K.lookup f).map _ = _
  rw [h1, ← h2]; rfl
/-- where the code of a function of the program is entered -/
noncomputable def Bds (ps : Arguments) (n : Nat) : Prop := ∀ (fd : FuncData), fd.params = ps → fd.defaults = .none → fd.kwdefaults = .none → ∀ s (vs : List Value), vs.length = n → BindsTo s fd ⟨vs, []⟩ ((ps.args.map (·.arg)).zip vs)
theorem HCc_fn (I : In c K D) {f : Addr} {st : Stmt} {cl : List (Str × Addr)} {ps : Arguments} {body : List Stmt} {as : List AV} {ρ₀ : Loc} (F : Fn K f st cl .none) (hx : fX st = .mk ps body sc) (hD : D + 1 < recursionLimit)
    (hbind : Bds ps as.length) (hcell : (sc.names.all fun x => x.2 != .cell) = true) (hloc : ((ps.args.map (·.arg)).all fun n => sc.names.lookup n == some .local) = true) (hrev : (ps.args.map (·.arg)).Nodup)
    (hρ : LocsOf sc.names ((ps.args.map (·.arg)).zip as) ρ₀) (hnod : (ρ₀.map (·.1)).Nodup) (hco : (!sc.isCoroutine && !sc.isGenerator && sc.kind == .function) = true)
    (q : ∀ c', In c' K (D + 1) → c'.env.scope = sc → c'.env.cells = cl → HB c' body ρ₀ Γ (Ret Q) E) : HCc c (.ref f) as Γ Q E := by
  obtain ⟨o, fd, h1, _, h2, h3, h4, h5, h6, h7, h8, h9, h10⟩ := F.ex
  rw [hx] at h9
  obtain ⟨b, hb⟩ : ∃ b, fd.body = .stmts b := by cases e : fd.body <;> rw [e] at h10 <;> first | exact ⟨_, rfl⟩ | exact h10.elim
  rw [hb] at h9
  injection h9 with e1 e2 e3
  dsimp only at e2
  subst e1 e2 e3 h6
  simp only [Bool.and_eq_true, Bool.not_eq_true', beq_iff_eq] at hco
  exact HCc_def I hD h1 h2 hb h3 (hbind fd rfl h7 h8) (fun x hx => by have := List.all_eq_true.mp hcell x hx; simpa using this) (fun n hn => by have := List.all_eq_true.mp hloc n hn; simpa using this) hrev hρ hnod h4 h5 hco.1.1 hco.1.2 hco.2 q
theorem HC_fn (I : In c K D) {f : Addr} {st : Stmt} {cl : List (Str × Addr)} {ps : Arguments} {body : List Stmt} {as : List AV} {ρ₀ : Loc} (F : Fn K f st cl .none) (hx : fX st = .mk ps body sc) (hD : D + 1 < recursionLimit)
    (hbind : Bds ps as.length) (hcell : (sc.names.all fun x => x.2 != .cell) = true) (hloc : ((ps.args.map (·.arg)).all fun n => sc.names.lookup n == some .local) = true) (hrev : (ps.args.map (·.arg)).Nodup)
    (hρ : LocsOf sc.names ((ps.args.map (·.arg)).zip as) ρ₀) (hnod : (ρ₀.map (·.1)).Nodup) (hco : (!sc.isCoroutine && !sc.isGenerator && sc.kind == .function) = true)
    (q : ∀ c', In c' K (D + 1) → c'.env.scope = sc → c'.env.cells = cl → HB c' body ρ₀ Γ (Ret Q) E) : HC c (.ref f) as Γ Q E :=
  (HCc_fn I F hx hD hbind hcell hloc hrev hρ hnod hco q).hc
end
/-! what a piece of a run did to the ledger: the objects of X changed, new ones came -/
inductive Mo (X : List Addr) : Led → Led → Prop where
  | nil : Mo X [] []
  | keep {p : Addr × AO} {Γ Γ' : Led} : Mo X Γ Γ' → Mo X (p :: Γ) (p :: Γ')
  | chg {k : Addr} {o o' : AO} {Γ Γ' : Led} : k ∈ X → Mo X Γ Γ' → Mo X ((k, o) :: Γ) ((k, o') :: Γ')
  | new {p : Addr × AO} {Γ Γ' : Led} : Mo X Γ Γ' → Mo X Γ (p :: Γ')
section
variable {X Y : List Addr} {Γ Γ₁ Γ₂ : Led}
theorem Mo.refl : Mo X Γ Γ := by
  induction Γ with
  | nil => exact .nil
  | cons p r ih => exact .keep ih
theorem Mo.trans (a : Mo X Γ Γ₁) (b : Mo X Γ₁ Γ₂) : Mo X Γ Γ₂ := by
  induction b generalizing Γ with
  | nil => exact a
  | new b ih => exact .new (ih a)
  | keep b ih => cases a with
    | keep a => exact .keep (ih a)
    | chg h a => exact .chg h (ih a)
    | new a => exact .new (ih a)
  | chg h b ih => cases a with
    | keep a => exact .chg h (ih a)
    | chg h' a => exact .chg h (ih a)
    | new a => exact .new (ih a)
theorem Mo.mono (s : ∀ k ∈ X, k ∈ Y) (a : Mo X Γ Γ₁) : Mo Y Γ Γ₁ := by
  induction a with
  | nil => exact .nil
  | keep _ ih => exact .keep ih
  | chg h _ ih => exact .chg (s _ h) ih
  | new _ ih => exact .new ih
theorem Mo.lk {k : Addr} {o : AO} (a : Mo X Γ Γ₁) (hk : k ∉ X) (l : Lk k Γ o) : Lk k Γ₁ o := by
  induction a with
  | nil => cases l
  | keep _ ih => cases l with
    | here => exact .here
    | there l => exact .there (ih l)
  | chg h _ ih => cases l with
    | here => exact absurd h hk
    | there l => exact .there (ih l)
  | new _ ih => exact .there (ih l)
theorem Mo.up {k : Addr} {o : AO} (u : Up k o Γ Γ₁) (h : k ∈ X) : Mo X Γ Γ₁ := by
  induction u with
  | here => exact .chg h .refl
  | there _ ih => exact .keep ih
theorem Mo.up1 {k : Addr} {o : AO} (u : Up k o Γ Γ₁) : Mo [k] Γ Γ₁ := .up u (.head _)
/-- the head's place is found again -/
theorem Mo.head {k : Addr} {o : AO} (a : Mo X ((k, o) :: Γ) Γ₁) (hk : k ∉ X) : ∃ Γ₂, Sb ((k, o) :: Γ₂) Γ₁ ∧ Mo X Γ Γ₂ ∧ ∀ j q, q ≠ o → Lk j Γ₁ q → Lk j Γ₂ q := by
  generalize e : (k, o) :: Γ = Γ₀ at a
  induction a with
  | nil => cases e
  | keep a _ =>
    cases e
    refine ⟨_, .refl, a, fun j q hj l => ?_⟩
    cases l with
    | here => exact absurd rfl hj
    | there l => exact l
  | chg h a _ => cases e; exact absurd h hk
  | new a ih =>
    rename_i p _ Γ₁
    obtain ⟨Γ₂, h1, h2, h3⟩ := ih e
    refine ⟨p :: Γ₂, ⟨fun {q} hq => ?_, fun nd => ?_⟩, .new h2, fun j q hj l => ?_⟩
    · rcases List.mem_cons.mp hq with rfl | hq
      · exact .tail _ (h1.subset (.head _))
      · rcases List.mem_cons.mp hq with rfl | hq
        · exact .head _
        · exact .tail _ (h1.subset (.tail _ hq))
    · have n1 := List.nodup_cons.mp nd
      have n2 := List.nodup_cons.mp (h1.nod n1.2)
      have hp : p.1 ∉ adr ((k, o) :: Γ₂) := fun m => n1.1 (h1.adr m)
      refine List.nodup_cons.mpr ⟨fun m => ?_, List.nodup_cons.mpr ⟨fun m => hp (.tail _ m), n2.2⟩⟩
      rcases List.mem_cons.mp m with m | m
      · exact hp (by rw [← (show k = p.1 from m)]; exact .head _)
      · exact n2.1 m
    · cases l with
      | here => exact .here
      | there l => exact .there (h3 j q hj l)
theorem Mo.head2 {k j : Addr} {o p : AO} (a : Mo X ((k, o) :: (j, p) :: Γ) Γ₁) (hk : k ∉ X) (hj : j ∉ X) : ∃ Γ₂, Sb ((k, o) :: (j, p) :: Γ₂) Γ₁ ∧ Mo X Γ Γ₂ ∧ ∀ i q, q ≠ o → q ≠ p → Lk i Γ₁ q → Lk i Γ₂ q := by
  obtain ⟨Γ₂, h1, h2, h3⟩ := a.head hk
  obtain ⟨Γ₃, h4, h5, h6⟩ := h2.head hj
  refine ⟨Γ₃, ⟨fun {q} hq => ?_, fun nd' => ?_⟩, h5, fun i q hi hi' l => h6 i q hi' (h3 i q hi l)⟩
  · rcases List.mem_cons.mp hq with rfl | hq
    · exact h1.subset (.head _)
    · exact h1.subset (.tail _ (h4.subset hq))
  · have n1 := List.nodup_cons.mp (h1.nod nd')
    exact List.nodup_cons.mpr ⟨fun m => n1.1 (h4.adr m), h4.nod n1.2⟩
theorem Mo.n {p : Addr × AO} (a : Mo X (p :: Γ) Γ₁) : Mo X Γ Γ₁ := Mo.trans (.new .refl) a
end
/-! addresses of the ledger stand once -/
section
variable {c : Cx} {E : EP} {ρ : Loc} {Γ : Led} {Q : AV → Led → Prop} {QF : AF → Loc → Led → Prop} {QB : Bool → Led → Prop}
theorem HE_nod {e : Expr} (q : (adr Γ).Nodup → HE c e ρ Γ Q E) : HE c e ρ Γ Q E := fun s S => q S.C.nod s S
theorem HB_nod {e : List Stmt} (q : (adr Γ).Nodup → HB c e ρ Γ QF E) : HB c e ρ Γ QF E := fun s S => q S.C.nod s S
theorem HC_nod {f : AV} {as : List AV} (q : (adr Γ).Nodup → HC c f as Γ Q E) : HC c f as Γ Q E := fun s vf vs S => q S.nod s vf vs S
theorem Lk.inj {k : Addr} {o o' : AO} (n : (adr Γ).Nodup) (a : Lk k Γ o) (b : Lk k Γ o') : o = o' := key_inj n a.mem b.mem
theorem Lk.ne {k j : Addr} {o o' : AO} (n : (adr Γ).Nodup) (a : Lk k Γ o) (b : Lk j Γ o') (h : o ≠ o') : k ≠ j := fun e => h (Lk.inj n a (e ▸ b))
end
/-! weaker words of the ledger -/
inductive Wk : Led → Led → Prop where
  | nil : Wk [] []
  | keep {p : Addr × AO} {Γ Γ' : Led} : Wk Γ Γ' → Wk (p :: Γ) (p :: Γ')
  | wl {a : Addr} {l : List AV} {Γ Γ' : Led} : Wk Γ Γ' → Wk ((a, .list l) :: Γ) ((a, .wlist l) :: Γ')
  | ls {a : Addr} {l : List AV} {n : Nat} {Γ Γ' : Led} : l.length ≤ n → Wk Γ Γ' → Wk ((a, .list l) :: Γ) ((a, .lst n) :: Γ')
section
variable {c : Cx} {E : EP} {ρ : Loc} {Γ Γ' : Led} {Q : AV → Led → Prop} {QF : AF → Loc → Led → Prop} {QB : Bool → Led → Prop} {s : Shared}
theorem Wk.refl : Wk Γ Γ := by
  induction Γ with
  | nil => exact .nil
  | cons p r ih => exact .keep ih
theorem Wk.keys (w : Wk Γ Γ') : adr Γ' = adr Γ := by
  induction w with
  | nil => rfl
  | keep _ ih => exact congrArg (List.cons _) ih
  | wl _ ih => exact congrArg (List.cons _) ih
  | ls _ _ ih => exact congrArg (List.cons _) ih
theorem Wk.or {h : Heap} (w : Wk Γ Γ') (k : ∀ p ∈ Γ, OR c.prog c.w h p.1 p.2) : ∀ p ∈ Γ', OR c.prog c.w h p.1 p.2 := by
  induction w with
  | nil => exact k
  | keep _ ih => intro p hp; rcases List.mem_cons.mp hp with rfl | hp; exact k _ (.head _); exact ih (fun p hp => k p (.tail _ hp)) p hp
  | wl _ ih =>
    intro p hp; rcases List.mem_cons.mp hp with rfl | hp
    · obtain ⟨vs, n, h1, h2⟩ := k _ (.head _); exact ⟨vs, h1.isList, h2⟩
    · exact ih (fun p hp => k p (.tail _ hp)) p hp
  | ls hn _ ih =>
    intro p hp; rcases List.mem_cons.mp hp with rfl | hp
    · obtain ⟨vs, n, h1, h2⟩ := k _ (.head _); exact ⟨vs, n, h1, h2.length ▸ hn⟩
    · exact ih (fun p hp => k p (.tail _ hp)) p hp
theorem SatC.wk (w : Wk Γ Γ') (S : SatC c Γ s) : SatC c Γ' s where
  base := S.base
  gens := S.gens
  os := S.os
  led := w.or S.led
  new p hp := by
    have : p.1 ∈ adr Γ := w.keys ▸ List.mem_map_of_mem hp
    obtain ⟨q, hq, e⟩ := List.mem_map.mp this
    rw [← e]; exact S.new q hq
  nod := w.keys ▸ S.nod
  frs := S.frs
  off e he L hL m := S.off e he L hL (w.keys ▸ m)
theorem Sat.wk (w : Wk Γ Γ') (S : Sat c ρ Γ s) : Sat c ρ Γ' s := ⟨S.C.wk w, S.loc, fun m => S.lof (w.keys ▸ m), S.lnew⟩
theorem Pres.wk {X : List Addr} {h : Heap} (w : Wk Γ Γ') : Pres X Γ h Γ' h := ⟨fun _ o e _ _ => ⟨o.slots, e⟩, fun _ m => .inl (w.keys ▸ m), fun _ _ _ o e => ⟨o, e⟩⟩
theorem HB_wk {b : List Stmt} (w : Wk Γ Γ') (q : HB c b ρ Γ' QF E) : HB c b ρ Γ QF E := fun s S => wliftX (Pres.wk w) (q s (S.wk w))
noncomputable abbrev HC_post_k1 (Q : AV → Led → Prop) := fun (v : AV) (Γ₁ : Led) => ∃ Γ₂, Wk Γ₁ Γ₂ ∧ Q v Γ₂
theorem HC_post {f : AV} {as : List AV} (q : HC c f as Γ (HC_post_k1 Q) E) : HC c f as Γ Q E := fun s vf vs S hf hvs =>
  wpAny_mono (q s vf vs S hf hvs) (fun v s' ⟨Γ₁, S₁, P₁, a, hv, Γ₂, w, hq⟩ => ⟨Γ₂, S₁.wk w, P₁.trans (Pres.wk w), a, hv, hq⟩) fun _ _ x => x
/-! lists of lesser words -/
theorem HC_len_wlist {a : Addr} {l : List AV} (h : Lk a Γ (.wlist l)) (hl : (l.length : Int) < 2 ^ 63) (q : Q (.int l.length) Γ) : HC c (.bi "len") [.ref a] Γ Q E := fun s vf vs S hf hvs => by
  cases hf; obtain ⟨v, rfl, hv⟩ := hvs.one; cases hv.ref'
  obtain ⟨vs, hL, hvs⟩ := S.or h
  have hz : (vs.toArray.size : Int) = l.length := by simp [hvs.length]
  refine call_len_list hL (by rw [hz]; exact hl) ?_
  rw [hz]
  exact retT (t := s.toks + 1 + 1) S (.int ..) q
theorem HM_lst {l : Addr} {n : Nat} {name : Str} {id : String} {QM : AV → List AV → Led → Prop} (hl : Lk l Γ (.lst n)) (slot : Slot "list" name id) (hty : typeOf (.builtin id) = pure (.type "method_descriptor")) (q : QM (.bi id) [.ref l] Γ) :
    HM c (.ref l) name Γ QM E := fun s vo pl S ho => by
  cases ho.ref'
  obtain ⟨vs, n, hL, _⟩ := S.or hl
  have h1 : s.TypeIs (.ref l) "list" := ⟨_, hL, rfl⟩
  have h2 : ∀ a, Value.ref l = .ref a → ∃ o, s.heap.get? a = some o ∧ o.dict = none := fun a e => by cases e; exact ⟨_, hL, rfl⟩
  have h3 : PG c [] Γ s.heap (RM QM) (.builtin id, [.ref l]) s := ⟨Γ, S, .refl .., _, _, .bi _, .cons (.ref _) .nil, q⟩
  exact getMethod_builtin h1 PySem.F.plainAttrs_list slot hty h2 h3
theorem HC_append_lst {l : Addr} {n : Nat} {x : AV} {Γ' : Led} (hl : Lk l Γ (.lst n)) (hz : n ≤ 9999) (U : Up l (.lst (n + 1)) Γ Γ') (q : Q .none Γ') : HC c (.bi "list.append") [.ref l, x] Γ Q E := fun s vf vs S hf hvs => by
  cases hf; obtain ⟨v, u, rfl, hv, hu⟩ := hvs.two; cases hv.ref'
  obtain ⟨ys, k, hL, hys⟩ := S.or hl
  have hs := IsL.same (h := s.heap) (l := l) (f := fun xs => xs.push u)
  have T := tups_but S U.key_mem hs
  have hz' : ys.toArray.size ≤ sizeLine := by rw [List.size_toArray, sizeLine_eq]; lia
  refine call_meets F.slot_list_append ⟨_, hL, rfl⟩ F.entry_list_append (F.args_list_append_2 _ _) (list_append l ys.toArray k u hz') ⟨hL, ?_⟩
  refine ⟨Γ', (S.upd U hs ⟨ys ++ [u], _, by have := hL.update (fun xs => xs.push u); simpa using this, by simp; lia⟩).tok _, .upd U hs, _, .none, q⟩
end
/-! plain lists stand -/
noncomputable def AO.plain : AO → Bool | .list _ => true | .wlist [] => true | _ => false
noncomputable def NoL (X : List Addr) (Γ : Led) : Prop := ∀ x ∈ X, ∀ o, Lk x Γ o → o.plain = false
theorem Mo.plain {X : List Addr} {Γ Γ' : Led} {k : Addr} {o : AO} (a : Mo X Γ Γ') (n : NoL X Γ) (h : Lk k Γ o) (e : o.plain = true) : Lk k Γ' o := a.lk (fun m => by rw [n k m o h] at e; cases e) h
theorem Mo.list {X : List Addr} {Γ Γ' : Led} {k : Addr} {l : List AV} (a : Mo X Γ Γ') (n : NoL X Γ) (h : Lk k Γ (.list l)) : Lk k Γ' (.list l) := a.plain n h rfl
theorem NoL.nil {Γ : Led} : NoL [] Γ := fun _ h => absurd h (List.not_mem_nil)
theorem NoL.cons {X : List Addr} {Γ : Led} {x : Addr} {o : AO} (nd : (adr Γ).Nodup) (h : Lk x Γ o) (e : o.plain = false) (n : NoL X Γ) : NoL (x :: X) Γ := fun y hy l hl => by
  rcases List.mem_cons.mp hy with rfl | hy
  · have := Lk.inj nd h hl; subst this; exact e
  · exact n y hy l hl
section
variable {c : Cx} {E : EP} {ρ : Loc} {Γ Γ' : Led} {Q : AV → Led → Prop} {QF : AF → Loc → Led → Prop} {QB : Bool → Led → Prop} {s : Shared}
theorem HAll_nil_and (q : QB true Γ) : HAll c .And [] ρ Γ QB E := fun s S => wpAny_allTrue_And_nil ⟨Γ, S.C, .refl .., q⟩
theorem HAll_nil_or (q : QB false Γ) : HAll c .Or [] ρ Γ QB E := fun s S => wpAny_allTrue_Or_nil ⟨Γ, S.C, .refl .., q⟩
theorem HE_Bool1 {op : BoolOp} {e : Expr} {pos : Pos} (q : HE c e ρ Γ Q E) : HE c (.BoolOp op [e] pos) ρ Γ Q E := fun s S => BoolOp_one (q s S)
noncomputable abbrev HE_BoolAnd_k1 (c : Cx) (ρ : Loc) (Q : AV → Led → Prop) (E : EP) (e₂ : Expr) (r : List Expr) (pos : Pos) (a : AV) := fun (b : Bool) (Γ₂ : Led) => Br b (HE c (.BoolOp .And (e₂ :: r) pos) ρ Γ₂ Q E) (Q a Γ₂)
noncomputable abbrev HE_BoolAnd_k2 (c : Cx) (ρ : Loc) (Q : AV → Led → Prop) (E : EP) (e₂ : Expr) (r : List Expr) (pos : Pos) := fun (a : AV) (Γ₁ : Led) => HTr c a Γ₁ (HE_BoolAnd_k1 c ρ Q E e₂ r pos a) E
theorem HE_BoolAnd {e e₂ : Expr} {r : List Expr} {pos : Pos} (q : HE c e ρ Γ (HE_BoolAnd_k2 c ρ Q E e₂ r pos) E) : HE c (.BoolOp .And (e :: e₂ :: r) pos) ρ Γ Q E := fun s S =>
  BoolOp_and (vuse S (.refl ..) (q s S) fun v a s₁ Γ₁ S₁ P₁ _ hv hq => wuse P₁ (hq s₁ v S₁.C hv) fun b s₂ Γ₂ S₂ P₂ P' hb => by
    cases b with
    | true => exact wlift P₂ (hb s₂ (S₁.pres S₂ P'))
    | false => exact ⟨Γ₂, S₂, P₂, a, hv.tups (S₁.C.tups0 P'), hb⟩)
noncomputable abbrev HE_BoolOr_k1 (c : Cx) (ρ : Loc) (Q : AV → Led → Prop) (E : EP) (e₂ : Expr) (r : List Expr) (pos : Pos) (a : AV) := fun (b : Bool) (Γ₂ : Led) => Br b (Q a Γ₂) (HE c (.BoolOp .Or (e₂ :: r) pos) ρ Γ₂ Q E)
noncomputable abbrev HE_BoolOr_k2 (c : Cx) (ρ : Loc) (Q : AV → Led → Prop) (E : EP) (e₂ : Expr) (r : List Expr) (pos : Pos) := fun (a : AV) (Γ₁ : Led) => HTr c a Γ₁ (HE_BoolOr_k1 c ρ Q E e₂ r pos a) E
theorem HE_BoolOr {e e₂ : Expr} {r : List Expr} {pos : Pos} (q : HE c e ρ Γ (HE_BoolOr_k2 c ρ Q E e₂ r pos) E) : HE c (.BoolOp .Or (e :: e₂ :: r) pos) ρ Γ Q E := fun s S =>
  BoolOp_or (vuse S (.refl ..) (q s S) fun v a s₁ Γ₁ S₁ P₁ _ hv hq => wuse P₁ (hq s₁ v S₁.C hv) fun b s₂ Γ₂ S₂ P₂ P' hb => by
    cases b with
    | false => exact wlift P₂ (hb s₂ (S₁.pres S₂ P'))
    | true => exact ⟨Γ₂, S₂, P₂, a, hv.tups (S₁.C.tups0 P'), hb⟩)
/-! chains of two comparisons -/
noncomputable abbrev HE_Chain2_k1 (c : Cx) (Q : AV → Led → Prop) (E : EP) (op₂ : CmpOp) (b : AV) := fun (d : AV) (Γ₅ : Led) => HCmp c op₂ b d Γ₅ Q E
noncomputable abbrev HE_Chain2_k2 (c : Cx) (ρ : Loc) (Q : AV → Led → Prop) (E : EP) (r₂ : Expr) (op₂ : CmpOp) (b : AV) (x : AV) := fun (t : Bool) (Γ₄ : Led) => Br t (HE c r₂ ρ Γ₄ (HE_Chain2_k1 c Q E op₂ b) E) (Q x Γ₄)
noncomputable abbrev HE_Chain2_k3 (c : Cx) (ρ : Loc) (Q : AV → Led → Prop) (E : EP) (r₂ : Expr) (op₂ : CmpOp) (b : AV) := fun (x : AV) (Γ₃ : Led) => HTr c x Γ₃ (HE_Chain2_k2 c ρ Q E r₂ op₂ b x) E
noncomputable abbrev HE_Chain2_k4 (c : Cx) (ρ : Loc) (Q : AV → Led → Prop) (E : EP) (r₂ : Expr) (op : CmpOp) (op₂ : CmpOp) (a : AV) := fun (b : AV) (Γ₂ : Led) => HCmp c op a b Γ₂ (HE_Chain2_k3 c ρ Q E r₂ op₂ b) E
noncomputable abbrev HE_Chain2_k5 (c : Cx) (ρ : Loc) (Q : AV → Led → Prop) (E : EP) (r : Expr) (r₂ : Expr) (op : CmpOp) (op₂ : CmpOp) := fun (a : AV) (Γ₁ : Led) => HE c r ρ Γ₁ (HE_Chain2_k4 c ρ Q E r₂ op op₂ a) E
theorem HE_Chain2 {l r r₂ : Expr} {op op₂ : CmpOp} {pos : Pos} (hm : lastMarks [op, op₂] [r, r₂] = false)
    (q : HE c l ρ Γ (HE_Chain2_k5 c ρ Q E r r₂ op op₂) E) : HE c (.Compare l [op, op₂] [r, r₂] pos) ρ Γ Q E := fun s S =>
  Compare_chain (vuse S (.refl ..) (q s S) fun v a s₁ Γ₁ S₁ P₁ _ hv hq => chain_link (vuse S₁ P₁ (hq s₁ S₁) fun w b s₂ Γ₂ S₂ P₂ T hw hq₂ => vuse S₂ P₂ (hq₂ s₂ v w S₂.C (hv.tups T) hw) fun x y s₃ Γ₃ S₃ P₃ T₃ hx hq₃ =>
    wuse P₃ (hq₃ s₃ x S₃.C hx) fun t s₄ Γ₄ S₄ P₄ P' ht => by
      have T₄ := S₃.C.tups0 P'
      have S₄' := S₃.pres S₄ P'
      cases t with
      | true => exact chain_last (vuse S₄' P₄ (ht s₄ S₄') fun u d s₅ Γ₅ S₅ P₅ T₅ hu hq₅ => wlift P₅ (hq₅ s₅ w u S₅.C (((hw.tups T₃).tups T₄).tups T₅) hu))
      | false => exact ⟨Γ₄, S₄, P₄, y, hx.tups T₄, ht⟩)) hm
noncomputable abbrev HT_Chain2_k1 (c : Cx) (QB : Bool → Led → Prop) (E : EP) := fun (y : AV) (Γ₆ : Led) => HTr c y Γ₆ QB E
noncomputable abbrev HT_Chain2_k2 (c : Cx) (QB : Bool → Led → Prop) (E : EP) (op₂ : CmpOp) (b : AV) := fun (d : AV) (Γ₅ : Led) => HCmp c op₂ b d Γ₅ (HT_Chain2_k1 c QB E) E
noncomputable abbrev HT_Chain2_k3 (c : Cx) (ρ : Loc) (QB : Bool → Led → Prop) (E : EP) (r₂ : Expr) (op₂ : CmpOp) (b : AV) := fun (t : Bool) (Γ₄ : Led) => Br t (HE c r₂ ρ Γ₄ (HT_Chain2_k2 c QB E op₂ b) E) (QB false Γ₄)
noncomputable abbrev HT_Chain2_k4 (c : Cx) (ρ : Loc) (QB : Bool → Led → Prop) (E : EP) (r₂ : Expr) (op₂ : CmpOp) (b : AV) := fun (x : AV) (Γ₃ : Led) => HTr c x Γ₃ (HT_Chain2_k3 c ρ QB E r₂ op₂ b) E
noncomputable abbrev HT_Chain2_k5 (c : Cx) (ρ : Loc) (QB : Bool → Led → Prop) (E : EP) (r₂ : Expr) (op : CmpOp) (op₂ : CmpOp) (a : AV) := fun (b : AV) (Γ₂ : Led) => HCmp c op a b Γ₂ (HT_Chain2_k4 c ρ QB E r₂ op₂ b) E
noncomputable abbrev HT_Chain2_k6 (c : Cx) (ρ : Loc) (QB : Bool → Led → Prop) (E : EP) (r : Expr) (r₂ : Expr) (op : CmpOp) (op₂ : CmpOp) := fun (a : AV) (Γ₁ : Led) => HE c r ρ Γ₁ (HT_Chain2_k5 c ρ QB E r₂ op op₂ a) E
theorem HT_Chain2 {l r r₂ : Expr} {op op₂ : CmpOp} {pos : Pos} (hm : lastMarks [op, op₂] [r, r₂] = false)
    (q : HE c l ρ Γ (HT_Chain2_k6 c ρ QB E r r₂ op op₂) E) : HT c (.Compare l [op, op₂] [r, r₂] pos) ρ Γ QB E := fun s S =>
  isTrue_chain (vuse S (.refl ..) (q s S) fun v a s₁ Γ₁ S₁ P₁ _ hv hq => test_link (vuse S₁ P₁ (hq s₁ S₁) fun w b s₂ Γ₂ S₂ P₂ T hw hq₂ => vuse S₂ P₂ (hq₂ s₂ v w S₂.C (hv.tups T) hw) fun x y s₃ Γ₃ S₃ P₃ T₃ hx hq₃ =>
    wuse P₃ (hq₃ s₃ x S₃.C hx) fun t s₄ Γ₄ S₄ P₄ P' ht => by
      have T₄ := S₃.C.tups0 P'
      have S₄' := S₃.pres S₄ P'
      cases t with
      | true => exact test_last (vuse S₄' P₄ (ht s₄ S₄') fun u d s₅ Γ₅ S₅ P₅ T₅ hu hq₅ => vuse S₅ P₅ (hq₅ s₅ w u S₅.C (((hw.tups T₃).tups T₄).tups T₅) hu) fun z f s₆ Γ₆ S₆ P₆ T₆ hz hq₆ => wlift P₆ (hq₆ s₆ z S₆.C hz))
      | false => exact ⟨Γ₄, S₄, P₄, ht⟩)) hm
noncomputable abbrev HE_Neg_k1 (Q : AV → Led → Prop) := fun (a : AV) (Γ₁ : Led) => ∃ i, a = .int i ∧ Q (.int (-i)) Γ₁
theorem HE_Neg {e : Expr} {pos : Pos} (q : HE c e ρ Γ (HE_Neg_k1 Q) E) : HE c (.UnaryOp .USub e pos) ρ Γ Q E := fun s S =>
  UnaryOp_ (vuse S (.refl ..) (q s S) fun v a s₁ Γ₁ S₁ P₁ _ hv hq => by
    obtain ⟨i, rfl, hq⟩ := hq
    obtain ⟨t, rfl⟩ := hv.int'
    exact PyProof.Rows.neg_int ⟨Γ₁, S₁.C.tok _, P₁, _, .int .., hq⟩)
theorem HBin_shl {a n : Int} (hn : 0 ≤ n) (hn2 : n ≤ 1000000) (ha : a.natAbs < 2 ^ 64) (q : Q (.int (a * 2 ^ n.toNat)) Γ) : HBin c .LShift (.int a) (.int n) Γ Q E := fun s va vb S h1 h2 => by
  obtain ⟨t, rfl⟩ := h1.int'; obtain ⟨u, rfl⟩ := h2.int'; with_reducible exact lshift_int_small hn hn2 ha (retT S (.int ..) q)
variable {K : Frag} {D : Nat} {sc : Scope}
/-- a function of the program whose one parameter is a cell -/
theorem HCc_fnc (I : In c K D) {f : Addr} {st : Stmt} {ps : Arguments} {body : List Stmt} {as : List AV} {ρ₀ : Loc} {x : Str} {xv : AV} (F : Fn K f st [] .none) (hx : fX st = .mk ps body sc) (hD : D + 1 < recursionLimit)
    (hbind : Bds ps as.length) (hcs : ∀ n, cellsFrom n sc.names [] = [(x, n)]) (hloc : ((ps.args.map (·.arg)).all fun n => sc.names.lookup n == some .local || n == x) = true) (hxc : sc.names.lookup x = some .cell) (hrev : (ps.args.map (·.arg)).Nodup)
    (hρ : LocsOf sc.names ((ps.args.map (·.arg)).zip as) ρ₀) (hρl : (ρ₀.map (·.1)).all (fun p => sc.names.lookup p == some .local) = true) (hnod : (ρ₀.map (·.1)).Nodup) (hxa : Lk x ((ps.args.map (·.arg)).zip as) xv) (hco : (!sc.isCoroutine && !sc.isGenerator && sc.kind == .function) = true)
    (q : ∀ c' a, In c' K (D + 1) → c'.env.scope = sc → c'.env.cells = [(x, a)] → HB c' body ρ₀ ((a, .cell (some xv)) :: Γ) (Ret Q) E) : HCc c (.ref f) as Γ Q E := by
  obtain ⟨o, fd, h1, _, h2, h3, h4, h5, h6, h7, h8, h9, h10⟩ := F.ex
  rw [hx] at h9
  obtain ⟨b, hb⟩ : ∃ b, fd.body = .stmts b := by cases e : fd.body <;> rw [e] at h10 <;> first | exact ⟨_, rfl⟩ | exact h10.elim
  rw [hb] at h9
  injection h9 with e1 e2 e3
  dsimp only at e2
  subst e1 e2 e3
  simp only [Bool.and_eq_true, Bool.not_eq_true', beq_iff_eq] at hco
  exact HCc_cell I hD h1 h2 hb h3 (hbind fd rfl h7 h8) hcs (fun n hn => by have := List.all_eq_true.mp hloc n hn; simpa using this) hxc hrev hρ (fun p hp => by have := List.all_eq_true.mp hρl p.1 (List.mem_map_of_mem hp); simpa using this) hnod hxa h6 h4 h5 hco.1.1 hco.1.2 hco.2 q
theorem HC_fnc (I : In c K D) {f : Addr} {st : Stmt} {ps : Arguments} {body : List Stmt} {as : List AV} {ρ₀ : Loc} {x : Str} {xv : AV} (F : Fn K f st [] .none) (hx : fX st = .mk ps body sc) (hD : D + 1 < recursionLimit)
    (hbind : Bds ps as.length) (hcs : ∀ n, cellsFrom n sc.names [] = [(x, n)]) (hloc : ((ps.args.map (·.arg)).all fun n => sc.names.lookup n == some .local || n == x) = true) (hxc : sc.names.lookup x = some .cell) (hrev : (ps.args.map (·.arg)).Nodup)
    (hρ : LocsOf sc.names ((ps.args.map (·.arg)).zip as) ρ₀) (hρl : (ρ₀.map (·.1)).all (fun p => sc.names.lookup p == some .local) = true) (hnod : (ρ₀.map (·.1)).Nodup) (hxa : Lk x ((ps.args.map (·.arg)).zip as) xv) (hco : (!sc.isCoroutine && !sc.isGenerator && sc.kind == .function) = true)
    (q : ∀ c' a, In c' K (D + 1) → c'.env.scope = sc → c'.env.cells = [(x, a)] → HB c' body ρ₀ ((a, .cell (some xv)) :: Γ) (Ret Q) E) : HC c (.ref f) as Γ Q E :=
  (HCc_fnc I F hx hD hbind hcs hloc hxc hrev hρ hρl hnod hxa hco q).hc
end
/-! scopes of comprehensions -/
noncomputable def relab (scope sc : Scope) : Scope := { scope with names := scope.names.map fun p => if (p.2 == .free && sc.names.lookup p.1 == some .cell) = true then (p.1, .cell) else p }
theorem relab_of {scope sc : Scope} {e : Env} (h : e.scope = sc) (hk : sc.kind = .function) : relabel scope e = relab scope sc := by
  subst h
  unfold relabel relab Env.kindOf
  rw [hk]
  congr 1
  apply List.map_congr_left
  rintro ⟨n, k⟩ _
  simp
theorem clos_go {e : Env} : ∀ (l : List (Str × NameKind)) (cs : List (Str × Addr)), (l.all fun p => p.2 != .free) = true → (forIn l cs fun (p : Str × NameKind) (cs : List (Str × Addr)) => if (p.2 == .free) = true then (do let a ← cellOf e p.1; pure (ForInStep.yield ((p.1, a) :: cs))) else (pure (ForInStep.yield cs) : Sem _)) = pure cs
  | [], cs, _ => by simp
  | (n, k) :: r, cs, h => by
    simp only [List.all_cons, Bool.and_eq_true, bne_iff_ne, ne_eq] at h
    have hk : (k == NameKind.free) = false := by simpa using h.1
    rw [List.forIn_cons]
    simp only [hk, Bool.false_eq_true, if_false, pure_bind]
    exact clos_go r cs h.2
theorem clos0 {scope : Scope} {e : Env} (h : (scope.names.all fun p => p.2 != .free) = true) : closureFor scope e = pure [] := by
  unfold closureFor
  have := clos_go (e := e) scope.names [] h
  simpa using congrArg (· >>= fun cs => pure cs) this
theorem clos_one {e : Env} {x : Str} {a : Addr} (hx : e.cells.lookup x = some a) : ∀ (l : List (Str × NameKind)) (cs : List (Str × Addr)), l.filter (fun p => p.2 == .free) = [(x, .free)] → (forIn l cs fun (p : Str × NameKind) (cs : List (Str × Addr)) => if (p.2 == .free) = true then (do let a ← cellOf e p.1; pure (ForInStep.yield ((p.1, a) :: cs))) else (pure (ForInStep.yield cs) : Sem _)) = pure ((x, a) :: cs)
  | [], cs, h => by simp at h
  | (n, k) :: r, cs, h => by
    rw [List.forIn_cons]
    by_cases hk : (k == NameKind.free) = true
    · simp only [List.filter_cons, hk, if_true] at h
      injection h with h1 h2
      cases h1
      simp only [hk, if_true]
      have hc : cellOf e x = pure a := by unfold cellOf; rw [hx]
      rw [hc]
      simp only [pure_bind]
      refine clos_go r _ ?_
      rw [List.all_eq_true]
      intro p hp
      have := List.filter_eq_nil_iff.mp h2 p hp
      simpa using this
    · simp only [List.filter_cons, hk, Bool.false_eq_true, if_false] at h
      simp only [hk, Bool.false_eq_true, if_false, pure_bind]
      exact clos_one hx r cs h
theorem clos1 {scope : Scope} {e : Env} {x : Str} {a : Addr} (h : scope.names.filter (fun p => p.2 == .free) = [(x, .free)]) (hx : e.cells.lookup x = some a) : closureFor scope e = pure [(x, a)] := by
  unfold closureFor
  have := clos_one hx scope.names [] h
  simpa using congrArg (· >>= fun cs => pure cs) this
theorem swaps_ct {elt : Expr} {g : List Comprehension} {scope sc : Scope} {pos py : Pos} {y : Str} {line : Nat} {e : Env} (h : e.scope = sc)
    (k : (sc.kind == .function && sc.names.lookup y == some .local && py.line == pos.line && !(scope.names.any fun p => p.1 == y && (p.2 == .local || p.2 == .cell))) = true) :
    swapsWith (.ListComp elt g scope pos) (some (.Name y py)) line e = pure true := by
  subst h
  show (pure (e.blockKind == .function && e.kindOf y == some .local && py.line == pos.line && !(scope.names.any fun (n, k) => n == y && (k == .local || k == .cell))) : Sem Bool) = pure true
  congr 1
  simp only [Bool.and_eq_true] at k
  simp only [Bool.and_eq_true]
  refine ⟨⟨⟨?_, k.1.1.2⟩, k.1.2⟩, k.2⟩
  have := k.1.1.1
  simp only [beq_iff_eq] at this
  simp [Env.blockKind, this]
section
variable {c : Cx} {K : Frag} {D : Nat} {E : EP} {sc : Scope} {ρ : Loc} {Γ Γ' : Led} {Q : AV → Led → Prop} {QF : AF → Loc → Led → Prop} {QB : Bool → Led → Prop} {s : Shared} {x : Str} {pos : Pos}
theorem hCellv {c : Cx} {K : Frag} {D : Nat} {E : EP} {sc : Scope} {cs : List (Str × Addr)} (I : In c K D) (hs : c.env.scope = sc) (hc : c.env.cells = cs) {x : Str} (hk : (sc.names.lookup x == some .cell || sc.names.lookup x == some .free) = true) (hd : (x == Str.ofString "__debug__" || x == Str.ofString "__classdict__") = false)
    {a : Addr} (hl : Lk x cs a) (hn : (cs.map (·.1)).Nodup) {Γ : Led} {v : AV} (l : Lk a Γ (.cell (some v))) {ρ : Loc} {pos : Pos} {Q : AV → Led → Prop} (q : Q v Γ) : HE c (.Name x pos) ρ Γ Q E := by
  simp only [Bool.or_eq_true, Bool.or_eq_false_iff, beq_iff_eq] at hk hd
  exact hCell I hs hc hk (by simpa using hd.1) (by simpa using hd.2) (hl.lookup hn) l q
/-- a comprehension that names no cell -/
noncomputable abbrev HE_Comp0_k1 (c : Cx) (K : Frag) (D : Nat) (Q : AV → Led → Prop) (E : EP) (sc : Scope) (elt : Expr) (y : Str) (ifs : List Expr) (scope : Scope) := fun (a : AV) (Γ₁ : Led) => ∃ xs o Inv J, Src c a xs o Inv ∧ J 0 [] Γ₁ ∧ CompT c K D (relab scope sc) [] y ifs elt xs o Inv J E ∧ ∀ l ys Γ', J xs.length ys Γ' → Q (.ref l) ((l, .list ys) :: Γ')
theorem HE_Comp0 (I : In c K D) {elt iter : Expr} {y : Str} {px : Pos} {ifs : List Expr} {scope : Scope} {cs : List (Str × Addr)} (hs : c.env.scope = sc) (hc : c.env.cells = cs)
    (hfold : ∀ x, foldedSetIterable iter c.env x = pure x) (hk : (scope.names.all fun p => p.2 != .free && p.2 != .cell && (p.2 != .local || scope.names.lookup p.1 == some .local)) = true) (hkind : (scope.kind == .function && sc.kind == .function && scope.names.lookup y == some .local) = true)
    (q : HE c iter ρ Γ (HE_Comp0_k1 c K D Q E sc elt y ifs scope) E) :
    HE c (.ListComp elt [⟨.Name y px, iter, ifs, 0⟩] scope pos) ρ Γ Q E := by
  have h := List.all_eq_true.mp hk
  simp only [Bool.and_eq_true, Bool.or_eq_true, bne_iff_ne, ne_eq, beq_iff_eq] at h hkind
  exact HE_Comp I hs hc hfold (fun e _ _ => clos0 (List.all_eq_true.mpr fun p hp => by simpa using (h p hp).1.1)) (fun e he => relab_of he hkind.1.2) (fun p hp => (h p hp).1.2) hkind.1.1 (fun p hp hl => (h p hp).2.resolve_left (fun n => n hl)) hkind.2 q
/-- one that names one cell -/
noncomputable abbrev HE_Comp1_k1 (c : Cx) (K : Frag) (D : Nat) (Q : AV → Led → Prop) (E : EP) (sc : Scope) (elt : Expr) (y : Str) (ifs : List Expr) (scope : Scope) (z : Str) (a : Addr) := fun (a₁ : AV) (Γ₁ : Led) => ∃ xs o Inv J, Src c a₁ xs o Inv ∧ J 0 [] Γ₁ ∧ CompT c K D (relab scope sc) [(z, a)] y ifs elt xs o Inv J E ∧ ∀ l ys Γ', J xs.length ys Γ' → Q (.ref l) ((l, .list ys) :: Γ')
theorem HE_Comp1 (I : In c K D) {elt iter : Expr} {y : Str} {px : Pos} {ifs : List Expr} {scope : Scope} {cs : List (Str × Addr)} {z : Str} {a : Addr} (hs : c.env.scope = sc) (hc : c.env.cells = cs)
    (hfold : ∀ x, foldedSetIterable iter c.env x = pure x) (hk : (scope.names.all fun p => p.2 != .cell && (p.2 != .local || scope.names.lookup p.1 == some .local)) = true) (hkind : (scope.kind == .function && sc.kind == .function && scope.names.lookup y == some .local) = true)
    (hz : scope.names.filter (fun p => p.2 == .free) = [(z, .free)]) (hl : Lk z cs a) (hn : (cs.map (·.1)).Nodup)
    (q : HE c iter ρ Γ (HE_Comp1_k1 c K D Q E sc elt y ifs scope z a) E) :
    HE c (.ListComp elt [⟨.Name y px, iter, ifs, 0⟩] scope pos) ρ Γ Q E := by
  have h := List.all_eq_true.mp hk
  simp only [Bool.and_eq_true, Bool.or_eq_true, bne_iff_ne, ne_eq, beq_iff_eq] at h hkind
  exact HE_Comp I hs hc hfold (fun e _ he => clos1 hz (by rw [he]; exact hl.lookup hn)) (fun e he => relab_of he hkind.1.2) (fun p hp => (h p hp).1) hkind.1.1 (fun p hp hl => (h p hp).2.resolve_left (fun n => n hl)) hkind.2 q
/-- the same, stored to a name -/
noncomputable abbrev HS_AssignComp0_k1 (c : Cx) (K : Frag) (D : Nat) (ρ : Loc) (QF : AF → Loc → Led → Prop) (E : EP) (sc : Scope) (elt : Expr) (x : Str) (y : Str) (ifs : List Expr) (scope : Scope) := fun (a : AV) (Γ₁ : Led) => ∃ xs o Inv J, Src c a xs o Inv ∧ J 0 [] Γ₁ ∧ CompT c K D (relab scope sc) [] x ifs elt xs o Inv J E ∧ ∀ l ys Γ', J xs.length ys Γ' → HSto y (.ref l) ρ (fun ρ' => QF .next ρ' ((l, .list ys) :: Γ'))
theorem HS_AssignComp0 (I : In c K D) {elt iter : Expr} {x y : Str} {px py : Pos} {ifs : List Expr} {scope : Scope} {cs : List (Str × Addr)} {spos : Pos} (hs : c.env.scope = sc) (hc : c.env.cells = cs)
    (hsw : ∀ e : Env, e.scope = sc → swapsWith (.ListComp elt [⟨.Name x px, iter, ifs, 0⟩] scope pos) (some (.Name y py)) spos.line e = pure true)
    (hfold : ∀ x, foldedSetIterable iter c.env x = pure x) (hk : (scope.names.all fun p => p.2 != .free && p.2 != .cell && (p.2 != .local || scope.names.lookup p.1 == some .local)) = true) (hkind : (scope.kind == .function && sc.kind == .function && scope.names.lookup x == some .local && sc.names.lookup y == some .local) = true)
    (q : HE c iter ρ Γ (HS_AssignComp0_k1 c K D ρ QF E sc elt x y ifs scope) E) :
    HS c (.Assign [.Name y py] (.ListComp elt [⟨.Name x px, iter, ifs, 0⟩] scope pos) spos) ρ Γ QF E := by
  have h := List.all_eq_true.mp hk
  simp only [Bool.and_eq_true, Bool.or_eq_true, bne_iff_ne, ne_eq, beq_iff_eq] at h hkind
  exact HS_AssignComp I hs hc hsw hfold (fun e _ _ => clos0 (List.all_eq_true.mpr fun p hp => by simpa using (h p hp).1.1)) (fun e he => relab_of he hkind.1.1.2) (fun p hp => (h p hp).1.2) hkind.1.1.1 (fun p hp hl => (h p hp).2.resolve_left (fun n => n hl)) hkind.1.2 hkind.2 q
noncomputable abbrev HS_AssignComp1_k1 (c : Cx) (K : Frag) (D : Nat) (ρ : Loc) (QF : AF → Loc → Led → Prop) (E : EP) (sc : Scope) (elt : Expr) (x : Str) (y : Str) (ifs : List Expr) (scope : Scope) (z : Str) (a : Addr) := fun (a₁ : AV) (Γ₁ : Led) => ∃ xs o Inv J, Src c a₁ xs o Inv ∧ J 0 [] Γ₁ ∧ CompT c K D (relab scope sc) [(z, a)] x ifs elt xs o Inv J E ∧ ∀ l ys Γ', J xs.length ys Γ' → HSto y (.ref l) ρ (fun ρ' => QF .next ρ' ((l, .list ys) :: Γ'))
theorem HS_AssignComp1 (I : In c K D) {elt iter : Expr} {x y : Str} {px py : Pos} {ifs : List Expr} {scope : Scope} {cs : List (Str × Addr)} {spos : Pos} {z : Str} {a : Addr} (hs : c.env.scope = sc) (hc : c.env.cells = cs)
    (hsw : ∀ e : Env, e.scope = sc → swapsWith (.ListComp elt [⟨.Name x px, iter, ifs, 0⟩] scope pos) (some (.Name y py)) spos.line e = pure true)
    (hfold : ∀ x, foldedSetIterable iter c.env x = pure x) (hk : (scope.names.all fun p => p.2 != .cell && (p.2 != .local || scope.names.lookup p.1 == some .local)) = true) (hkind : (scope.kind == .function && sc.kind == .function && scope.names.lookup x == some .local && sc.names.lookup y == some .local) = true)
    (hz : scope.names.filter (fun p => p.2 == .free) = [(z, .free)]) (hl : Lk z cs a) (hn : (cs.map (·.1)).Nodup)
    (q : HE c iter ρ Γ (HS_AssignComp1_k1 c K D ρ QF E sc elt x y ifs scope z a) E) :
    HS c (.Assign [.Name y py] (.ListComp elt [⟨.Name x px, iter, ifs, 0⟩] scope pos) spos) ρ Γ QF E := by
  have h := List.all_eq_true.mp hk
  simp only [Bool.and_eq_true, Bool.or_eq_true, bne_iff_ne, ne_eq, beq_iff_eq] at h hkind
  exact HS_AssignComp I hs hc hsw hfold (fun e _ he => clos1 hz (by rw [he]; exact hl.lookup hn)) (fun e he => relab_of he hkind.1.1.2) (fun p hp => (h p hp).1) hkind.1.1.1 (fun p hp hl => (h p hp).2.resolve_left (fun n => n hl)) hkind.1.2 hkind.2 q
end
/-! what is asked of a class of the program -/
structure ClsI (K : Frag) (C : Addr) (ns : List Str) : Prop where
  ga : findIn K (.ref C) (Str.ofString "__getattribute__") = some (some (.builtin "object.__getattribute__"))
  gt : findIn K (.ref C) (Str.ofString "__getattr__") = some none
  hd : hasDictIn K C = true
  sa : findIn K (.ref C) (Str.ofString "__setattr__") = some (some (.builtin "object.__setattr__"))
  po : plainOver K C = true
  no : (ns.map fun n => findIn K (.ref C) n) = ns.map fun _ => some none
theorem ClsI.at {K : Frag} {C : Addr} {ns : List Str} (A : ClsI K C ns) {n : Str} (h : (ns.any (· == n)) = true) : findIn K (.ref C) n = some none := by
  obtain ⟨m, hm, e⟩ := List.any_eq_true.mp h
  rw [beq_iff_eq] at e; subst e
  exact List.map_inj_left.mp A.no _ hm
section
variable {c : Cx} {K : Frag} {D : Nat} {E : EP} {sc : Scope} {ρ : Loc} {Γ Γ' : Led} {Q : AV → Led → Prop} {QU : Led → Prop} {QF : AF → Loc → Led → Prop} {QB : Bool → Led → Prop} {s : Shared} {x : Addr} {pos : Pos}
theorem HAt_i (I : In c K D) {d C : Addr} {es : List (Str × AV)} {name : Str} {a : AV} {ns : List Str} (hx : Lk x Γ (.inst C d)) (hd : Lk d Γ (.sd es)) (hl : Lk name es a) (A : ClsI K C ns) (hm : (ns.any (· == name)) = true) (hb : a.noBi = true) (q : Q a Γ) : HAt c (.ref x) name Γ Q E :=
  HAt_inst I hx hd hl A.ga A.hd (A.at hm) rfl hb q
theorem HSAt_i (I : In c K D) {d C : Addr} {es es' : List (Str × AV)} {name : Str} {a : AV} {ns : List Str} (hx : Lk x Γ (.inst C d)) (hd : Lk d Γ (.sd es)) (A : ClsI K C ns) (hm : (ns.any (· == name)) = true) (hz : es.length ≤ 99) (P : Put name a es es') (U : Up d (.sd es') Γ Γ') (q : QU Γ') : HSAt c (.ref x) name a Γ QU E :=
  HSAt_inst I hx hd hz P U A.sa A.po (by unfold takerIn; rw [A.at hm]; rfl) A.hd q
theorem HM_i (I : In c K D) {d C f : Addr} {es : List (Str × AV)} {name : Str} {ns : List Str} {st : Stmt} {cl : List (Str × Addr)} {dV : Value} {QM : AV → List AV → Led → Prop} (hx : Lk x Γ (.inst C d)) (hd : Lk d Γ (.sd es)) (hn : (es.map (·.1)).any (· == name) = false) (A : ClsI K C ns) (hf : findIn K (.ref C) name = some (some (.ref f))) (F : Fn K f st cl dV)
    (q : QM (.ref f) [.ref x] Γ) : HM c (.ref x) name Γ QM E :=
  HM_fn I hx hd (fun m => by rw [List.any_eq_false] at hn; exact hn _ m (beq_self_eq_true _)) A.ga A.gt hf (type_fn F) q
theorem HM_append {l : Addr} {xs : List AV} {QM : AV → List AV → Led → Prop} (hl : Lk l Γ (.list xs)) (q : QM (.bi "list.append") [.ref l] Γ) : HM c (.ref l) (Str.ofString "append") Γ QM E := HM_list hl F.slot_list_append rfl q
theorem HM_pop {l : Addr} {xs : List AV} {QM : AV → List AV → Led → Prop} (hl : Lk l Γ (.list xs)) (q : QM (.bi "list.pop") [.ref l] Γ) : HM c (.ref l) (Str.ofString "pop") Γ QM E := HM_list hl F.slot_list_pop rfl q
theorem HM_extend {l : Addr} {xs : List AV} {QM : AV → List AV → Led → Prop} (hl : Lk l Γ (.list xs)) (q : QM (.bi "list.extend") [.ref l] Γ) : HM c (.ref l) (Str.ofString "extend") Γ QM E := HM_list hl F.slot_list_extend rfl q
theorem HM_appendl {l : Addr} {n : Nat} {QM : AV → List AV → Led → Prop} (hl : Lk l Γ (.lst n)) (q : QM (.bi "list.append") [.ref l] Γ) : HM c (.ref l) (Str.ofString "append") Γ QM E := HM_lst hl F.slot_list_append rfl q
end
noncomputable section
variable {W : Params}
theorem fn_38 : Fn (KF W) 38 (mS 4 0) [(Str.ofString "__class__", 25)] (vR 30) := ⟨g38, _, by kernel_rfl, rfl, rfl, by kernel_rfl, rfl, rfl, rfl, rfl, rfl, rfl, trivial⟩
theorem fn_72 : Fn (KF W) 72 (tS 8) [] vN := ⟨g72, _, by kernel_rfl, rfl, rfl, by kernel_rfl, rfl, rfl, rfl, rfl, rfl, rfl, trivial⟩
theorem fn_121 : Fn (KF W) 121 (tS 15) [] vN := ⟨g121, _, by kernel_rfl, rfl, rfl, by kernel_rfl, rfl, rfl, rfl, rfl, rfl, rfl, trivial⟩
theorem fn_128 : Fn (KF W) 128 (tS 16) [] vN := ⟨g128, _, by kernel_rfl, rfl, rfl, by kernel_rfl, rfl, rfl, rfl, rfl, rfl, rfl, trivial⟩
theorem fn_142 : Fn (KF W) 142 (tS 18) [] vN := ⟨g142, _, by kernel_rfl, rfl, rfl, by kernel_rfl, rfl, rfl, rfl, rfl, rfl, rfl, trivial⟩
theorem fn_241 : Fn (KF W) 241 (tS 35) [] vN := ⟨g241, _, by kernel_rfl, rfl, rfl, by kernel_rfl, rfl, rfl, rfl, rfl, rfl, rfl, trivial⟩
theorem fn_269 : Fn (KF W) 269 (tS 39) [] vN := ⟨g269, _, by kernel_rfl, rfl, rfl, by kernel_rfl, rfl, rfl, rfl, rfl, rfl, rfl, trivial⟩
theorem fn_274 : Fn (KF W) 274 (tS 45) [] vN := ⟨g274, _, by kernel_rfl, rfl, rfl, by kernel_rfl, rfl, rfl, rfl, rfl, rfl, rfl, trivial⟩
theorem fn_281 : Fn (KF W) 281 (tS 46) [] vN := ⟨g281, _, by kernel_rfl, rfl, rfl, by kernel_rfl, rfl, rfl, rfl, rfl, rfl, rfl, trivial⟩
theorem fn_288 : Fn (KF W) 288 (tS 47) [] vN := ⟨g288, _, by kernel_rfl, rfl, rfl, by kernel_rfl, rfl, rfl, rfl, rfl, rfl, rfl, trivial⟩
theorem fn_295 : Fn (KF W) 295 (tS 48) [] vN := ⟨g295, _, by kernel_rfl, rfl, rfl, by kernel_rfl, rfl, rfl, rfl, rfl, rfl, rfl, trivial⟩
theorem fn_302 : Fn (KF W) 302 (tS 49) [] vN := ⟨g302, _, by kernel_rfl, rfl, rfl, by kernel_rfl, rfl, rfl, rfl, rfl, rfl, rfl, trivial⟩
theorem fn_309 : Fn (KF W) 309 (tS 51) [] vN := ⟨g309, _, by kernel_rfl, rfl, rfl, by kernel_rfl, rfl, rfl, rfl, rfl, rfl, rfl, trivial⟩
theorem fn_351 : Fn (KF W) 351 (mS 60 0) [] vN := ⟨g351, _, by kernel_rfl, rfl, rfl, by kernel_rfl, rfl, rfl, rfl, rfl, rfl, rfl, trivial⟩
theorem fn_365 : Fn (KF W) 365 (tS 61) [] vN := ⟨g365, _, by kernel_rfl, rfl, rfl, by kernel_rfl, rfl, rfl, rfl, rfl, rfl, rfl, trivial⟩
theorem fn_372 : Fn (KF W) 372 (tS 62) [] vN := ⟨g372, _, by kernel_rfl, rfl, rfl, by kernel_rfl, rfl, rfl, rfl, rfl, rfl, rfl, trivial⟩
theorem fn_379 : Fn (KF W) 379 (tS 64) [] vN := ⟨g379, _, by kernel_rfl, rfl, rfl, by kernel_rfl, rfl, rfl, rfl, rfl, rfl, rfl, trivial⟩
theorem fn_386 : Fn (KF W) 386 (tS 65) [] vN := ⟨g386, _, by kernel_rfl, rfl, rfl, by kernel_rfl, rfl, rfl, rfl, rfl, rfl, rfl, trivial⟩
theorem fn_393 : Fn (KF W) 393 (tS 66) [] vN := ⟨g393, _, by kernel_rfl, rfl, rfl, by kernel_rfl, rfl, rfl, rfl, rfl, rfl, rfl, trivial⟩
theorem fn_400 : Fn (KF W) 400 (tS 67) [] vN := ⟨g400, _, by kernel_rfl, rfl, rfl, by kernel_rfl, rfl, rfl, rfl, rfl, rfl, rfl, trivial⟩
theorem fn_407 : Fn (KF W) 407 (tS 68) [] vN := ⟨g407, _, by kernel_rfl, rfl, rfl, by kernel_rfl, rfl, rfl, rfl, rfl, rfl, rfl, trivial⟩
theorem fn_414 : Fn (KF W) 414 (tS 69) [] vN := ⟨g414, _, by kernel_rfl, rfl, rfl, by kernel_rfl, rfl, rfl, rfl, rfl, rfl, rfl, trivial⟩
theorem fn_428 : Fn (KF W) 428 (mS 71 0) [] vN := ⟨g428, _, by kernel_rfl, rfl, rfl, by kernel_rfl, rfl, rfl, rfl, rfl, rfl, rfl, trivial⟩
theorem fn_442 : Fn (KF W) 442 (tS 72) [] vN := ⟨g442, _, by kernel_rfl, rfl, rfl, by kernel_rfl, rfl, rfl, rfl, rfl, rfl, rfl, trivial⟩
theorem fn_470 : Fn (KF W) 470 (tS 76) [] vN := ⟨g470, _, by kernel_rfl, rfl, rfl, by kernel_rfl, rfl, rfl, rfl, rfl, rfl, rfl, trivial⟩
theorem fn_477 : Fn (KF W) 477 (tS 77) [] vN := ⟨g477, _, by kernel_rfl, rfl, rfl, by kernel_rfl, rfl, rfl, rfl, rfl, rfl, rfl, trivial⟩
theorem fn_540 : Fn (KF W) 540 (tS 86) [] vN := ⟨g540, _, by kernel_rfl, rfl, rfl, by kernel_rfl, rfl, rfl, rfl, rfl, rfl, rfl, trivial⟩
theorem fn_547 : Fn (KF W) 547 (tS 87) [] vN := ⟨g547, _, by kernel_rfl, rfl, rfl, by kernel_rfl, rfl, rfl, rfl, rfl, rfl, rfl, trivial⟩
theorem fn_552 : Fn (KF W) 552 (tS 88) [] vN := ⟨g552, _, by kernel_rfl, rfl, rfl, by kernel_rfl, rfl, rfl, rfl, rfl, rfl, rfl, trivial⟩
theorem fn_559 : Fn (KF W) 559 (tS 90) [] vN := ⟨g559, _, by kernel_rfl, rfl, rfl, by kernel_rfl, rfl, rfl, rfl, rfl, rfl, rfl, trivial⟩
theorem fn_566 : Fn (KF W) 566 (tS 91) [] vN := ⟨g566, _, by kernel_rfl, rfl, rfl, by kernel_rfl, rfl, rfl, rfl, rfl, rfl, rfl, trivial⟩
theorem fn_573 : Fn (KF W) 573 (tS 92) [] vN := ⟨g573, _, by kernel_rfl, rfl, rfl, by kernel_rfl, rfl, rfl, rfl, rfl, rfl, rfl, trivial⟩
theorem fn_580 : Fn (KF W) 580 (tS 93) [] vN := ⟨g580, _, by kernel_rfl, rfl, rfl, by kernel_rfl, rfl, rfl, rfl, rfl, rfl, rfl, trivial⟩
theorem fn_587 : Fn (KF W) 587 (tS 94) [] vN := ⟨g587, _, by kernel_rfl, rfl, rfl, by kernel_rfl, rfl, rfl, rfl, rfl, rfl, rfl, trivial⟩
theorem fn_592 : Fn (KF W) 592 (tS 95) [] vN := ⟨g592, _, by kernel_rfl, rfl, rfl, by kernel_rfl, rfl, rfl, rfl, rfl, rfl, rfl, trivial⟩
theorem fn_599 : Fn (KF W) 599 (tS 96) [] vN := ⟨g599, _, by kernel_rfl, rfl, rfl, by kernel_rfl, rfl, rfl, rfl, rfl, rfl, rfl, trivial⟩
theorem fn_604 : Fn (KF W) 604 (tS 97) [] vN := ⟨g604, _, by kernel_rfl, rfl, rfl, by kernel_rfl, rfl, rfl, rfl, rfl, rfl, rfl, trivial⟩
theorem fn_609 : Fn (KF W) 609 (tS 98) [] vN := ⟨g609, _, by kernel_rfl, rfl, rfl, by kernel_rfl, rfl, rfl, rfl, rfl, rfl, rfl, trivial⟩
theorem fn_784 : Fn (KF W) 784 (mS 124 0) [] vN := ⟨g784, _, by kernel_rfl, rfl, rfl, by kernel_rfl, rfl, rfl, rfl, rfl, rfl, rfl, trivial⟩
theorem fn_813 : Fn (KF W) 813 (mS 127 0) [] (vR 806) := ⟨g813, _, by kernel_rfl, rfl, rfl, by kernel_rfl, rfl, rfl, rfl, rfl, rfl, rfl, trivial⟩
theorem fn_853 : Fn (KF W) 853 (tS 134) [] vN := ⟨g853, _, by kernel_rfl, rfl, rfl, by kernel_rfl, rfl, rfl, rfl, rfl, rfl, rfl, trivial⟩
theorem fn_895 : Fn (KF W) 895 (tS 143) [] vN := ⟨g895, _, by kernel_rfl, rfl, rfl, by kernel_rfl, rfl, rfl, rfl, rfl, rfl, rfl, trivial⟩
theorem fn_902 : Fn (KF W) 902 (tS 144) [] vN := ⟨g902, _, by kernel_rfl, rfl, rfl, by kernel_rfl, rfl, rfl, rfl, rfl, rfl, rfl, trivial⟩
theorem fn_907 : Fn (KF W) 907 (tS 145) [] vN := ⟨g907, _, by kernel_rfl, rfl, rfl, by kernel_rfl, rfl, rfl, rfl, rfl, rfl, rfl, trivial⟩
theorem fn_921 : Fn (KF W) 921 (mS 149 0) [] vN := ⟨g921, _, by kernel_rfl, rfl, rfl, by kernel_rfl, rfl, rfl, rfl, rfl, rfl, rfl, trivial⟩
theorem fn_928 : Fn (KF W) 928 (mS 149 1) [] vN := ⟨g928, _, by kernel_rfl, rfl, rfl, by kernel_rfl, rfl, rfl, rfl, rfl, rfl, rfl, trivial⟩
theorem fn_935 : Fn (KF W) 935 (mS 149 2) [] vN := ⟨g935, _, by kernel_rfl, rfl, rfl, by kernel_rfl, rfl, rfl, rfl, rfl, rfl, rfl, trivial⟩
theorem fn_954 : Fn (KF W) 954 (mS 149 5) [] vN := ⟨g954, _, by kernel_rfl, rfl, rfl, by kernel_rfl, rfl, rfl, rfl, rfl, rfl, rfl, trivial⟩
theorem fn_961 : Fn (KF W) 961 (mS 149 6) [] vN := ⟨g961, _, by kernel_rfl, rfl, rfl, by kernel_rfl, rfl, rfl, rfl, rfl, rfl, rfl, trivial⟩
theorem fn_975 : Fn (KF W) 975 (mS 149 8) [] vN := ⟨g975, _, by kernel_rfl, rfl, rfl, by kernel_rfl, rfl, rfl, rfl, rfl, rfl, rfl, trivial⟩
theorem fn_1031 : Fn (KF W) 1031 (tS 151) [] vN := ⟨g1031, _, by kernel_rfl, rfl, rfl, by kernel_rfl, rfl, rfl, rfl, rfl, rfl, rfl, trivial⟩
theorem fn_1038 : Fn (KF W) 1038 (tS 152) [] vN := ⟨g1038, _, by kernel_rfl, rfl, rfl, by kernel_rfl, rfl, rfl, rfl, rfl, rfl, rfl, trivial⟩
theorem fn_1045 : Fn (KF W) 1045 (tS 153) [] vN := ⟨g1045, _, by kernel_rfl, rfl, rfl, by kernel_rfl, rfl, rfl, rfl, rfl, rfl, rfl, trivial⟩
theorem fn_1052 : Fn (KF W) 1052 (tS 154) [] vN := ⟨g1052, _, by kernel_rfl, rfl, rfl, by kernel_rfl, rfl, rfl, rfl, rfl, rfl, rfl, trivial⟩
theorem fn_1057 : Fn (KF W) 1057 (tS 155) [] vN := ⟨g1057, _, by kernel_rfl, rfl, rfl, by kernel_rfl, rfl, rfl, rfl, rfl, rfl, rfl, trivial⟩
theorem fn_1064 : Fn (KF W) 1064 (tS 156) [] vN := ⟨g1064, _, by kernel_rfl, rfl, rfl, by kernel_rfl, rfl, rfl, rfl, rfl, rfl, rfl, trivial⟩
theorem fn_1071 : Fn (KF W) 1071 (tS 157) [] vN := ⟨g1071, _, by kernel_rfl, rfl, rfl, by kernel_rfl, rfl, rfl, rfl, rfl, rfl, rfl, trivial⟩
theorem fn_1076 : Fn (KF W) 1076 (tS 158) [] vN := ⟨g1076, _, by kernel_rfl, rfl, rfl, by kernel_rfl, rfl, rfl, rfl, rfl, rfl, rfl, trivial⟩
theorem fn_1083 : Fn (KF W) 1083 (tS 159) [] vN := ⟨g1083, _, by kernel_rfl, rfl, rfl, by kernel_rfl, rfl, rfl, rfl, rfl, rfl, rfl, trivial⟩
theorem fn_1090 : Fn (KF W) 1090 (tS 160) [] vN := ⟨g1090, _, by kernel_rfl, rfl, rfl, by kernel_rfl, rfl, rfl, rfl, rfl, rfl, rfl, trivial⟩
theorem fn_1095 : Fn (KF W) 1095 (tS 161) [] vN := ⟨g1095, _, by kernel_rfl, rfl, rfl, by kernel_rfl, rfl, rfl, rfl, rfl, rfl, rfl, trivial⟩
noncomputable def glL : List (String × Option Value) := [("BasicError", some (vR 41)), ("kind_of", some (vR 72)), ("fits", some (vR 121)), ("whole_of", some (vR 128)), ("text_of", some (vR 142)), ("figures_text", some (vR 241)), ("whole_text", some (vR 269)), ("ROW_END", some (vS "\n" 538)), ("MOST_CHANNEL", some (vI 15 532)), ("MOST_NAME", some (vI 30 534)), ("check_name", some (vR 274)), ("open_file", some (vR 281)), ("is_written_elsewhere", some (vR 288)), ("channel_of", some (vR 295)), ("write_text", some (vR 372)), ("write_text_files", some (vR 302)), ("write_row", some (vR 309)), ("Page", some (vR 354)), ("end_row", some (vR 365)), ("write_text_printing", some (vR 372)), ("write_zone", some (vR 379)), ("MOST_COLUMN", some (vI 255 645)), ("within_row", some (vR 386)), ("write_blanks", some (vR 393)), ("write_tab", some (vR 400)), ("write_part", some (vR 407)), ("write_parts", some (vR 414)), ("Picture", some (vR 431)), ("begins_number", some (vR 442)), ("read_pieces", some (vR 470)), ("piece_at", some (vR 477)), ("value_by", some (vR 540)), ("is_plain", some (vR 547)), ("using_text", some (vR 552)), ("shown", some (vR 559)), ("print_parts", some (vR 566)), ("channel_told", some (vR 573)), ("unfinished", some (vR 580)), ("file_page", some (vR 587)), ("write_page", some (vR 592)), ("do_print", some (vR 599)), ("do_using", some (vR 604)), ("do_write", some (vR 609)), ("Control", some (vR 787)), ("World", some (vR 816)), ("parts_of_tree", some (vR 853)), ("worth_of_leaf", some (vR 895)), ("worth_of_tree", some (vR 902)), ("worth_worth", some (vR 907)), ("MOST_PILE", some (vI 20 1498)), ("WorkRun", some (vR 1020)), ("ZONE", some (vI 14 641)), ("WIDTH", some (vI 72 643)), ("_law_next", some (vR 1031)), ("_law_text", some (vR 1038)), ("_law_item", some (vR 1045)), ("_law_value", some (vR 1052)), ("_law_order", some (vR 1057)), ("_law_worth", some (vR 1064)), ("_law_printed", some (vR 1071)), ("_law_done", some (vR 1076)), ("_law_code", some (vR 1083)), ("_law_put", some (vR 1090)), ("len", none), ("isinstance", none), ("chr", none), ("abs", none), ("str", none), ("list", none), ("int", none), ("range", none), ("reversed", none), ("tuple", none), ("super", none), ("ord", none)]
theorem gl_all : glL.map (fun p => nsIn (KF W) mainGlobals (Str.ofString p.1)) = glL.map fun p => some p.2 := by kernel_rfl
theorem gl_at (i : Nat) {n : String} {v : Option Value} (h : glL[i]? = some (n, v)) : nsIn (KF W) mainGlobals (Str.ofString n) = some v := List.map_inj_left.mp gl_all _ (List.mem_of_getElem? h)
theorem gl_BasicError : nsIn (KF W) mainGlobals (Str.ofString "BasicError") = some (some (vR 41)) := gl_at 0 rfl
theorem gl_kind_of : nsIn (KF W) mainGlobals (Str.ofString "kind_of") = some (some (vR 72)) := gl_at 1 rfl
theorem gl_fits : nsIn (KF W) mainGlobals (Str.ofString "fits") = some (some (vR 121)) := gl_at 2 rfl
theorem gl_whole_of : nsIn (KF W) mainGlobals (Str.ofString "whole_of") = some (some (vR 128)) := gl_at 3 rfl
theorem gl_text_of : nsIn (KF W) mainGlobals (Str.ofString "text_of") = some (some (vR 142)) := gl_at 4 rfl
theorem gl_figures_text : nsIn (KF W) mainGlobals (Str.ofString "figures_text") = some (some (vR 241)) := gl_at 5 rfl
theorem gl_whole_text : nsIn (KF W) mainGlobals (Str.ofString "whole_text") = some (some (vR 269)) := gl_at 6 rfl
theorem gl_ROW_END : nsIn (KF W) mainGlobals (Str.ofString "ROW_END") = some (some (vS "\n" 538)) := gl_at 7 rfl
theorem gl_MOST_CHANNEL : nsIn (KF W) mainGlobals (Str.ofString "MOST_CHANNEL") = some (some (vI 15 532)) := gl_at 8 rfl
theorem gl_MOST_NAME : nsIn (KF W) mainGlobals (Str.ofString "MOST_NAME") = some (some (vI 30 534)) := gl_at 9 rfl
theorem gl_check_name : nsIn (KF W) mainGlobals (Str.ofString "check_name") = some (some (vR 274)) := gl_at 10 rfl
theorem gl_open_file : nsIn (KF W) mainGlobals (Str.ofString "open_file") = some (some (vR 281)) := gl_at 11 rfl
theorem gl_is_written_elsewhere : nsIn (KF W) mainGlobals (Str.ofString "is_written_elsewhere") = some (some (vR 288)) := gl_at 12 rfl
theorem gl_channel_of : nsIn (KF W) mainGlobals (Str.ofString "channel_of") = some (some (vR 295)) := gl_at 13 rfl
theorem gl_write_text : nsIn (KF W) mainGlobals (Str.ofString "write_text") = some (some (vR 372)) := gl_at 14 rfl
theorem gl_write_text_files : nsIn (KF W) mainGlobals (Str.ofString "write_text_files") = some (some (vR 302)) := gl_at 15 rfl
theorem gl_write_row : nsIn (KF W) mainGlobals (Str.ofString "write_row") = some (some (vR 309)) := gl_at 16 rfl
theorem gl_Page : nsIn (KF W) mainGlobals (Str.ofString "Page") = some (some (vR 354)) := gl_at 17 rfl
theorem gl_end_row : nsIn (KF W) mainGlobals (Str.ofString "end_row") = some (some (vR 365)) := gl_at 18 rfl
theorem gl_write_text_printing : nsIn (KF W) mainGlobals (Str.ofString "write_text_printing") = some (some (vR 372)) := gl_at 19 rfl
theorem gl_write_zone : nsIn (KF W) mainGlobals (Str.ofString "write_zone") = some (some (vR 379)) := gl_at 20 rfl
theorem gl_MOST_COLUMN : nsIn (KF W) mainGlobals (Str.ofString "MOST_COLUMN") = some (some (vI 255 645)) := gl_at 21 rfl
theorem gl_within_row : nsIn (KF W) mainGlobals (Str.ofString "within_row") = some (some (vR 386)) := gl_at 22 rfl
theorem gl_write_blanks : nsIn (KF W) mainGlobals (Str.ofString "write_blanks") = some (some (vR 393)) := gl_at 23 rfl
theorem gl_write_tab : nsIn (KF W) mainGlobals (Str.ofString "write_tab") = some (some (vR 400)) := gl_at 24 rfl
theorem gl_write_part : nsIn (KF W) mainGlobals (Str.ofString "write_part") = some (some (vR 407)) := gl_at 25 rfl
theorem gl_write_parts : nsIn (KF W) mainGlobals (Str.ofString "write_parts") = some (some (vR 414)) := gl_at 26 rfl
theorem gl_Picture : nsIn (KF W) mainGlobals (Str.ofString "Picture") = some (some (vR 431)) := gl_at 27 rfl
theorem gl_begins_number : nsIn (KF W) mainGlobals (Str.ofString "begins_number") = some (some (vR 442)) := gl_at 28 rfl
theorem gl_read_pieces : nsIn (KF W) mainGlobals (Str.ofString "read_pieces") = some (some (vR 470)) := gl_at 29 rfl
theorem gl_piece_at : nsIn (KF W) mainGlobals (Str.ofString "piece_at") = some (some (vR 477)) := gl_at 30 rfl
theorem gl_value_by : nsIn (KF W) mainGlobals (Str.ofString "value_by") = some (some (vR 540)) := gl_at 31 rfl
theorem gl_is_plain : nsIn (KF W) mainGlobals (Str.ofString "is_plain") = some (some (vR 547)) := gl_at 32 rfl
theorem gl_using_text : nsIn (KF W) mainGlobals (Str.ofString "using_text") = some (some (vR 552)) := gl_at 33 rfl
theorem gl_shown : nsIn (KF W) mainGlobals (Str.ofString "shown") = some (some (vR 559)) := gl_at 34 rfl
theorem gl_print_parts : nsIn (KF W) mainGlobals (Str.ofString "print_parts") = some (some (vR 566)) := gl_at 35 rfl
theorem gl_channel_told : nsIn (KF W) mainGlobals (Str.ofString "channel_told") = some (some (vR 573)) := gl_at 36 rfl
theorem gl_unfinished : nsIn (KF W) mainGlobals (Str.ofString "unfinished") = some (some (vR 580)) := gl_at 37 rfl
theorem gl_file_page : nsIn (KF W) mainGlobals (Str.ofString "file_page") = some (some (vR 587)) := gl_at 38 rfl
theorem gl_write_page : nsIn (KF W) mainGlobals (Str.ofString "write_page") = some (some (vR 592)) := gl_at 39 rfl
theorem gl_do_print : nsIn (KF W) mainGlobals (Str.ofString "do_print") = some (some (vR 599)) := gl_at 40 rfl
theorem gl_do_using : nsIn (KF W) mainGlobals (Str.ofString "do_using") = some (some (vR 604)) := gl_at 41 rfl
theorem gl_do_write : nsIn (KF W) mainGlobals (Str.ofString "do_write") = some (some (vR 609)) := gl_at 42 rfl
theorem gl_Control : nsIn (KF W) mainGlobals (Str.ofString "Control") = some (some (vR 787)) := gl_at 43 rfl
theorem gl_World : nsIn (KF W) mainGlobals (Str.ofString "World") = some (some (vR 816)) := gl_at 44 rfl
theorem gl_parts_of_tree : nsIn (KF W) mainGlobals (Str.ofString "parts_of_tree") = some (some (vR 853)) := gl_at 45 rfl
theorem gl_worth_of_leaf : nsIn (KF W) mainGlobals (Str.ofString "worth_of_leaf") = some (some (vR 895)) := gl_at 46 rfl
theorem gl_worth_of_tree : nsIn (KF W) mainGlobals (Str.ofString "worth_of_tree") = some (some (vR 902)) := gl_at 47 rfl
theorem gl_worth_worth : nsIn (KF W) mainGlobals (Str.ofString "worth_worth") = some (some (vR 907)) := gl_at 48 rfl
theorem gl_MOST_PILE : nsIn (KF W) mainGlobals (Str.ofString "MOST_PILE") = some (some (vI 20 1498)) := gl_at 49 rfl
theorem gl_WorkRun : nsIn (KF W) mainGlobals (Str.ofString "WorkRun") = some (some (vR 1020)) := gl_at 50 rfl
theorem gl_ZONE : nsIn (KF W) mainGlobals (Str.ofString "ZONE") = some (some (vI 14 641)) := gl_at 51 rfl
theorem gl_WIDTH : nsIn (KF W) mainGlobals (Str.ofString "WIDTH") = some (some (vI 72 643)) := gl_at 52 rfl
theorem gl__law_next : nsIn (KF W) mainGlobals (Str.ofString "_law_next") = some (some (vR 1031)) := gl_at 53 rfl
theorem gl__law_text : nsIn (KF W) mainGlobals (Str.ofString "_law_text") = some (some (vR 1038)) := gl_at 54 rfl
theorem gl__law_item : nsIn (KF W) mainGlobals (Str.ofString "_law_item") = some (some (vR 1045)) := gl_at 55 rfl
theorem gl__law_value : nsIn (KF W) mainGlobals (Str.ofString "_law_value") = some (some (vR 1052)) := gl_at 56 rfl
theorem gl__law_order : nsIn (KF W) mainGlobals (Str.ofString "_law_order") = some (some (vR 1057)) := gl_at 57 rfl
theorem gl__law_worth : nsIn (KF W) mainGlobals (Str.ofString "_law_worth") = some (some (vR 1064)) := gl_at 58 rfl
theorem gl__law_printed : nsIn (KF W) mainGlobals (Str.ofString "_law_printed") = some (some (vR 1071)) := gl_at 59 rfl
theorem gl__law_done : nsIn (KF W) mainGlobals (Str.ofString "_law_done") = some (some (vR 1076)) := gl_at 60 rfl
theorem gl__law_code : nsIn (KF W) mainGlobals (Str.ofString "_law_code") = some (some (vR 1083)) := gl_at 61 rfl
theorem gl__law_put : nsIn (KF W) mainGlobals (Str.ofString "_law_put") = some (some (vR 1090)) := gl_at 62 rfl
theorem gl_len : nsIn (KF W) mainGlobals (Str.ofString "len") = some none := gl_at 63 rfl
theorem gl_isinstance : nsIn (KF W) mainGlobals (Str.ofString "isinstance") = some none := gl_at 64 rfl
theorem gl_chr : nsIn (KF W) mainGlobals (Str.ofString "chr") = some none := gl_at 65 rfl
theorem gl_abs : nsIn (KF W) mainGlobals (Str.ofString "abs") = some none := gl_at 66 rfl
theorem gl_str : nsIn (KF W) mainGlobals (Str.ofString "str") = some none := gl_at 67 rfl
theorem gl_list : nsIn (KF W) mainGlobals (Str.ofString "list") = some none := gl_at 68 rfl
theorem gl_int : nsIn (KF W) mainGlobals (Str.ofString "int") = some none := gl_at 69 rfl
theorem gl_range : nsIn (KF W) mainGlobals (Str.ofString "range") = some none := gl_at 70 rfl
theorem gl_reversed : nsIn (KF W) mainGlobals (Str.ofString "reversed") = some none := gl_at 71 rfl
theorem gl_tuple : nsIn (KF W) mainGlobals (Str.ofString "tuple") = some none := gl_at 72 rfl
theorem gl_super : nsIn (KF W) mainGlobals (Str.ofString "super") = some none := gl_at 73 rfl
theorem gl_ord : nsIn (KF W) mainGlobals (Str.ofString "ord") = some none := gl_at 74 rfl
theorem kp_41 : keepIn (KF W) (.ref 41) = true := by kernel_rfl
theorem kp_354 : keepIn (KF W) (.ref 354) = true := by kernel_rfl
theorem kp_787 : keepIn (KF W) (.ref 787) = true := by kernel_rfl
theorem kp_816 : keepIn (KF W) (.ref 816) = true := by kernel_rfl
theorem kp_1020 : keepIn (KF W) (.ref 1020) = true := by kernel_rfl
theorem ci_816 : ClsI (KF W) 816 [Str.ofString "files", Str.ofString "open", Str.ofString "fns", Str.ofString "out", Str.ofString "row", Str.ofString "bits", Str.ofString "digits", Str.ofString "most_steps", Str.ofString "most_depth", Str.ofString "room", Str.ofString "names", Str.ofString "arrays", Str.ofString "kinds", Str.ofString "inputs", Str.ofString "fields", Str.ofString "data", Str.ofString "spot", Str.ofString "base", Str.ofString "seed", Str.ofString "steps", Str.ofString "depth", Str.ofString "handler", Str.ofString "is_handling", Str.ofString "error_line", Str.ofString "error_code", Str.ofString "is_traced", Str.ofString "traces", Str.ofString "common"] := ⟨by kernel_rfl, by kernel_rfl, by kernel_rfl, by kernel_rfl, by kernel_rfl, by kernel_rfl⟩
theorem ci_1020 : ClsI (KF W) 1020 [Str.ofString "world", Str.ofString "flat", Str.ofString "answers", Str.ofString "bits", Str.ofString "digits", Str.ofString "control", Str.ofString "asked"] := ⟨by kernel_rfl, by kernel_rfl, by kernel_rfl, by kernel_rfl, by kernel_rfl, by kernel_rfl⟩
theorem ci_354 : ClsI (KF W) 354 [Str.ofString "out", Str.ofString "row"] := ⟨by kernel_rfl, by kernel_rfl, by kernel_rfl, by kernel_rfl, by kernel_rfl, by kernel_rfl⟩
theorem ci_787 : ClsI (KF W) 787 [Str.ofString "pile", Str.ofString "most", Str.ofString "failed_at"] := ⟨by kernel_rfl, by kernel_rfl, by kernel_rfl, by kernel_rfl, by kernel_rfl, by kernel_rfl⟩
theorem mk_816 : makesIn (KF W) 816 = true := by kernel_rfl
theorem in_816 : findIn (KF W) (.ref 816) "__init__" = some (some (.ref 813)) := by kernel_rfl
theorem mk_1020 : makesIn (KF W) 1020 = true := by kernel_rfl
theorem in_1020 : findIn (KF W) (.ref 1020) "__init__" = some (some (.ref 921)) := by kernel_rfl
theorem mk_354 : makesIn (KF W) 354 = true := by kernel_rfl
theorem in_354 : findIn (KF W) (.ref 354) "__init__" = some (some (.ref 351)) := by kernel_rfl
theorem mk_787 : makesIn (KF W) 787 = true := by kernel_rfl
theorem in_787 : findIn (KF W) (.ref 787) "__init__" = some (some (.ref 784)) := by kernel_rfl
theorem mt_worth : findIn (KF W) (.ref 1020) (Str.ofString "worth") = some (some (.ref 928)) := by kernel_rfl
theorem mt_whole : findIn (KF W) (.ref 1020) (Str.ofString "whole") = some (some (.ref 935)) := by kernel_rfl
theorem mt_call : findIn (KF W) (.ref 1020) (Str.ofString "call") = some (some (.ref 954)) := by kernel_rfl
theorem mt_fn : findIn (KF W) (.ref 1020) (Str.ofString "fn") = some (some (.ref 961)) := by kernel_rfl
theorem mt_answered : findIn (KF W) (.ref 1020) (Str.ofString "answered") = some (some (.ref 975)) := by kernel_rfl
theorem in_41 : findIn (KF W) (.ref 41) "__init__" = some (some (.ref 38)) := by kernel_rfl
end
section
variable {c : Cx} {K : Frag} {D : Nat} {E : EP} {sc : Scope} {ρ : Loc} {Γ Γ' Γ₁ Γ₂ : Led} {Q : AV → Led → Prop} {QF : AF → Loc → Led → Prop} {QB : Bool → Led → Prop} {s : Shared}
/-! entries may be let go -/
theorem Sb.cons {p : Addr × AO} (h : Sb Γ₂ Γ₁) : Sb (p :: Γ₂) (p :: Γ₁) := ⟨fun {q} hq => by
    rcases List.mem_cons.mp hq with rfl | hq
    · exact .head _
    · exact .tail _ (h.subset hq), fun n => by
    have n := List.nodup_cons.mp n
    exact List.nodup_cons.mpr ⟨fun m => n.1 (h.adr m), h.nod n.2⟩⟩
theorem Sb.trans {Γ₃ : Led} (a : Sb Γ₁ Γ₂) (b : Sb Γ₂ Γ₃) : Sb Γ₁ Γ₃ := ⟨fun h => b.subset (a.subset h), fun h => a.nod (b.nod h)⟩
noncomputable abbrev HC_sub_k1 (Q : AV → Led → Prop) := fun (v : AV) (Γ₁ : Led) => ∃ Γ₂, Sb Γ₂ Γ₁ ∧ Q v Γ₂
theorem HC_sub {f : AV} {as : List AV} (q : HC c f as Γ (HC_sub_k1 Q) E) : HC c f as Γ Q E := fun s vf vs S hf hvs =>
  wpAny_mono (q s vf vs S hf hvs) (fun v s' ⟨Γ₁, S₁, P₁, a, hv, Γ₂, w, hq⟩ => ⟨Γ₂, S₁.subl w, P₁.sub fun p hp => w.subset hp, a, hv, hq⟩) fun _ _ x => x
theorem PX.sub {F : XF} {X : List Addr} {h : Heap} {x : Value} (p : PX c F X Γ h (fun k Γ₁ => ∃ Γ₂, Sb Γ₂ Γ₁ ∧ E k Γ₂) x s) : PX c F X Γ h E x s := by
  obtain ⟨e, d, T, fl, code, told, Γ', hx, ⟨S, P, A, h1, h2, h3⟩, h4, Γ₂, w, hE⟩ := p
  exact ⟨e, d, T, fl, code, told, Γ₂, hx, ⟨S.subl w.cons, P.sub fun p hp => w.cons.subset hp, A, fun m => h1 (w.cons.adr m), h2, fun t ht => ⟨fun m => (h3 t ht).1 (w.cons.adr m), (h3 t ht).2⟩⟩, h4, hE⟩
noncomputable abbrev HC_subE_k1 (E : EP) := fun (k : Str) (Γ₁ : Led) => ∃ Γ₂, Sb Γ₂ Γ₁ ∧ E k Γ₂
theorem HC_subE {f : AV} {as : List AV} (q : HC c f as Γ Q (HC_subE_k1 E)) : HC c f as Γ Q E := fun s vf vs S hf hvs =>
  wpAny_mono (q s vf vs S hf hvs) (fun v s' x => x) fun _ _ x => x.sub
/-- after a change, what stands elsewhere -/
theorem Up.oth {k j : Addr} {o o' p : AO} (U : Up k o' Γ Γ') (nd : (adr Γ).Nodup) (l : Lk k Γ o) (m : Lk j Γ p) (h : p ≠ o) : Lk j Γ' p := U.other (Lk.ne nd m l h) m
theorem Up.nod {k : Addr} {o : AO} (U : Up k o Γ Γ') (nd : (adr Γ).Nodup) : (adr Γ').Nodup := by rw [adr, U.keys]; exact nd
/-! dicts -/
theorem HSet_sdp {a : Addr} {es es' : List (Str × AV)} {k : Str} {x : AV} {Γ' : Led} {Q : Led → Prop} (h : Lk a Γ (.sd es)) (hl : es.length ≤ 99) (u : Put k x es es') (U : Up a (.sd es') Γ Γ') (q : Q Γ') : HSet c (.ref a) (.str k) x Γ Q E := fun s vo vi vv S ho hi hv => by
  cases ho.ref'; obtain ⟨t, rfl⟩ := hi.str'
  obtain ⟨kvs, hd, hk⟩ := S.or h
  have hn : (kvs.map (·.1)).Nodup := by obtain ⟨_, _, _, _, _, _, _, _, hn⟩ := hd; exact hn
  refine wpAny_setItem_pairs (strKind_is ..) hd (fun h' hd' hs => ?_) (by rw [hk.length]; exact Nat.le_trans hl sz99)
  have T := tups_but S U.key_mem hs
  exact ⟨Γ', (S.upd U hs ⟨_, hd', (hk.put hv hn u).tups T⟩).tok _, .upd U hs, q⟩
theorem HSet_idn {a : Addr} {es : List (Int × AV)} {k : Int} {x : AV} {Γ' : Led} {Q : Led → Prop} (h : Lk a Γ (.id es)) (hl : es.length ≤ 99) (u : k ∉ es.map (·.1)) (U : Up a (.id (es ++ [(k, x)])) Γ Γ') (q : Q Γ') : HSet c (.ref a) (.int k) x Γ Q E := fun s vo vi vv S ho hi hv => by
  cases ho.ref'; obtain ⟨t, rfl⟩ := hi.int'
  obtain ⟨kvs, hd, hk⟩ := S.or h
  refine wpAny_setItem_pairs (intKind_is ..) hd (fun h' hd' hs => ?_) (by rw [hk.length]; exact Nat.le_trans hl sz99)
  have T := tups_but S U.key_mem hs
  exact ⟨Γ', (S.upd U hs ⟨_, hd', (hk.new hv u).tups T⟩).tok _, .upd U hs, q⟩
theorem HM_get {d : Addr} {es : List (Str × AV)} {QM : AV → List AV → Led → Prop} (hl : Lk d Γ (.sd es)) (q : QM (.bi "dict.get") [.ref d] Γ) : HM c (.ref d) (Str.ofString "get") Γ QM E := HM_dict hl F.slot_dict_get rfl q
theorem HC_get_none {d : Addr} {k : Str} {es : List (Str × AV)} {x : AV} (hl : Lk d Γ (.sd es)) (hn : k ∉ es.map (·.1)) (hm : (d == sysModules) = false) (q : Q x Γ) : HC c (.bi "dict.get") [.ref d, .str k, x] Γ Q E := fun s vf vs S hf hvs => by
  cases hf; obtain ⟨v, u, w, rfl, hv, hu, hw⟩ := hvs.three; cases hv.ref'; obtain ⟨t, rfl⟩ := hu.str'
  obtain ⟨kvs, hd, hk⟩ := S.or hl
  have hv := hk.none hn
  refine wpAny_call (codeAny_call_builtin F.slot_dict_get.plain F.entry_dict_get (F.slot_dict_get.check _ _ _ _ _ _ _ _ hd.typeIs (F.args_dict_get_3 _ _ _)
    (meets_dict_get_default (strKind c.prog c.w) d (strKind_is ..) hm w _ (wants _ _) s ⟨_, hd.mapOf, ?_⟩)))
  rw [hv]
  exact retT S hw q
/-! calls of kinds -/
theorem HC_int {i : Int} (q : Q (.int i) Γ) : HC c (.ty "int") [.int i] Γ Q E := fun s vf vs S hf hvs => by
  cases hf; obtain ⟨v, rfl, hv⟩ := hvs.one; obtain ⟨t, rfl⟩ := hv.int'
  exact call_int_int (ret_ S (.int ..) q)
theorem HC_ord {n : Nat} (q : Q (.int n) Γ) : HC c (.bi "ord") [.str ⟨#[n]⟩] Γ Q E := fun s vf vs S hf hvs => by
  cases hf; obtain ⟨v, rfl, hv⟩ := hvs.one; obtain ⟨t, rfl⟩ := hv.str'
  exact P.ord_of_char (retT S (.int ..) q)
/-! lists compared -/
inductive Eqv : AV → AV → Bool → Prop where
  | str (x y : Str) : Eqv (.str x) (.str y) (x == y)
  | int (i j : Int) : Eqv (.int i) (.int j) (i == j)
inductive EqvL : List AV → List AV → List Bool → Prop where
  | nil : EqvL [] [] []
  | cons {a b : AV} {e : Bool} {as bs : List AV} {es : List Bool} : Eqv a b e → EqvL as bs es → EqvL (a :: as) (b :: bs) (e :: es)
theorem EqvL.len {as bs : List AV} {es : List Bool} (h : EqvL as bs es) : as.length = bs.length ∧ es.length = as.length := by
  induction h with
  | nil => exact ⟨rfl, rfl⟩
  | cons _ _ ih => exact ⟨congrArg (· + 1) ih.1, congrArg (· + 1) ih.2⟩
theorem Eqv.at {h : Heap} {v w : Value} {a b : AV} {e : Bool} (x : Eqv a b e) (hv : VR h v a) (hw : VR h w b) (A : Around) (s : Shared) : SeqAt.EqAt A s v w e := by
  cases x with
  | str x y => obtain ⟨t, rfl⟩ := hv.str'; obtain ⟨u, rfl⟩ := hw.str'; exact (PyProof.Rows.eqGives_str x y t u).at A s
  | int i j => obtain ⟨t, rfl⟩ := hv.int'; obtain ⟨u, rfl⟩ := hw.int'; exact (MeetsSeq.EqGives.int i j t u).at A s
theorem EqvL.get {h : Heap} {as bs : List AV} {es : List Bool} (x : EqvL as bs es) : ∀ {vs ws : List Value}, VRs h vs as → VRs h ws bs → ∀ (A : Around) (s : Shared) (j : Nat) (h1 : j < vs.length) (h2 : j < ws.length), SeqAt.EqAt A s vs[j] ws[j] (es.getD j true) := by
  induction x with
  | nil => intro vs ws hv hw A s j h1 h2; cases hv; exact absurd h1 (Nat.not_lt_zero _)
  | cons a _ ih =>
    intro vs ws hv hw A s j h1 h2
    cases hv with | cons hv hvs => cases hw with | cons hw hws =>
    cases j with
    | zero => exact a.at hv hw A s
    | succ j => exact ih hvs hws A s j (Nat.lt_of_succ_lt_succ h1) (Nat.lt_of_succ_lt_succ h2)
theorem all_get (es : List Bool) : ((List.range es.length).all fun j => es.getD j true) = es.all id := by
  rw [Bool.eq_iff_iff, List.all_eq_true, List.all_eq_true]
  constructor
  · intro h e he
    obtain ⟨i, hi, rfl⟩ := List.getElem_of_mem he
    have := h i (List.mem_range.mpr hi)
    simpa [List.getD_eq_getElem?_getD, List.getElem?_eq_getElem hi] using this
  · intro h j hj
    have hj := List.mem_range.mp hj
    simpa [List.getD_eq_getElem?_getD, List.getElem?_eq_getElem hj] using h _ (List.getElem_mem hj)
theorem room_of (I : In c K D) (hD : D ≤ 950) : c.A.units < cLine := Nat.lt_of_le_of_lt I.uni (by show 3 * D < 9900; lia)
theorem HCmp_ne_lists (I : In c K D) (hD : D ≤ 950) {a b : Addr} {xs ys : List AV} {es : List Bool} (ha : Lk a Γ (.list xs)) (hb : Lk b Γ (.list ys)) (x : EqvL xs ys es) (q : Q (.bool !(es.all id)) Γ) : HCmp c .NotEq (.ref a) (.ref b) Γ Q E := fun s va vb S h1 h2 => by
  cases h1.ref'; cases h2.ref'
  obtain ⟨vs, n, hL, hvs⟩ := S.or ha
  obtain ⟨ws, m, hM, hws⟩ := S.or hb
  have hz : vs.toArray.size = ws.toArray.size := by simp [hvs.length, hws.length, x.len.1]
  refine EqBoolInt.of_rcne (SeqAt.RcNeAt.lists (e := fun j => es.getD j true) hL.isList hM.isList hz (room_of I hD) fun j h1 h2 => by simpa using x.get hvs hws c.A.in1 s j (by simpa using h1) (by simpa using h2)) ?_
  rw [List.size_toArray, hvs.length, ← x.len.2, all_get]
  exact ret_ S (.bool _) q
theorem HCmp_eq_lists (I : In c K D) (hD : D ≤ 950) {a b : Addr} {xs ys : List AV} {es : List Bool} (ha : Lk a Γ (.list xs)) (hb : Lk b Γ (.list ys)) (x : EqvL xs ys es) (q : Q (.bool (es.all id)) Γ) : HCmp c .Eq (.ref a) (.ref b) Γ Q E := fun s va vb S h1 h2 => by
  cases h1.ref'; cases h2.ref'
  obtain ⟨vs, n, hL, hvs⟩ := S.or ha
  obtain ⟨ws, m, hM, hws⟩ := S.or hb
  have hz : vs.toArray.size = ws.toArray.size := by simp [hvs.length, hws.length, x.len.1]
  refine EqBoolInt.of_rc (SeqAt.RcAt.lists (e := fun j => es.getD j true) hL.isList hM.isList hz (room_of I hD) fun j h1 h2 => by simpa using x.get hvs hws c.A.in1 s j (by simpa using h1) (by simpa using h2)) ?_
  rw [List.size_toArray, hvs.length, ← x.len.2, all_get]
  exact ret_ S (.bool _) q
theorem HCmp_ne_lens (I : In c K D) (hD : D ≤ 950) {a b : Addr} {xs ys : List AV} (ha : Lk a Γ (.list xs)) (hb : Lk b Γ (.list ys)) (hl : xs.length ≠ ys.length) (q : Q (.bool true) Γ) : HCmp c .NotEq (.ref a) (.ref b) Γ Q E := fun s va vb S h1 h2 => by
  cases h1.ref'; cases h2.ref'
  obtain ⟨vs, n, hL, hvs⟩ := S.or ha
  obtain ⟨ws, m, hM, hws⟩ := S.or hb
  refine EqBoolInt.of_rcne (SeqAt.RcNeAt.lists_lengths hL.isList hM.isList (by simpa [hvs.length, hws.length] using hl) (room_of I hD)) ?_
  exact ret_ S (.bool _) q
/-! a text gone through -/
noncomputable def sitr (x : Str) (i : Nat) : AO := itr fun h a => ∃ t, h.IsStrIter a "str_ascii_iterator" x t i
theorem or_sit {prog : Program} {w : World} {h : Heap} {a : Addr} {x : Str} {i : Nat} {t : Tok} (y : h.IsStrIter a "str_ascii_iterator" x t i) : OR prog w h a (sitr x i) := by
  obtain ⟨o, ho, hc, hd⟩ := id y
  exact or_any ho hd ⟨t, y⟩ fun h₁ h₂ ⟨t, o, ho, r⟩ T k => ⟨t, o, k o ho, r⟩
noncomputable def signs (x : Str) : List AV := x.cps.toList.map fun n => .str ⟨#[n]⟩
theorem srcStr (G : Gd c) {x : Str} (ha : x.cps.all (· < 128) = true) : Src c (.str x) (signs x) (sitr x) (fun _ => True) where
  mono h := h
  iter S hv hI hQ := by
    obtain ⟨t, rfl⟩ := hv.str'
    exact wpAny_pyIter_ascii ha (hQ _ _ (S.pushed (or_sit (t := t) ⟨_, Heap.get?_push_size _ rfl, rfl, rfl⟩)) (Pres.pushed ..))
  self S hQ := by
    rename_i s it Γ Q E' i
    obtain ⟨t, hit⟩ := (S.or (a := it) (o := sitr x i) .here).1
    exact wpAny_pyIter_striter_ascii hit hQ
  next S hI hx hQ := by
    rename_i s it Γ Q E' i y
    obtain ⟨t, hit⟩ := (S.or (a := it) (o := sitr x i) .here).1
    obtain ⟨n, hn, rfl⟩ : ∃ n, x.cps[i]? = some n ∧ y = .str ⟨#[n]⟩ := by
      unfold signs at hx
      rw [List.getElem?_map, Option.map_eq_some_iff] at hx
      obtain ⟨n, hn, e⟩ := hx
      exact ⟨n, by simpa using hn, e.symm⟩
    refine wpAny_pyNext_ascii_item hit hn fun h' hit' hs => ?_
    have U : Up it (sitr x (i + 1)) ((it, sitr x i) :: Γ) ((it, sitr x (i + 1)) :: Γ) := .here
    exact hQ _ h' (s.toks + 1) ((S.upd U hs (or_sit hit')).tok _) (.upd U hs) (.str ..)
  stop S hI hQ := by
    rename_i s it Γ Q E'
    obtain ⟨t, hit⟩ := (S.or (a := it) (o := sitr x (signs x).length) .here).1
    refine wpAny_pyNext_ascii_end G.hdl hit (by simp [signs]) fun h' hs => ?_
    exact hQ h' (S.shed (t := s.toks) hs) (Pres.shed hs)
/-! a dict of whole numbers gone through -/
theorem HB_ide {b : List Stmt} {d : Addr} {es : List (Int × AV)} (l : Lk d Γ (.id es)) (q : ∀ ep Γ', Up d (.ide es ep) Γ Γ' → HB c b ρ Γ' QF E) : HB c b ρ Γ QF E := fun s S => by
  obtain ⟨kvs, ⟨o, ee, ep, ho, r⟩, hk⟩ := S.C.or l
  obtain ⟨Γ', U⟩ := Up.ex l (.ide es ep)
  have hsb : Heap.SameBut d s.heap s.heap := ⟨rfl, fun _ _ => rfl⟩
  have S' := S.C.upd (Γ' := Γ') U hsb (o := .ide es ep) ⟨kvs, ⟨o, ee, ho, r⟩, hk⟩
  have P' : Pres [] Γ s.heap Γ' s.heap := .upd U hsb
  exact wliftX (P'.mono sub_nil) (q ep Γ' U s (S.pres S' P'))
noncomputable abbrev HC_ide_k1 (Q : AV → Led → Prop) := fun (v : AV) (Γ₁ : Led) => ∃ d es ep Γ₂, Lk d Γ₁ (.ide es ep) ∧ Up d (.id es) Γ₁ Γ₂ ∧ Q v Γ₂
theorem HC_ide {f : AV} {as : List AV} (q : HC c f as Γ (HC_ide_k1 Q) E) : HC c f as Γ Q E := fun s vf vs S hf hvs =>
  wpAny_mono (q s vf vs S hf hvs) (fun v s' ⟨Γ₁, S₁, P₁, a, hv, d, es, ep, Γ₂, l, U, hq⟩ => by
    obtain ⟨kvs, ⟨o, ee, ho, r⟩, hk⟩ := S₁.or l
    have hsb : Heap.SameBut d s'.heap s'.heap := ⟨rfl, fun _ _ => rfl⟩
    exact ⟨Γ₂, S₁.upd U hsb ⟨kvs, ⟨o, ee, ep, ho, r⟩, hk⟩, P₁.trans (.upd U hsb), a, hv, hq⟩) fun _ _ x => x
noncomputable def kitr (d : Addr) (n ep i : Nat) : AO := itr fun h a => h.IsKeyIter a d i n ep
theorem or_kit {prog : Program} {w : World} {h : Heap} {a d : Addr} {n ep i : Nat} (y : h.IsKeyIter a d i n ep) : OR prog w h a (kitr d n ep i) := by
  obtain ⟨o, ho, hc, hd⟩ := id y
  exact or_any ho hd y fun h₁ h₂ ⟨o, ho, r⟩ T k => ⟨o, k o ho, r⟩
theorem KVR.get {κ : Type} {h : Heap} {r : List (κ × Value)} {r' : List (κ × AV)} (x : KVR h r r') : ∀ {i : Nat} {k : κ} {a : AV}, r'[i]? = some (k, a) → ∃ v, r[i]? = some (k, v) := by
  induction x with
  | nil => exact fun e => by rw [List.getElem?_nil] at e; cases e
  | cons hv hs ih => exact fun {i k a} e => by cases i with
    | zero => cases e; exact ⟨_, rfl⟩
    | succ i => exact ih (i := i) e
theorem int_key {prog : Program} {w : World} {k : Int} {key : Value} (h : (intKind prog w).is k key = true) : ∃ t, key = .int k t := by
  exact Value.isInt_shape h
theorem srcKeys (G : Gd c) {d : Addr} {es : List (Int × AV)} {ep : Nat} (hm : (d == sysModules) = false) : Src c (.ref d) (es.map fun p => .int p.1) (kitr d es.length ep) (fun Γ => Lk d Γ (.ide es ep)) where
  mono h := .there h
  iter S hv hI hQ := by
    rename_i s v Γ Q E'
    cases hv.ref'
    obtain ⟨kvs, hd, hk⟩ := S.or hI
    refine wpAny_pyIter_dict hm hd (hQ _ _ (S.pushed (ao := kitr d es.length ep 0) ?_) (Pres.pushed ..))
    rw [← hk.length]
    exact or_kit ⟨_, Heap.get?_push_size _ rfl, rfl, rfl⟩
  self S hQ := by
    rename_i s it Γ Q E' i
    have hit : s.heap.IsKeyIter it d i es.length ep := (S.or (a := it) (o := kitr d es.length ep i) .here).1
    exact wpAny_pyIter_keyiter hit hQ
  next S hI hx hQ := by
    rename_i s it Γ Q E' i y
    have hit : s.heap.IsKeyIter it d i es.length ep := (S.or (a := it) (o := kitr d es.length ep i) .here).1
    obtain ⟨kvs, hd, hk⟩ := S.or (.there hI)
    rw [List.getElem?_map, Option.map_eq_some_iff] at hx
    obtain ⟨⟨k, a⟩, hn, rfl⟩ := hx
    obtain ⟨v, hv⟩ := hk.get hn
    rw [← hk.length] at hit
    refine wpAny_pyNext_dict_item hit hd hv fun key h' hkey hit' hs => ?_
    have U : Up it (kitr d es.length ep (i + 1)) ((it, kitr d es.length ep i) :: Γ) ((it, kitr d es.length ep (i + 1)) :: Γ) := .here
    rw [hk.length] at hit'
    have hy : ∃ t, key = .int k t := by
      exact int_key hkey
    obtain ⟨t, rfl⟩ := hy
    exact hQ _ h' s.toks (S.upd U hs (or_kit hit')) (.upd U hs) (.int ..)
  stop S hI hQ := by
    rename_i s it Γ Q E'
    have hit : s.heap.IsKeyIter it d (es.map fun p => AV.int p.1).length es.length ep := (S.or (a := it) (o := kitr d es.length ep (es.map fun p => AV.int p.1).length) .here).1
    obtain ⟨kvs, hd, hk⟩ := S.or (.there hI)
    rw [← hk.length] at hit
    refine wpAny_pyNext_dict_end G.hdl hit hd (by simp [hk.length]) fun h' hs => ?_
    exact hQ h' (S.shed (t := s.toks) hs) (Pres.shed hs)
theorem HSub_ide {value slice : Expr} {a : Addr} {es : List (Int × AV)} {ep : Nat} {k : Int} {x : AV} (hs : ∀ t, subscripted slice false (.ref a) (.int k t) = operate [.ref a, .int k t] (getItem (.ref a) (.int k t)))
    (h : Lk a Γ (.ide es ep)) (l : Lk k es x) (q : Q x Γ) : HSub c value slice (.ref a) (.int k) Γ Q E := fun s vo vi S ho hi => by
  cases ho.ref'; obtain ⟨t, rfl⟩ := hi.int'
  obtain ⟨kvs, hd, hk⟩ := S.or h
  obtain ⟨v, hv, hr⟩ := hk.lk l (by obtain ⟨_, _, _, _, _, _, _, hn⟩ := hd; exact hn)
  exact tail_any (dict_type hd.dictOf) slot_dict_getitem.lookup (wpAny_getItem_of (intKind_is ..) hd.dictOf.mapOf hv (retT S hr q)) (hs t)
end
section
variable {c : Cx} {K : Frag} {D : Nat} {E : EP} {sc : Scope} {ρ : Loc} {Γ Γ' Γ₁ Γ₂ : Led} {Q : AV → Led → Prop} {QF : AF → Loc → Led → Prop} {QB : Bool → Led → Prop} {s : Shared} {x : Str} {p pos : Pos}
/-! stores to several places -/
noncomputable abbrev HAsg_T2_k1 (c : Cx) (t2 : Expr) (b : AV) (P : Loc → Led → Prop) := fun (ρ₁ : Loc) (Γ₁ : Led) => HAsg c t2 b ρ₁ Γ₁ P
theorem HAsg_T2 (I : In c K D) {t1 t2 : Expr} {k : Nat} {a b : AV} {P : Loc → Led → Prop} (he : (assignEach [t1, t2] c.env).map (·.2) = [assign t1 c.env, assign t2 c.env]) (hst : (assignEach [t1, t2] c.env).findIdx? (·.1) = none)
    (q : HAsg c t1 a ρ Γ (HAsg_T2_k1 c t2 b P)) : HAsg c (.Tuple [t1, t2] k pos) (.tup [a, b]) ρ Γ P := fun s v S hv Γo ho E' k' Pr hk' => by
  obtain ⟨t, vs, rfl, ht, hvs⟩ := hv.tup'
  obtain ⟨v, w, rfl, hv, hw⟩ := hvs.two
  have hlen : (assignEach [t1, t2] c.env).length = [v, w].toArray.size := by have := congrArg List.length he; simpa using this
  refine assign_Tuple_tuple I.G.hdl ht hlen hst fun h' he' => ?_
  rw [he]
  have k : ∀ b o, s.heap.get? b = some o → h'.get? b = some o := fun b o e => he' b o (fun q => by rw [q, none_at] at e; cases e) e
  have S₁ : Sat c ρ Γ { s with heap := h', toks := s.toks } := S.pres (S.C.grow k) (Pres.more k)
  have P₁ := Pr.trans ((Pres.more k).mono sub_nil)
  have T : Tups s.heap h' := fun _ _ t => t.keeps k
  refine assignInOrder_cons (q _ v S₁ (hv.tups T) (.refl ..) fun ρ₁ Γ₁ s₂ S₂ P₂ hq => ?_)
  have T₂ : Tups h' s₂.heap := S₁.C.tups P₂ fun a m us t' => by
    rw [List.mem_singleton.mp m] at t'
    obtain ⟨⟨m', hn, _⟩, _⟩ := S₁.loc
    exact ns_noTup hn t'
  refine assignInOrder_cons (hq _ w S₂ ((hw.tups T).tups T₂) (P₁.trans P₂) fun ρ₂ Γ₂ s₃ S₃ P₃ hq₃ => ?_)
  exact assignInOrder_nil (hk' ρ₂ Γ₂ s₃ S₃ P₃ hq₃)
theorem PX.no {F : XF} {X : List Addr} {h : Heap} {x : Value} (q : PX c F X Γ h (fun _ _ => False) x s) : False := by
  obtain ⟨_, _, _, _, _, _, _, _, _, _, z⟩ := q; exact z
noncomputable abbrev HAsg_Sub_k1 (ρ : Loc) (P : Loc → Led → Prop) := fun (Γ₃ : Led) => P ρ Γ₃
noncomputable abbrev HAsg_Sub_k2 (c : Cx) (ρ : Loc) (a : AV) (P : Loc → Led → Prop) (ov : AV) := fun (iv : AV) (Γ₂ : Led) => HSet c ov iv a Γ₂ (HAsg_Sub_k1 ρ P) (fun _ _ => False)
noncomputable abbrev HAsg_Sub_k3 (c : Cx) (ρ : Loc) (i : Expr) (a : AV) (P : Loc → Led → Prop) := fun (ov : AV) (Γ₁ : Led) => HE c i ρ Γ₁ (HAsg_Sub_k2 c ρ a P ov) (fun _ _ => False)
theorem HAsg_Sub {o i : Expr} {a : AV} {P : Loc → Led → Prop} (hi : (match i with | .Slice .. => false | _ => true) = true) (q : HE c o ρ Γ (HAsg_Sub_k3 c ρ i a P) (fun _ _ => False)) : HAsg c (.Subscript o i p) a ρ Γ P := fun s v S hv Γo ho E' k Pr hk => by
  rw [assign_Subscript]
  refine wpAny_bind (wpAny_holding (wpAny_mono (vuse (X := []) S (.refl ..) (q s S) (K := fun ov s₁ => ∃ a₁ Γ₁, Sat c ρ Γ₁ s₁ ∧ Pres [] Γ s.heap Γ₁ s₁.heap ∧ Tups s.heap s₁.heap ∧ VR s₁.heap ov a₁ ∧ _) fun v a s₁ Γ₁ S₁ P₁ T h hq => ⟨a, Γ₁, S₁, P₁, T, h, hq⟩) (fun ov s₁ ⟨oa, Γ₁, S₁, P₁, T₁, hov, hq⟩ => ?_) fun _ _ x => x.no.elim))
  refine wpAny_bind (wpAny_holding (wpAny_mono (vuse (X := []) S₁ (.refl ..) (hq s₁ S₁) (K := fun iv s₂ => ∃ a₂ Γ₂, Sat c ρ Γ₂ s₂ ∧ Pres [] Γ₁ s₁.heap Γ₂ s₂.heap ∧ Tups s₁.heap s₂.heap ∧ VR s₂.heap iv a₂ ∧ _) fun v a s₁ Γ₁ S₁ P₁ T h hq => ⟨a, Γ₁, S₁, P₁, T, h, hq⟩) (fun iv s₂ ⟨ia, Γ₂, S₂, P₂, T₂, hiv, hq₂⟩ => ?_) fun _ _ x => x.no.elim))
  refine wpAny_bind (wpAny_standAt (wpAny_bind (wpAny_holding (wpAny_mono (hq₂ s₂ ov iv v S₂.C (hov.tups T₂) hiv ((hv.tups T₁).tups T₂)) (fun _ s₃ ⟨Γ₃, S₃, P₃, hq₃⟩ => ?_) fun _ _ x => x.no.elim))))
  have P := Pr.trans (((P₁.trans P₂).trans P₃).mono (sub_nil (X := [c.env.locals])))
  exact wpAny_release (hk ρ Γ₃ s₃ (S₂.pres S₃ P₃) P hq₃)
noncomputable abbrev HS_AssignT_k1 (QF : AF → Loc → Led → Prop) := fun (ρ' : Loc) (Γ' : Led) => QF .next ρ' Γ'
noncomputable abbrev HS_AssignT_k2 (c : Cx) (ρ : Loc) (QF : AF → Loc → Led → Prop) (elts : List Expr) (k : Nat) (tp : Pos) := fun (v : AV) (Γ₁ : Led) => HAsg c (.Tuple elts k tp) v ρ Γ₁ (HS_AssignT_k1 QF)
theorem HS_AssignT {elts : List Expr} {k : Nat} {tp : Pos} {value : Expr} (h1 : swapsWithSole [.Tuple elts k tp] value pos.line c.env = pure false) (h2 : swappedStores [.Tuple elts k tp] value c.env = pure none)
    (q : HE c value ρ Γ (HS_AssignT_k2 c ρ QF elts k tp) E) : HS c (.Assign [.Tuple elts k tp] value pos) ρ Γ QF E := fun s S =>
  Assign_Tuple (vuse S (.refl ..) (q s S) fun v a s₁ Γ₁ S₁ P₁ _ hv hq => hq s₁ v S₁ hv P₁ fun ρ' Γ' s' S' P' hq' => retN (s := s) S' P' hq') h1 h2
/-- three names at once, the last first -/
noncomputable abbrev HS_Swap3_k1 (Γ₁ : Led) (QF : AF → Loc → Led → Prop) := fun (ρ₃ : Loc) => QF .next ρ₃ Γ₁
noncomputable abbrev HS_Swap3_k2 (ρ : Loc) (QF : AF → Loc → Led → Prop) (x : Str) (y : Str) (z : Str) := fun (v : AV) (Γ₁ : Led) => ∃ a b d, v = .tup [a, b, d] ∧ HSto z d ρ (fun ρ₁ => HSto y b ρ₁ (fun ρ₂ => HSto x a ρ₂ (HS_Swap3_k1 Γ₁ QF)))
theorem HS_Swap3 {y z : Str} {py pz tp : Pos} {k : Nat} {value : Expr} (I : In c K D) (hs : c.env.scope = sc) (hx : sc.names.lookup x = some .local) (hy : sc.names.lookup y = some .local) (hz : sc.names.lookup z = some .local)
    (h1 : swapsWithSole [.Tuple [.Name x p, .Name y py, .Name z pz] k tp] value pos.line c.env = pure false) (h2 : ∀ e : Env, e.scope = sc → swappedStores [.Tuple [.Name x p, .Name y py, .Name z pz] k tp] value e = pure (some [x, y, z]))
    (q : HE c value ρ Γ (HS_Swap3_k2 ρ QF x y z) E) : HS c (.Assign [.Tuple [.Name x p, .Name y py, .Name z pz] k tp] value pos) ρ Γ QF E := fun s S => by
  refine Assign_Tuple_swapped (names := [x, y, z]) (vuse S (.refl ..) (q s S) fun v a s₁ Γ₁ S₁ P₁ _ hv hq => ?_) h1 (h2 _ hs)
  obtain ⟨a, b, d, rfl, hst⟩ := hq
  obtain ⟨t, vs, rfl, ht, hvs⟩ := hv.tup'
  obtain ⟨v, w, u, rfl, hv, hw, hu⟩ := hvs.three
  refine unpackItems_tuple (items := [v, w, u].toArray) I.G.hdl ht fun h' he => ?_
  have k : ∀ b o, s₁.heap.get? b = some o → h'.get? b = some o := fun b o e => he b o (fun q => by rw [q, none_at] at e; cases e) e
  have S₂ : Sat c ρ Γ₁ { s₁ with heap := h', toks := s₁.toks } := S₁.pres (S₁.C.grow k) (Pres.more k)
  have P₂ := P₁.trans ((Pres.more k).mono (sub_nil (X := [c.env.locals])))
  have T : Tups s₁.heap h' := fun _ _ t => t.keeps k
  show wpAny c.M c.A (assignInOrder [fun n => bindName c.env z n, fun n => bindName c.env y n, fun n => bindName c.env x n] [u, w, v]) _ _ _
  refine assignInOrder_cons (wpAny_bindName (S₂.stored I.G (kind_of hs hz) P₂ (hu.tups T) hst fun ρ₁ s₃ S₃ P₃ T₃ hq => ?_))
  refine assignInOrder_cons (wpAny_bindName (S₃.stored I.G (kind_of hs hy) P₃ ((hw.tups T).tups T₃) hq fun ρ₂ s₄ S₄ P₄ T₄ hq₂ => ?_))
  refine assignInOrder_cons (wpAny_bindName (S₄.stored I.G (kind_of hs hx) P₄ (((hv.tups T).tups T₃).tups T₄) hq₂ fun ρ₃ s₅ S₅ P₅ _ hq₃ => ?_))
  exact assignInOrder_nil (retN (s := s) S₅ P₅ hq₃)
/-! dicts written out -/
inductive PrR {κ : Type} (key : κ → Value → Prop) : List (Value × Value) → List (κ × Value) → Prop where
  | nil : PrR key [] []
  | cons {a v : Value} {k : κ} {prs : List (Value × Value)} {kvs : List (κ × Value)} : key k a → PrR key prs kvs → PrR key ((a, v) :: prs) ((k, v) :: kvs)
/-- the pairs of a dict display, one after the other -/
noncomputable def HPs {κ : Type} (c : Cx) (key : κ → Value → Prop) (ks : List (Option Expr)) (vs : List Expr) (ρ : Loc) (Γ : Led) (Q : List (κ × AV) → Led → Prop) (E : EP) : Prop := ∀ s pos, Sat c ρ Γ s →
  Wp c (fIn c) [] Γ (evalPairs (pairTrees ks vs c.env pos)) (fun h prs Γ' => ∃ kvs : List (κ × Value), ∃ kas, PrR key prs kvs ∧ KVR h kvs kas ∧ Q kas Γ') E s
theorem HPs_nil {κ : Type} {key : κ → Value → Prop} {Q : List (κ × AV) → Led → Prop} (q : Q [] Γ) : HPs c key [] [] ρ Γ Q E := fun s pos S => pairTrees_nil_walk ⟨Γ, S.C, .refl .., [], [], .nil, .nil, q⟩
noncomputable abbrev HPs_str_k1 (c : Cx) (ρ : Loc) (E : EP) (k : Str) (v : Expr) (ks : List (Option Expr)) (vs : List Expr) (Q : List (Str × AV) → Led → Prop) := fun (a : AV) (Γ₁ : Led) => HPs c (fun k v => ∃ t, v = .str k t) ks vs ρ Γ₁ (fun r Γ₂ => Q ((k, a) :: r) Γ₂) E
theorem HPs_str {k : Str} {n : Nat} {v : Expr} {ks : List (Option Expr)} {vs : List Expr} {Q : List (Str × AV) → Led → Prop} (q : HE c v ρ Γ (HPs_str_k1 c ρ E k v ks vs Q) E) :
    HPs c (fun k v => ∃ t, v = .str k t) (some (.Constant (.str k) n p) :: ks) (v :: vs) ρ Γ Q E := fun s pos S => by
  refine pairTrees_cons_walk (wpAny_Constant_str ?_)
  have S' : Sat c ρ Γ { s with toks := s.toks + 1 } := ⟨S.C.tok _, S.loc, S.lof, S.lnew⟩
  refine vuse S' (.refl ..) (q _ S') fun vv a s₁ Γ₁ S₁ P₁ _ hv hq => ?_
  refine wuse P₁ (hq s₁ pos S₁) fun prs s₂ Γ₂ S₂ P₂ P' ⟨kvs, kas, h1, h2, h3⟩ => ?_
  exact ⟨Γ₂, S₂, P₂, (k, vv) :: kvs, (k, a) :: kas, .cons ⟨_, rfl⟩ h1, .cons (hv.tups (S₁.C.tups0 P')) h2, h3⟩
noncomputable abbrev HPs_int_k1 (c : Cx) (ρ : Loc) (E : EP) (k : Int) (v : Expr) (ks : List (Option Expr)) (vs : List Expr) (Q : List (Int × AV) → Led → Prop) := fun (a : AV) (Γ₁ : Led) => HPs c (fun k v => ∃ t, v = .int k t) ks vs ρ Γ₁ (fun r Γ₂ => Q ((k, a) :: r) Γ₂) E
theorem HPs_int {k : Int} {n : Nat} {v : Expr} {ks : List (Option Expr)} {vs : List Expr} {Q : List (Int × AV) → Led → Prop} (q : HE c v ρ Γ (HPs_int_k1 c ρ E k v ks vs Q) E) :
    HPs c (fun k v => ∃ t, v = .int k t) (some (.Constant (.int k) n p) :: ks) (v :: vs) ρ Γ Q E := fun s pos S => by
  refine pairTrees_cons_walk (wpAny_Constant_int ?_)
  have S' : Sat c ρ Γ { s with toks := s.toks + 1 } := ⟨S.C.tok _, S.loc, S.lof, S.lnew⟩
  refine vuse S' (.refl ..) (q _ S') fun vv a s₁ Γ₁ S₁ P₁ _ hv hq => ?_
  refine wuse P₁ (hq s₁ pos S₁) fun prs s₂ Γ₂ S₂ P₂ P' ⟨kvs, kas, h1, h2, h3⟩ => ?_
  exact ⟨Γ₂, S₂, P₂, (k, vv) :: kvs, (k, a) :: kas, .cons ⟨_, rfl⟩ h1, .cons (hv.tups (S₁.C.tups0 P')) h2, h3⟩
theorem carries_of {κ : Type} [DecidableEq κ] {prog : Program} {w : World} {knd : PySem.KeyKind prog w κ} {key : κ → Value → Prop} (hk : ∀ k v, key k v → knd.is k v = true) {prs : List (Value × Value)} {kvs : List (κ × Value)} (h : PrR key prs kvs) : Carries knd prs kvs := by
  induction h with
  | nil => trivial
  | cons a _ ih => exact ⟨hk _ _ a, rfl, ih⟩
theorem merged_of {κ : Type} [DecidableEq κ] : ∀ (kvs acc : List (κ × Value)), ((acc ++ kvs).map (·.1)).Nodup → merged acc kvs = acc ++ kvs
  | [], acc, _ => by simp [merged]
  | (k, v) :: r, acc, h => by
    have hk : (acc.any fun kv => decide (kv.1 = k)) = false := by
      rw [List.any_eq_false]
      intro q hq e
      have e := of_decide_eq_true e
      rw [List.map_append, List.nodup_append] at h
      exact h.2.2 _ (List.mem_map_of_mem hq) k (by simp) e
    show merged (stored acc k v) r = _
    have : stored acc k v = acc ++ [(k, v)] := by simp only [stored, hk, Bool.false_eq_true, if_false]
    rw [this, merged_of r (acc ++ [(k, v)]) (by simpa using h)]
    simp
theorem HE_Dict {κ : Type} [DecidableEq κ] (knd : PySem.KeyKind c.prog c.w κ) {key : κ → Value → Prop} (hkk : ∀ k v, key k v → knd.is k v = true) (mk : List (κ × AV) → AO) (hmk : ∀ h a es, OR c.prog c.w h a (mk es) ↔ ∃ kvs, h.DictOf knd a kvs ∧ KVR h kvs es)
    {ks : List (Option Expr)} {vs : List Expr} (hall : ks.all (·.isSome) = true) (hl : ks.length = vs.length) (h0 : ks ≠ []) (hlen : ks.length ≤ 15)
    (q : ∀ d, HPs c key ks vs ρ ((d, mk []) :: Γ) (fun kas Γ₁ => Lk d Γ₁ (mk []) ∧ (kas.map (·.1)).Nodup ∧ ∃ Γ₂, Up d (mk kas) Γ₁ Γ₂ ∧ Q (.ref d) Γ₂) E) : HE c (.Dict ks vs pos) ρ Γ Q E := fun s S => by
  refine wpAny_Dict_walk (knd := knd) hall hl h0 hlen ?_
  have hO : OR c.prog c.w (s.heap.push { cls := .type "dict", data := .dict #[] }) s.heap.objs.size (mk []) := (hmk _ _ _).mpr ⟨[], ⟨_, #[], 0, Heap.get?_push_size _ rfl, ⟨rfl, rfl, rfl⟩, rfl, by intro e he; simp at he, by first | exact .nil | constructor, .nil⟩, .nil⟩
  have S₁ := S.C.pushed hO
  have P₁ := Pres.pushed Γ s.heap { cls := .type "dict", data := .dict #[] } (mk [])
  have S₂ := S.pres S₁ P₁
  refine wuse P₁ (q _ _ pos S₂) fun prs s₃ Γ₃ S₃ P₃ P' ⟨kvs, kas, h1, h2, hlk, hnd, Γ₄, U, hq⟩ => ?_
  obtain ⟨kvs', hd', hk'⟩ := (hmk _ _ _).mp (S₃.or hlk)
  cases hk'
  refine ⟨kvs, carries_of hkk h1, hd', fun h' hd hs => ?_⟩
  have T := tups_but S₃ U.key_mem hs
  have e := merged_of kvs [] (by rw [List.nil_append, h2.keys]; exact hnd)
  rw [e, List.nil_append] at hd
  exact ⟨Γ₄, (S₃.upd U hs ((hmk _ _ _).mpr ⟨kvs, hd, h2.tups T⟩)).tok _, P₃.trans (.upd U hs), _, .ref _, hq⟩
theorem HE_DictS {ks : List (Option Expr)} {vs : List Expr} (hall : ks.all (·.isSome) = true) (hl : ks.length = vs.length) (h0 : ks ≠ []) (hlen : ks.length ≤ 15)
    (q : ∀ d, HPs c (fun (k : Str) v => ∃ t, v = .str k t) ks vs ρ ((d, .sd []) :: Γ) (fun kas Γ₁ => Lk d Γ₁ (.sd []) ∧ (kas.map (·.1)).Nodup ∧ ∃ Γ₂, Up d (.sd kas) Γ₁ Γ₂ ∧ Q (.ref d) Γ₂) E) : HE c (.Dict ks vs pos) ρ Γ Q E :=
  HE_Dict (strKind c.prog c.w) (fun k v ⟨t, e⟩ => e ▸ strKind_is ..) .sd (fun _ _ _ => .rfl) hall hl h0 hlen q
theorem HE_DictI {ks : List (Option Expr)} {vs : List Expr} (hall : ks.all (·.isSome) = true) (hl : ks.length = vs.length) (h0 : ks ≠ []) (hlen : ks.length ≤ 15)
    (q : ∀ d, HPs c (fun (k : Int) v => ∃ t, v = .int k t) ks vs ρ ((d, .id []) :: Γ) (fun kas Γ₁ => Lk d Γ₁ (.id []) ∧ (kas.map (·.1)).Nodup ∧ ∃ Γ₂, Up d (.id kas) Γ₁ Γ₂ ∧ Q (.ref d) Γ₂) E) : HE c (.Dict ks vs pos) ρ Γ Q E :=
  HE_Dict (intKind c.prog c.w) (fun k v ⟨t, e⟩ => e ▸ intKind_is ..) .id (fun _ _ _ => .rfl) hall hl h0 hlen q
theorem HE_Dict0 (q : ∀ d, Q (.ref d) ((d, .sd []) :: Γ)) : HE c (.Dict [] [] pos) ρ Γ Q E := fun s S =>
  wpAny_Dict_empty ⟨_, S.C.pushed (or_newDict (Heap.get?_push_size _ rfl)), Pres.pushed .., _, .ref _, q _⟩
/-- an empty dict of texts is one of whole numbers too -/
theorem HE_Dict0i (q : ∀ d, Q (.ref d) ((d, .id []) :: Γ)) : HE c (.Dict [] [] pos) ρ Γ Q E := fun s S =>
  wpAny_Dict_empty ⟨_, S.C.pushed (o := { cls := .type "dict", data := .dict #[] }) (ao := .id []) ⟨[], ⟨_, #[], 0, Heap.get?_push_size _ rfl, ⟨rfl, rfl, rfl⟩, rfl, by intro e he; simp at he, by first | exact .nil | constructor, .nil⟩, .nil⟩, Pres.pushed .., _, .ref _, q _⟩
end
/-! attributes of the program's own exceptions -/
section
variable {prog : Program} {w : World} {A : Around} {E : Value → Shared → Prop} {s : Shared} {K : Frag} {x C : Addr} {ox : Obj} {od : Option Obj} {name : Str} {expr : Bool} {Q : Value → Shared → Prop}
theorem get_exc {v : Value} (X : K.In s.heap) (I : InstAt s.heap x ox C od) (hga : findIn K (.ref C) "__getattribute__" = some (some (.builtin "BaseException.__getattribute__"))) (hgt : findIn K (.ref C) "__getattr__" = some none) (hsub : subIn K (.ref C) (.type "BaseException") = some true)
    (hf : findObj K C od name = some (.value v)) (hh : handedIn v = true) (h : Q v { s with toks := s.toks + 1 }) : wpAny (model prog w) A (getAttr (.ref x) name expr) Q E s := by
  have X0 := X; have I0 := I
  obtain ⟨hh', g, d, t, os⟩ := s
  have L0 := I.type (M := model prog w)
  have L1 := looks_findIn (M := model prog w) X hga
  have L2 := looks_findIn (M := model prog w) X hgt
  have L4 := looks_find (M := model prog w) X I hf
  have FX : ExcAttrFacts "Exception" := PySem.F.attr_Exception
  unfold getAttr getAttrBy
  refine wpAny_bind (wpAny_mkText (wpAny_holding (wpAny_bind (L0.at (wpAny_bind (L1.at ?_))))))
  have hx2 : (Value.builtin "BaseException.__getattribute__" == Value.builtin "object.__getattribute__") = false := by decide +kernel
  dsimp only
  rw [hx2, Bool.and_false, if_neg (by decide)]
  unfold getAttrByItsOwn hookBefore
  rw [if_pos (show onTheHeap (.ref C) = true from rfl)]
  refine wpAny_bind (L2.at ?_)
  have hx0 : (expr && onTheHeap (Value.builtin "BaseException.__getattribute__")) = false := by cases expr <;> rfl
  unfold callGetattribute
  rw [hx0, if_neg (by decide)]
  unfold boundAndCalled
  refine wpAny_bind (wpAny_attempt (wpAny_holding ?_))
  rw [FX.ga.bind (.ref x)]
  have hk : builtinKind "BaseException.__getattribute__" = some .slot := by decide +kernel
  have hsplit : splitId "BaseException.__getattribute__" = some ("BaseException", "__getattribute__") := by decide +kernel
  refine wpAny_bind (wpAny_pure (wpAny_call ?_))
  refine codeAny_call_builtin FX.ga.plain F.entry_bexc_ga (@check_slot (model prog w) _ _ _ "BaseException.__getattribute__" "BaseException" "__getattribute__" (.ref x) [.str name t] [] _ hk hsplit (L0.andThen (looks_subIn X hsub)) (F.args_bexc_ga _ _) ?_)
  unfold Builtin.«object.__getattribute__»
  refine wpAny_bind (wpAny_of_eq (a := ((.ref x : Value), [Value.str name t])) rfl ?_)
  refine wpAny_bind (wpAny_of_eq (a := name) rfl ?_)
  refine wpAny_bind (L0.at ?_)
  refine wpAny_bind (L4.at ?_)
  refine wpAny_pure ?_
  show wpAny _ _ (handedOut v) _ _ _
  rw [handedOut_of hh]; exact wpAny_pure h
end
section
variable {prog : Program} {w : World} {M : Model} {A : Around} {E : Value → Shared → Prop} {h : Heap} {g : Array GenState} {d : Drawn} {t : Nat} {os : OsState}
theorem slot_wd_get : Slot "wrapper_descriptor" "__get__" "wrapper_descriptor.__get__" := .of (owner := "wrapper_descriptor") (n := "__get__") (by rw [typeLookup_type, builtinLookup_eq_fast]; kernel_rfl) (by decide +kernel) (by decide +kernel) (by decide +kernel)
    (by first | exact .inl (by decide +kernel) | exact .inr (by decide +kernel)) (by rw [isSubtype_type]; kernel_rfl)
theorem entry_wd_get : entryFor table "wrapper_descriptor.__get__" = some Builtin.«wrapper_descriptor.__get__» := entryFor_of_tree (by kernel_rfl)
theorem args_wd_get (a b c : Value) : argsOk "wrapper_descriptor.__get__" ⟨[a, b, c], []⟩ := by unfold argsOk; kernel_rfl
theorem super_ga_b {so D x C : Addr} {l₀ l : List Value} {K : Frag} {name : Str} {tk : Tok} {id : String} {Q : Fin → Shared → Prop}
    (hso : h.get? so = some { cls := .type "super", dict := none, data := .fields #[.ref D, .ref x, .ref C], slots := #[] }) (hno : Looks (model prog w) h (opaqueClassAbove (.ref C)) none)
    (hC : Looks (model prog w) h (mroOf (.ref C)) l₀) (hl : (l₀.dropWhile (· != .ref D)).drop 1 = l) (X : K.In h)
    (hf : alongIn K name l = some (some (.builtin id))) (hT : typeOf (.builtin id) = pure (.type "wrapper_descriptor")) (hxC : x ≠ C) (hn : (name == ("__class__" : Str)) = false)
    {ox : Obj} (hx : h.get? x = some ox) (hxc : ox.cls = .ref C) (hsub : Looks (model prog w) h (isSubtype (.ref C) (.type (".".intercalate (id.cutAt '.').dropLast))) true)
    (hq : Q (.done (.ret (.ref h.objs.size))) ⟨h.push { cls := .type "method-wrapper", data := .fields #[.builtin id, .ref x] }, g, d, t, os⟩) :
    wpAny (model prog w) A (Builtin.«super.__getattribute__» ⟨[.ref so, .str name tk], []⟩) Q E ⟨h, g, d, t, os⟩ := by
  have hlk := slot_wd_get.lookup
  have hne : (Value.ref x == Value.ref C) = false := by simp [hxC]
  have hdt : ({ cls := .type "super", dict := none, data := .fields #[.ref D, .ref x, .ref C], slots := #[] } : Obj).data = .fields #[.ref D, .ref x, .ref C] := rfl
  have f0 : (#[.ref D, .ref x, .ref C] : Array Value)[0]? = some (.ref D) := rfl
  have f1 : (#[.ref D, .ref x, .ref C] : Array Value)[1]? = some (.ref x) := rfl
  have f2 : (#[.ref D, .ref x, .ref C] : Array Value)[2]? = some (.ref C) := rfl
  have hTT : (⟨h, g, d, t, os⟩ : Shared).TypeIs (.builtin id) "wrapper_descriptor" := hT
  unfold Builtin.«super.__getattribute__»
  repeat (first
    | (with_reducible refine wpAny_field hso hdt f0 ?_) | (with_reducible refine wpAny_field hso hdt f1 ?_) | (with_reducible refine wpAny_field hso hdt f2 ?_)
    | (with_reducible refine ks_wpAny_notOpaque hno ?_)
    | (with_reducible refine Looks.at hC ?_; rw [hl])
    | (refine ks_forIn_along X (fun _ _ => rfl) rfl ?_ hf)
    | (with_reducible refine wpAny_typeOf hTT ?_)
    | (with_reducible refine wpAny_call_entry slot_wd_get hTT entry_wd_get ?_ (args_wd_get _ _ _))
    | (with_reducible refine ⟨_, rfl, ?_⟩)
    | (simp only [hn, hne, Bool.or_false, Bool.false_eq_true, if_false])
    | (with_reducible refine wpAny_loadPart_at hx ?_; rw [hxc])
    | (with_reducible refine Looks.at hsub ?_)
    | (refine wpAny_newObj_type ?_ (by size_fits))
    | wp_step
    | dsimp only)
  all_goals exact hq
theorem getMethod_super_b {so D x C : Addr} {l₀ l : List Value} {K : Frag} {name : Str} {pl : Sem Bool} {id : String} {Q : Value × List Value → Shared → Prop}
    (hso : h.get? so = some { cls := .type "super", dict := none, data := .fields #[.ref D, .ref x, .ref C], slots := #[] }) (hno : Looks (model prog w) h (opaqueClassAbove (.ref C)) none)
    (hC : Looks (model prog w) h (mroOf (.ref C)) l₀) (hl : (l₀.dropWhile (· != .ref D)).drop 1 = l) (X : K.In h)
    (hf : alongIn K name l = some (some (.builtin id))) (hT : typeOf (.builtin id) = pure (.type "wrapper_descriptor")) (hxC : x ≠ C) (hn : (name == ("__class__" : Str)) = false)
    {ox : Obj} (hx : h.get? x = some ox) (hxc : ox.cls = .ref C) (hsub : Looks (model prog w) h (isSubtype (.ref C) (.type (".".intercalate (id.cutAt '.').dropLast))) true)
    (hq : Q (.ref h.objs.size, []) ⟨h.push { cls := .type "method-wrapper", data := .fields #[.builtin id, .ref x] }, g, d, t + 1, os⟩) :
    wpAny (model prog w) A (getMethod (.ref so) name pl) Q E ⟨h, g, d, t, os⟩ := by
  have hlk := F.ks_slot_super_ga.lookup
  have hcan := F.ks_canon_super_ga
  have hT' : ∀ t', (⟨h, g, d, t', os⟩ : Shared).TypeIs (.ref so) "super" := fun _ => ⟨_, hso, rfl⟩
  unfold getMethod
  refine wpAny_bind (wpAny_specialOf (hT' _) hlk ?_)
  show wpAny _ _ (if (Manifest.canonical "super.__getattribute__" != "object.__getattribute__") = true then _ else _) _ _ _
  rw [if_pos hcan]
  unfold getAttr getAttrBy
  refine wpAny_bind (wpAny_bind (wpAny_mkText (wpAny_holding (wpAny_bind (wpAny_typeOf (hT' _) (wpAny_bind (wpAny_of_eq hlk ?_)))))))
  show wpAny _ _ (getAttrByItsOwn (.ref so) (.str name t) (.type "super") (.builtin "super.__getattribute__") true false) _ _ _
  unfold getAttrByItsOwn hookBefore callGetattribute boundAndCalled
  refine wpAny_bind (wpAny_of_eq (show (if onTheHeap (.type "super") then typeLookup (.type "super") "__getattr__" else pure none) = pure none from rfl) ?_)
  refine wpAny_bind (wpAny_attempt (wpAny_holding ?_))
  show wpAny _ _ (bindSpecial (.builtin "super.__getattribute__") (.ref so) >>= _) _ _ _
  refine wpAny_bind (wpAny_of_eq (F.ks_slot_super_ga.bind _) ?_)
  refine wpAny_mono (Q := fun v s' => v = .ref h.objs.size ∧ s' = ⟨h.push { cls := .type "method-wrapper", data := .fields #[.builtin id, .ref x] }, g, d, t + 1, os⟩) (E := fun _ _ => False)
    (wpAny_call_entry F.ks_slot_super_ga (hT' _) F.ks_entry_super_ga (super_ga_b hso hno hC hl X hf hT hxC hn hx hxc hsub ⟨_, rfl, rfl, rfl⟩) (F.ks_gaArgs_super _ _)) (fun v s' hv => ?_) fun _ _ z => z.elim
  obtain ⟨rfl, rfl⟩ := hv
  exact wpAny_pure (wpAny_pure hq)
/-- the base's own start, bound, is called -/
theorem printed_own {whole : Bool} {sig : Manifest.Signature} {x C : Addr} {ox : Obj} {cd : ClassData} {Q : String → Shared → Prop} {s : Shared} (hs : sig.receiver = .self) (hx : s.heap.get? x = some ox) (hc : ox.cls = .ref C) (hC : Looks M s.heap (classData C) cd) (q : ∀ n, Q n s) :
    wpAny M A (Bind.printed "*" whole sig (some (.ref x))) Q E s := by
  have LT : Looks M s.heap (typeOf (.ref x)) (.ref C) := hc ▸ (Looks.ld hx).andThen .now
  unfold Bind.printed Bind.receiverType
  rw [if_neg (by decide), hs]
  refine wpAny_bind (m := (if (Manifest.Receiver.self == Manifest.Receiver.cls) = true then pure (.ref x) else typeOf (.ref x))) ?_
  rw [if_neg (by decide)]
  refine LT.here (wpAny_bind (m := typeNameWhole _) ?_)
  unfold typeNameWhole
  exact wpAny_bind (hC.here (wpAny_pure (wpAny_pure (q _))))
theorem chk_init {x C : Addr} {v : Value} {ox : Obj} {cd : ClassData} {Q : Unit → Shared → Prop} {s : Shared} (hx : s.heap.get? x = some ox) (hc : ox.cls = .ref C) (hC : Looks M s.heap (classData C) cd) (q : Q () s) : wpAny M A (checkBoundCall "Exception.__init__" ⟨[.ref x, v], []⟩) Q E s := by
  have F := F.excCall_Exception
  unfold checkBoundCall
  simp only [F.initRow, F.initKind]
  rw [if_pos (by decide)]
  unfold Bind.checkArgs
  refine wpAny_bind (m := Bind.printed "*" true _ _) (printed_own (x := x) rfl hx hc hC fun full => ?_)
  refine wpAny_bind (m := Bind.printed "Exception" false _ _) (printed_name F.noStar ?_)
  show wpAny M A (Sem.onRaise (Bind.check _ full "Exception" _ []) _) Q E s
  rw [check_star_args]
  exact wpAny_pure q
theorem entry_init : entryFor table "Exception.__init__" = some Builtin.«BaseException.__init__» := F.excCall_Exception.initEntry
theorem base_init {p x : Addr} {v : Value} {ox : Obj} {us : Array Value} {R : Result → Shared → Prop} (ho : h.get? p = some { cls := .type "method-wrapper", data := .fields #[.builtin "Exception.__init__", .ref x] })
    {C : Addr} {cd : ClassData} {t0 : Addr} (hx : h.get? x = some ox) (hxc : ox.cls = .ref C) (hC : Looks (model prog w) h (classData C) cd) (hd : ox.data = .fields us) (h0 : us[0]? = some (.ref t0))
    (q : R (.ok (.ret .none)) ⟨(h.push { cls := .type "tuple", data := .seq #[v] }).update x (Obj.mapFields (·.setIfInBounds 0 (.ref h.objs.size))), g, d, t, os⟩) :
    codeAny (model prog w) A (.call (.ref p) ⟨[v], []⟩) R ⟨h, g, d, t, os⟩ := by
  refine codeAny_of_tree ?_
  show wpAny _ _ (callAny (.ref p) _) _ _ _
  refine nd_load ho (wpAny_bind (wpAny_pure ?_))
  dsimp only
  rw [if_pos (by decide)]
  show wpAny _ _ (if ((Value.type "method-wrapper") != Value.type "method") = true then (do checkBoundCall "Exception.__init__" ⟨[.ref x, v], []⟩; again (.builtin "Exception.__init__" ⟨[.ref x, v], []⟩)) else _) _ _ _
  rw [if_pos (by decide)]
  refine wpAny_bind (chk_init hx hxc hC (wpAny_pure ⟨Code.quiet_builtin _ (by decide +kernel), ?_⟩))
  refine codeAny_builtin entry_init ?_
  unfold Builtin.«BaseException.__init__»
  dsimp only
  rw [if_neg (by simp)]
  unfold newTuple Builtin.BaseException.bexcPut
  have hsz : 0 < us.size := (Array.getElem?_eq_some_iff.mp h0).1
  have he₁ := Heap.get?_push_of_some (h := h) { cls := .type "tuple", data := .seq #[v] } hx
  refine wpAny_bind (wpAny_newObj_type (wpAny_bind (wpAny_bind (wpAny_field he₁ hd h0 (wpAny_bind (wpAny_setField he₁ hd hsz ?_))))) (by size_fits))
  exact wpAny_letGo (wpAny_pure q)
end
/-! the start of the program's exceptions -/
structure ExI (K : Frag) (f cd : Addr) : Prop where
  cls : ClsOk K
  opq : nsIn K cStatics "thirdparty.any" = some none
  alg : alongIn K "__init__" bmX = some (some (.builtin "Exception.__init__"))
  cel : List.lookup 25 K = some ⟨.type "cell", none, .cell (some (.ref 41)), #[]⟩
  cod : ∃ (o : Obj) (vs : Array Value) (t : Tok), List.lookup cd K = some o ∧ o.data = .fields vs ∧ vs[2]? = some (.str (Str.ofString "/claim/cut.py") t)
  ga : findIn K (.ref 41) "__getattribute__" = some (some (.builtin "BaseException.__getattribute__"))
  gt : findIn K (.ref 41) "__getattr__" = some none
  sb : subIn K (.ref 41) (.type "BaseException") = some true
  se : subIn K (.ref 41) (.type "Exception") = some true
  hd : hasDictIn K 41 = true
  sa : findIn K (.ref 41) "__setattr__" = some (some (.builtin "object.__setattr__"))
  nc : findIn K (.ref 41) (Str.ofString "code") = some none
  nt : findIn K (.ref 41) (Str.ofString "told") = some none
theorem type_init : typeOf (.builtin "Exception.__init__") = pure (.type "wrapper_descriptor") := by kernel_rfl
theorem owner_init : (".".intercalate ("Exception.__init__".cutAt '.').dropLast) = "Exception" := by
  have e0 : "Exception.__init__".cutAt '.' = ["Exception", "__init__"] := by first | rfl | decide +kernel
  rw [e0]; decide +kernel
noncomputable abbrev supO (x : Addr) : Obj := { cls := .type "super", dict := none, data := .fields #[.ref 41, .ref x, .ref 41], slots := #[] }
noncomputable abbrev mwO (x : Addr) : Obj := { cls := .type "method-wrapper", data := .fields #[.builtin "Exception.__init__", .ref x] }
section
variable {c : Cx} {K : Frag} {D : Nat} {E : EP} {sc : Scope} {ρ : Loc} {Γ : Led} {s : Shared}
theorem keep_mw {x p : Addr} (l : Lk p Γ (.obj (mwO x))) : KeepOk c (.ref p) Γ := fun s v S hv => by
  cases hv.ref'
  obtain ⟨ho, _⟩ := S.or l
  refine ⟨.machine, .inr (.inl rfl), (Looks.ld (part := none) ho).andThen ?_⟩
  first | exact .now | (dsimp only; exact .now)
theorem HC_mw {x p t : Addr} {v : AV} {Q : AV → Led → Prop} (I : In c K D) (C : ClsOk K) {Γn : Addr → Led} (l : Lk p Γ (.obj (mwO x))) (lx : Lk x Γ (.obj (excN t))) (hU : ∀ t', Up x (.obj (excN t')) Γ (Γn t')) (q : ∀ t', Q .none (Γn t')) : HC c (.ref p) [v] Γ Q E := fun s vf vs S hf hvs => by
  cases hf.ref'
  obtain ⟨v, rfl, hv⟩ := hvs.one
  obtain ⟨ho, _⟩ := S.or l
  obtain ⟨hx, _⟩ := S.or lx
  obtain ⟨nm, qn, N, bs, hdct, sn, sub, ab, col, dd, k0, k1, k2, k3, k5, hC⟩ := C
  have X := S.inK I
  have LC : Looks (model c.prog c.w) s.heap (classData 41) _ := (Looks.ld (part := none) (X _ _ hC)).andThen .now
  have S1 := S.push { cls := .type "tuple", data := .seq #[v] }
  have U := hU s.heap.objs.size
  have qq := q s.heap.objs.size
  generalize Γn s.heap.objs.size = Γ' at U qq
  obtain ⟨hh, g, d, tk, os⟩ := s
  refine wpAny_call (base_init ho hx rfl LC rfl rfl ?_)
  have hx1 := Heap.get?_push_of_some (h := hh) { cls := .type "tuple", data := .seq #[v] } hx
  have hs : Heap.SameBut x (hh.push { cls := .type "tuple", data := .seq #[v] }) ((hh.push { cls := .type "tuple", data := .seq #[v] }).update x (Obj.mapFields (·.setIfInBounds 0 (.ref hh.objs.size)))) := Heap.SameBut.update ..
  have hn : ((hh.push { cls := .type "tuple", data := .seq #[v] }).update x (Obj.mapFields (·.setIfInBounds 0 (.ref hh.objs.size)))).get? x = some (excN hh.objs.size) := by
    rw [Heap.get?_update_self _ hx1 rfl]; rfl
  exact ⟨Γ', S1.upd U hs ⟨hn, fun vs n q => nomatch q⟩, (Pres.push ..).trans (.upd U hs), _, .none, qq⟩
theorem cls_m (C : ClsOk K) : ∃ o cd, List.lookup 41 K = some o ∧ o.data = .cls cd ∧ clsIn K 41 = some cd ∧ cd.mro = .ref 41 :: bmX := by
  obtain ⟨nm, qn, N, bs, hdct, sn, sub, ab, col, dd, k0, k1, k2, k3, k5, hC⟩ := C
  exact ⟨_, _, hC, rfl, by unfold clsIn; rw [hC], rfl⟩
theorem cls_sub {cd : ClassData} (h : clsIn K 41 = some cd) (hm : cd.mro = .ref 41 :: bmX) : subIn K (.ref 41) (.ref 41) = some true := by
  show mroIn K 41 (.ref 41) = some true
  unfold mroIn
  rw [h, Option.bind_some, hm]; simp
theorem hideO {α : Type} {M : Model} {A : Around} {cd : Code} {m : Sem α} {Q0 : α → Shared → Prop} {E0 : Value → Shared → Prop} {s : Shared} (h : ∀ (Q : α → Shared → Prop), (∀ v s, Q0 v s → Q v s) → wpOwn M A cd m Q E0 s) : wpOwn M A cd m Q0 E0 s := h _ (fun _ _ x => x)
/-- the call of the base's start -/
theorem sup_stmt (I : In c K D) {f cd : Addr} (X : ExI K f cd) {A0 : Around} {body : List Stmt} (hA : A0.under (.func body c.env) = c.A) (hs : c.env.scope = sc) (hk1 : sc.names.lookup (Str.ofString "super") = some .globalImplicit) (hk2 : sc.names.lookup (Str.ofString "__class__") = some .free) (hks : sc.names.lookup (Str.ofString "self") = some .local)
    (hc : c.env.cells = [(Str.ofString "__class__", 25)]) (hf : c.env.func = some f) (hcd : c.env.code = .ref cd) {of : Obj} {fd : FuncData} {ar : Arg} (hof : List.lookup f K = some of) (hfd : of.data = .func fd) (har : (fd.params.posonlyargs ++ fd.params.args).head? = some ar) (hsf : ar.arg = Str.ofString "self")
    (hg : nsIn K mainGlobals (Str.ofString "super") = some none) {x t : Addr} (hl : Lk (Str.ofString "self") ρ (some (.ref x))) (hx : Lk x Γ (.obj (excN t))) {p1 p2 ap pos sp : Pos} {e : Expr} {pl : Sem Bool} (hi : interactive c.env = false)
    (hsw : swapsWith (.Call (.Attribute (.Call (.Name "super" p1) [] [] p2) "__init__" ap) [e] [] pos) none sp.line c.env = pure false)
    (he : ∀ ov, methodCall (.Call (.Name "super" p1) [] [] p2) "__init__" ap pos c.env ov 1 (backTo pos (starEach [e] c.env)) (backToKw pos (keywordEach [] c.env)) = (do
        let (f, first) ← holding [ov] (getMethod ov "__init__" pl)
        callWith pos f first (backTo pos (starEach [e] c.env)) []))
    (hst : starEach [e] c.env = (false, eval e c.env) :: starEach [] c.env) {K0 : Led → Prop}
    (hpl : (backTo pos (starEach [] c.env)).any (·.1) = false) (q : ∀ p, HEs c [e] ρ ((p, .obj (mwO x)) :: Γ) (fun as Γ₁ => KeepOk c (.ref p) Γ₁ ∧ HC c (.ref p) as Γ₁ (fun v Γ₂ => v = .none ∧ K0 Γ₂) E) E) (s : Shared) (S : Sat c ρ Γ s) :
    wpOwn c.M A0 (.func body c.env) (exec (.Expr (.Call (.Attribute (.Call (.Name "super" p1) [] [] p2) "__init__" ap) [e] [] pos) sp) c.env) (fun f s' => f = .next ∧ ∃ Γ', Sat c ρ Γ' s' ∧ Pres [] Γ s.heap Γ' s'.heap ∧ K0 Γ') (PX c (fIn c) [] Γ s.heap E) s := by
  refine hideO fun Q1 hQ1 => ?_
  have XK := S.C.inK I
  obtain ⟨co0, cd0, hC, hC2, hC3, hm0⟩ := cls_m X.cls
  obtain ⟨co, vs, tk, hco, hcod, hcv⟩ := X.cod
  obtain ⟨mg, mb, hg', hb', hB⟩ := S.C.globals I.G
  obtain ⟨hox, _⟩ := S.C.or hx
  have hsub : Looks (model c.prog c.w) s.heap (isSubtype (.ref 41) (.ref 41)) true := looks_subIn XK (cls_sub hC3 hm0)
  have hdef : ∀ {α : Type} {t : Sem α} {Q : α → Shared → Prop} {E : Value → Shared → Prop} {s : Shared}, wpAny (model c.prog c.w) c.A t Q E s → wpAny (model c.prog c.w) (A0.deeper c.env) t Q E s := fun h => by rw [← hA] at h; exact h
  rw [arm_exec_Expr]
  refine wpOwn_bind (wpOwn_of_wpAny (wpAny_standAt ?_))
  rw [hi, if_neg (by decide), hsw]
  refine wpOwn_bind (wpOwn_of_wpAny (wpAny_pure ?_))
  rw [if_neg (by decide)]
  refine wpOwn_bind ?_
  show wpOwn _ _ _ (do
    let ov ← attributeBase (.Call (.Name "super" p1) [] [] p2) "__init__" c.env (eval (.Call (.Name "super" p1) [] [] p2) c.env)
    standAt ap.atName
    methodCall (.Call (.Name "super" p1) [] [] p2) "__init__" ap pos c.env ov 1 (backTo pos (starEach [e] c.env)) (backToKw pos (keywordEach [] c.env))) _ _ s
  refine wpOwn_bind (super_base (f := f) (cd := cd) (of := of) (ocd := co) (fd := fd) (first := ar) (vs := vs) (file := Str.ofString "/claim/cut.py") (t := tk) (cls := .ref 41) (self := .ref x) (by decide) (kind_of hs hk1) (kind_of hs hk2) hf (XK _ _ hof) hfd har hcd (XK _ _ hco) hcod hcv I.G.prg.1 I.G.prg.2
    (fun Q' hq => hdef (ks_loadName_global I.G.kind (kind_of hs hk1) (loadGlobal_builtin (by rw [I.G.glb]; exact hg') (mg_none_of XK hg' hg) (by rw [I.G.blt]; exact hb') ((hB _ (by intro z; revert z; decide)).trans (by boot_by_name)) hq)))
    (fun Q' hq => hdef (wpAny_loadName_free I.G.kind (kind_of hs hk2) (by rw [hc]; rfl) ⟨_, XK _ _ X.cel, rfl⟩ hq (by decide)))
    (fun Q' hq => hdef (by
      obtain ⟨⟨m, hn, hm⟩, _⟩ := S.loc
      have hv := hm _ hl.mem
      rw [hsf]
      cases z : m (Str.ofString "self") with
      | none => rw [show m (Str.ofString "self", some (AV.ref x)).1 = m (Str.ofString "self") from rfl, z] at hv; exact hv.elim
      | some v =>
        rw [show m (Str.ofString "self", some (AV.ref x)).1 = m (Str.ofString "self") from rfl, z] at hv
        cases (show VR s.heap v (.ref x) from hv).ref'
        exact wpAny_loadName_local I.G.kind (kind_of hs hks) hn z hq))
    (fun Q' hq => by obtain ⟨hh, g, d, t, os⟩ := s; exact ks_wpAny_isType_cls (XK _ _ hC) hC2 hq)
    ?_)
  refine hdef ?_
  obtain ⟨hh, g, d, t', os⟩ := s
  refine ks_wpAny_call_super (XK _ _ hC) hC2 hox rfl (fun _ h => nomatch h) hsub fun h' hso keep => ?_
  have S1 := S.C.behind (h' := h') (t := t') (o := .obj (supO x)) keep ⟨hso, fun _ _ h => nomatch h⟩
  have P1 : Pres [] Γ hh ((hh.objs.size, .obj (supO x)) :: Γ) h' := Pres.behind (s := ⟨hh, g, d, t', os⟩) keep hso
  have XK' : K.In h' := fun a o e => keep _ _ (XK a o e)
  refine wpOwn_bind (wpOwn_of_wpAny (wpAny_standAt ?_))
  rw [he]
  have hxC : x ≠ 41 := by
    intro z
    have h1 := S.C.new _ hx.mem
    have h2 := I.G.kin 41 _ (by rw [I.K]; exact hC)
    rw [show (x, AO.obj (excN t)).1 = x from rfl, z, h2] at h1; cases h1
  refine wpOwn_of_wpAny ?_
  refine hdef ?_
  refine wpAny_bind (wpAny_holding (getMethod_super_b (C := 41) (D := 41) (x := x) (so := hh.objs.size) (l₀ := .ref 41 :: bmX) (l := bmX) (id := "Exception.__init__") hso (looks_opaque XK' X.opq) ?_ (by decide) XK' X.alg type_init hxC (by decide) (keep _ _ hox) rfl (by rw [owner_init]; exact looks_subIn XK' X.se) ?_))
  · exact hm0 ▸ (looks_clsIn XK' hC3).andThen .now
  have S2 := S1.pushed (o := mwO x) (ao := .obj (mwO x)) ⟨Heap.get?_push_size _ rfl, fun _ _ h => nomatch h⟩
  have P2 := P1.trans (Pres.pushed _ _ (mwO x) (.obj (mwO x)))
  have S3 := (S2.tok (t' + 1)).subl (Sb.cons Sb.tail)
  have P3 := P2.sub (Γ₂ := (h'.objs.size, .obj (mwO x)) :: Γ) fun p hp => (Sb.cons Sb.tail).subset hp
  have S4 := S.pres S3 P3
  have key := q _ _ pos S4
  dsimp only
  rw [hst] at key ⊢
  refine callWith_of (P := fun h => ∃ k, (k = Keeper.frame ∨ k = Keeper.machine ∨ k = Keeper.boundFrame) ∧ Looks c.M h (keeperOf (.ref h'.objs.size)) k) (by show ((false || (backTo pos (starEach [] c.env)).any (·.1)) || false) = false; rw [hpl]; rfl) (fun _ h => h) (evalArgs_plain ?_)
  refine vsuse S4 P3 key fun vs as s₃ Γ₃ S5 P5 T₃ hvs hq₃ => ⟨hq₃.1 s₃ _ S5.C (.ref _), ?_⟩
  refine wpAny_mono (wcall P5 (hq₃.2 s₃ (.ref h'.objs.size) _ S5.C (.ref _) hvs)) (fun v s₄ h4 => ?_) fun _ _ x => x
  obtain ⟨Γ₄, S6, P6, a, hv, ha, hK⟩ := h4
  subst ha
  cases hv.none'
  show wpOwn _ _ _ (pure Flow.next) _ _ _
  exact wpOwn_of_wpAny (wpAny_pure (hQ1 _ _ ⟨rfl, Γ₄, S.pres S6 P6, P6, hK⟩))
/-- an attribute of an exception is read -/
theorem get_x {f cd : Addr} (X : ExI K f cd) (XK : K.In s.heap) {A : Around} {E' : Value → Shared → Prop} {x d : Addr} {ox : Obj} {kvs : List (Str × Value)} {name : Str} {v : Value} {expr : Bool} {Q : Value → Shared → Prop} (hx : s.heap.get? x = some ox) (hc : ox.cls = .ref 41) (hnc : notCls ox = true) (hdx : ox.dict = some d)
    (hD : s.heap.DictOf (strKind c.prog c.w) d kvs) (hv : valueAt kvs name = some v) (hn : findIn K (.ref 41) name = some none) (hh : handedIn v = true) (q : Q v { s with toks := s.toks + 1 }) : wpAny c.M A (getAttr (.ref x) name expr) Q E' s := by
  obtain ⟨o, hod, hlk⟩ := lookIn_of (name := name) hD
  rw [hv] at hlk
  exact get_exc XK (od := some o) ⟨hx, hc, hnc, by rw [hdx]; exact hod⟩ X.ga X.gt X.sb (findObj_own X.hd hn rfl hlk) hh q
theorem osa_exc {prog : Program} {w : World} {A : Around} {R : Result → Shared → Prop} {x C : Addr} {ox : Obj} {od : Option Obj} {name : Str} {tk : Tok} {v : Value} {cd : ClassData} (X : K.In s.heap) (I : InstAt s.heap x ox C od) (hc : clsIn K C = some cd) (hm : cd.mro = .ref C :: bmX) (hn : findIn K (.ref C) name = some none)
    (h : wpAny (model prog w) A.in1 (Builtin.ObjectAttr.storeInOwnDict (.ref x) (.ref C) (.str name tk) name v false)
      (fun (fin : PySem.Fin) s' => match fin with | .done f => R (.ok f) s' | .again c' => c'.quiet = true ∧ codeAny (model prog w) A c' R s') (fun e s' => R (.error e) s') s) :
    codeAny (model prog w) A (.call (.builtin "object.__setattr__") ⟨[.ref x, .str name tk, v], []⟩) R s := by
  have SF := PySem.F.store_Exception
  have sub : Looks (model prog w) s.heap (isInstance (.ref x) (.type "object")) true := I.type.andThen (looks_mroIn X (by unfold mroIn; rw [hc, Option.bind_some, hm]; rfl))
  refine codeAny_call_builtin SF.slot.plain SF.entry (@check_slot (model prog w) _ _ s "object.__setattr__" "object" "__setattr__" (.ref x) [.str name tk, v] [] _ SF.kind SF.split sub (SF.args (.ref x) (.str name tk) v) ?_)
  have hm' : Looks (model prog w) s.heap (mroOf (.ref C)) cd.mro := (looks_clsIn X hc).andThen .now
  rw [osa_eq, refuse_eq]
  refine wpAny_bind (wpAny_bind (I.type.here (wpAny_bind (hm'.here ?_))))
  rw [hm, refuseLoop_ref, SF.passes]
  refine wpAny_pure (wpAny_bind (I.type.here (wpAny_bind ((looks_findIn X hn).here (wpAny_bind (wpAny_pure ?_))))))
  exact h
theorem cls_x (C : ClsOk K) : ∃ cd, clsIn K 41 = some cd ∧ cd.mro = .ref 41 :: bmX := (cls_m C).elim fun _ h => h.elim fun cd h => ⟨cd, h.2.2⟩
theorem HSAt_excO (I : In c K D) {f cd : Addr} (X : ExI K f cd) {x d t : Addr} {es es' : List (Str × AV)} {name : Str} {a : AV} {Γ' : Led} {QU : Led → Prop} (hx : Lk x Γ (.obj (excO d t))) (hd : Lk d Γ (.sd es)) (hz : es.length ≤ 99) (P : Put name a es es') (U : Up d (.sd es') Γ Γ')
    (hn : findIn K (.ref 41) name = some none) (q : QU Γ') : HSAt c (.ref x) name a Γ QU E := fun s vo vv S ho hv => by
  cases ho.ref'
  obtain ⟨hox, _⟩ := S.or hx
  obtain ⟨kvs, hD, hk⟩ := S.or hd
  obtain ⟨od, hod, _⟩ := lookIn_of (name := name) hD
  have hnn : (kvs.map (·.1)).Nodup := by obtain ⟨_, _, _, _, _, _, _, _, hn⟩ := hD; exact hn
  have XK : K.In s.heap := S.inK I
  have X1 : K.In ({ s with toks := s.toks + 1 } : Shared).heap := XK
  have II : InstAt s.heap x (excO d t) 41 (some od) := ⟨hox, rfl, rfl, hod⟩
  obtain ⟨cd, hc, hm⟩ := cls_x X.cls
  obtain ⟨cd', hc', hd'⟩ := any_some X.hd
  rw [hc] at hc'; cases hc'
  refine set_plain XK II X.sa (osa_exc (s := { s with toks := s.toks + 1 }) XK II hc hm hn ?_)
  refine wpAny_bind (wpAny_pure (wpAny_bind (wpAny_bind (wpAny_loadPart hox (wpAny_bind ((looks_clsIn X1 hc).here ?_))))))
  rw [hd']
  refine wpAny_pure (a := some d) ?_
  refine wput (c := c) (M' := c.M) (s := { s with toks := s.toks + 1 }) hD (by rw [hk.length]; exact hz) fun h' h1 h2 => ?_
  have T := tups_but S U.key_mem h2
  exact ⟨Γ', (S.upd U h2 ⟨_, h1, (hk.put hv hnn P).tups T⟩).tok _, .upd U h2, q⟩
/-- the first attribute of an exception is stored -/
theorem HSAt_excN (I : In c K D) {f cd : Addr} (X : ExI K f cd) {x t : Addr} {name : Str} {a : AV} {QU : Led → Prop} {Γn : Addr → Led} (hx : Lk x Γ (.obj (excN t))) (hU : ∀ d, Up x (.obj (excO d t)) Γ (Γn d))
    (hn : findIn K (.ref 41) name = some none) (q : ∀ d, QU ((d, .sd [(name, a)]) :: Γn d)) : HSAt c (.ref x) name a Γ QU E := fun s vo vv S ho hv => by
  cases ho.ref'
  obtain ⟨hox, _⟩ := S.or hx
  have XK : K.In s.heap := S.inK I
  have X1 : K.In ({ s with toks := s.toks + 1 } : Shared).heap := XK
  have II : InstAt s.heap x (excN t) 41 none := ⟨hox, rfl, rfl, trivial⟩
  obtain ⟨cd, hc, hm⟩ := cls_x X.cls
  obtain ⟨cd', hc', hd'⟩ := any_some X.hd
  rw [hc] at hc'; cases hc'
  refine set_plain XK II X.sa (osa_exc (s := { s with toks := s.toks + 1 }) XK II hc hm hn ?_)
  refine wpAny_bind (wpAny_pure (wpAny_bind (wpAny_bind (wpAny_loadPart hox (wpAny_bind ((looks_clsIn X1 hc).here ?_))))))
  rw [hd']
  have U := hU s.heap.objs.size
  have qq := q s.heap.objs.size
  generalize Γn s.heap.objs.size = Γ' at U qq
  show wpAny _ _ (do
    let d ← alloc { cls := Value.type "dict", data := Data.dict #[] }
    update x fun o => { cls := o.cls, dict := some d, data := o.data, slots := o.slots }
    dictMade (.ref 41) x d) _ _ _
  have S1 := S.pushed (o := { cls := .type "dict", data := .dict #[] }) (ao := .sd []) (or_newDict (Heap.get?_push_size _ rfl))
  have P1 := Pres.pushed Γ s.heap { cls := .type "dict", data := .dict #[] } (.sd [])
  have hx1 := Heap.get?_push_of_some (h := s.heap) { cls := .type "dict", data := .dict #[] } hox
  refine wpAny_bind (wpAny_alloc (wpAny_bind ?_))
  refine wpAny_update hx1 ?_
  have hs : Heap.SameBut x (s.heap.push { cls := .type "dict", data := .dict #[] }) ((s.heap.push { cls := .type "dict", data := .dict #[] }).update x fun o => { cls := o.cls, dict := some s.heap.objs.size, data := o.data, slots := o.slots }) := Heap.SameBut.update ..
  have S2 := S1.upd (U := Up.there U) hs (o := .obj (excO s.heap.objs.size t)) ⟨by rw [Heap.get?_update_self _ hx1 rfl], fun vs n q => nomatch q⟩
  have P2 := P1.trans (Pres.upd (.there U) hs)
  refine wpAny_of_eq (a := some s.heap.objs.size) rfl ?_
  obtain ⟨kvs, hD, hk⟩ := S2.or (a := s.heap.objs.size) (o := .sd []) .here
  cases hk
  refine wput (c := c) (M' := c.M) (s := { s with heap := (s.heap.push { cls := .type "dict", data := .dict #[] }).update x fun o => { cls := o.cls, dict := some s.heap.objs.size, data := o.data, slots := o.slots }, toks := s.toks + 1 }) hD (by simp) fun h' h1 h2 => ?_
  have S2' := S2.tok (s.toks + 1)
  have T := (S.tups0 P2).trans (tups_but S2' (List.mem_cons_self ..) h2)
  have U3 : Up s.heap.objs.size (.sd [(name, a)]) ((s.heap.objs.size, .sd []) :: Γ') ((s.heap.objs.size, .sd [(name, a)]) :: Γ') := .here
  have hk' : KVR h' (stored [] name vv) [(name, a)] := KVR.new (hv.tups T) .nil (by simp)
  exact ⟨_, (S2'.upd U3 h2 ⟨_, h1, hk'⟩).tok _, P2.trans (.upd U3 h2), qq⟩
end
section
variable {c : Cx} {K : Frag} {D : Nat} {E : EP} {sc : Scope} {ρ : Loc} {Γ : Led} {Q : AV → Led → Prop} {QF : AF → Loc → Led → Prop} {s : Shared}
/-- a call of a function of the program, some parameters left to their defaults -/
theorem HCc_dflt (I : In c K D) {f : Addr} {st : Stmt} {cl : List (Str × Addr)} {dV : Value} {ps : Arguments} {body : List Stmt} {as as' : List AV} {ρ₀ : Loc} (F : Fn K f st cl dV) (hx : fX st = .mk ps body sc) (hD : D + 1 < recursionLimit)
    (hbind : ∀ (fd : FuncData), fd.params = ps → fd.defaults = dV → fd.kwdefaults = .none → ∀ s (vs : List Value), K.In s.heap → VRs s.heap vs as → ∃ vs', VRs s.heap vs' as' ∧ BindsTo s fd ⟨vs, []⟩ ((ps.args.map (·.arg)).zip vs')) (hcell : (sc.names.all fun x => x.2 != .cell) = true) (hloc : ((ps.args.map (·.arg)).all fun n => sc.names.lookup n == some .local) = true) (hrev : (ps.args.map (·.arg)).Nodup)
    (hρ : LocsOf sc.names ((ps.args.map (·.arg)).zip as') ρ₀) (hnod : (ρ₀.map (·.1)).Nodup) (hco : (!sc.isCoroutine && !sc.isGenerator && sc.kind == .function) = true)
    (q : ∀ c' (o : Obj) (fd : FuncData), In c' K (D + 1) → c'.env.scope = sc → c'.env.cells = cl → c'.env.func = some f → c'.env.code = fd.code → List.lookup f K = some o → o.data = .func fd → fd.params = ps → c'.A = c.A.deeper c'.env → ∀ s₁, Sat c' ρ₀ Γ s₁ →
      wpOwn c'.M c.A (.func body c'.env) (execs body c'.env) (PG c' [c'.env.locals] Γ s₁.heap (RF c' (Ret Q))) (PX c' (fIn c') [c'.env.locals] Γ s₁.heap E) s₁) : HCc c (.ref f) as Γ Q E := by
  obtain ⟨o, fd, h1, _, h2, h3, h4, h5, h6, h7, h8, h9, h10⟩ := F.ex
  rw [hx] at h9
  obtain ⟨b, hb⟩ : ∃ b, fd.body = .stmts b := by cases e : fd.body <;> rw [e] at h10 <;> first | exact ⟨_, rfl⟩ | exact h10.elim
  rw [hb] at h9
  injection h9 with e1 e2 e3
  dsimp only at e2
  subst e1 e2 e3 h6
  simp only [Bool.and_eq_true, Bool.not_eq_true', beq_iff_eq] at hco
  exact HC_own I hD h1 h2 hb h3 (fun s vs S hvs => hbind fd rfl h7 h8 s vs (S.inK I) hvs) (fun x hx => by have := List.all_eq_true.mp hcell x hx; simpa using this) (fun n hn => by have := List.all_eq_true.mp hloc n hn; simpa using this) hrev hρ hnod h4 h5 hco.1.1 hco.1.2 hco.2
    fun c' I' a1 a2 a3 a4 a5 => q c' o fd I' a1 a2 a3 a4 h1 h2 rfl a5
/-- the same for a body that needs no place of its own -/
theorem own_of_HB {c : Cx} {A0 : Around} {body : List Stmt} (hA : c.A = A0.deeper c.env) (q : HB c body ρ Γ QF E) {s : Shared} (S : Sat c ρ Γ s) : wpOwn c.M A0 (.func body c.env) (execs body c.env) (PG c [c.env.locals] Γ s.heap (RF c QF)) (PX c (fIn c) [c.env.locals] Γ s.heap E) s := wpOwn_of_wpAny (by
    show wpAny c.M (A0.deeper c.env) _ _ _ _
    rw [← hA]
    exact q s S)
/-- one statement by itself, then the rest -/
theorem own_cons {c : Cx} {A0 : Around} {cd : Code} {st : Stmt} {r : List Stmt} {K0 : Led → Prop} (hA : c.A = A0.under cd) {s : Shared} (S : Sat c ρ Γ s)
    (h : wpOwn c.M A0 cd (exec st c.env) (fun f s' => f = .next ∧ ∃ Γ', Sat c ρ Γ' s' ∧ Pres [] Γ s.heap Γ' s'.heap ∧ K0 Γ') (PX c (fIn c) [] Γ s.heap E) s) (q : ∀ Γ', K0 Γ' → HB c r ρ Γ' QF E) :
    wpOwn c.M A0 cd (execs (st :: r) c.env) (PG c [c.env.locals] Γ s.heap (RF c QF)) (PX c (fIn c) [c.env.locals] Γ s.heap E) s := by
  show wpOwn _ _ _ (do match ← exec st c.env with | .next => execs r c.env | f => pure f) _ _ _
  refine wpOwn_bind (wpOwn_mono h (fun f s' ⟨e, Γ', S', P', k⟩ => ?_) fun _ _ x => x.mono sub_nil)
  subst e
  refine wpOwn_of_wpAny ?_
  rw [← hA]
  exact wliftX (P'.mono sub_nil) (q Γ' k s' S')
theorem HC_mono {f : AV} {as : List AV} {Q' : AV → Led → Prop} (q : HC c f as Γ Q E) (h : ∀ v Γ', Q v Γ' → Q' v Γ') : HC c f as Γ Q' E := fun s vf vs S hf hvs =>
  wpAny_mono (q s vf vs S hf hvs) (fun v s' ⟨Γ₁, S₁, P₁, a, hv, hq⟩ => ⟨Γ₁, S₁, P₁, a, hv, h _ _ hq⟩) fun _ _ x => x
theorem Sb.swap {p q : Addr × AO} : Sb (p :: q :: Γ) (q :: p :: Γ) := ⟨fun {r} h => by
    rcases List.mem_cons.mp h with rfl | h
    · exact .tail _ (.head _)
    · rcases List.mem_cons.mp h with rfl | h
      · exact .head _
      · exact .tail _ (.tail _ h), fun n => by
    have n1 := List.nodup_cons.mp n
    have n2 := List.nodup_cons.mp n1.2
    refine List.nodup_cons.mpr ⟨fun m => ?_, List.nodup_cons.mpr ⟨fun m => n1.1 (.tail _ m), n2.2⟩⟩
    rcases List.mem_cons.mp m with m | m
    · exact n1.1 (List.mem_cons.mpr (.inl (show q.1 = p.1 from Eq.symm m)))
    · exact n2.1 m⟩
end
section
variable {c : Cx} {K : Frag} {D : Nat} {E : EP} {sc : Scope} {ρ : Loc} {Γ : Led} {Q : AV → Led → Prop} {QF : AF → Loc → Led → Prop} {s : Shared}
/-- the frame's own names are changed -/
theorem SatC.reNs {L : Addr} {m m' : Str → Option Value} {h' : Heap} {t : Nat} (S : SatC c Γ s) (hΓ : L ∉ adr Γ) (hb : c.h₀.get? L = none) (hn0 : s.heap.Ns L m) (hn : h'.Ns L m') (hs : Heap.SameBut L s.heap h') : SatC c Γ { s with heap := h', toks := t } where
  base := fun b ob e => (hs.2 b fun q => by rw [q, hb] at e; cases e).trans (S.base b ob e)
  gens := S.gens
  os := S.os
  led := fun p hp => (S.led p hp).keeps (tups_store hn0 hs) fun ob e => (hs.2 _ fun q => hΓ (q ▸ List.mem_map_of_mem hp)).trans e
  new := S.new
  nod := S.nod
  frs := by
    obtain ⟨o', es', ep', ho', hd', _⟩ := hn
    have key : ∀ {l : List Env}, s.heap.FunFrames c.h₀ l → h'.FunFrames c.h₀ l := by
      intro l
      induction l with
      | nil => intro _; trivial
      | cons e r ih =>
        rintro ⟨hk, ⟨L', o, hf, hn, ho, hd⟩, hr⟩
        refine ⟨hk, ?_, ih hr⟩
        by_cases q : L' = L
        · exact ⟨L', o', hf, hn, q ▸ ho', fun vs => by rw [hd']; intro z; cases z⟩
        · exact ⟨L', o, hf, hn, (hs.2 L' q).trans ho, hd⟩
    exact key S.frs
  off := S.off
theorem fld_ne {h : Heap} {L e : Addr} {m : Str → Option Value} {o : Obj} {vs : Array Value} (hn : h.Ns L m) (ho : h.get? e = some o) (hd : o.data = .fields vs) : e ≠ L := fun z => by
  obtain ⟨o', es', ep', ho', hd', _⟩ := hn
  rw [← z, ho] at ho'; cases ho'; rw [hd] at hd'; cases hd'
theorem notCls_fields {o : Obj} {vs : Array Value} (hd : o.data = .fields vs) : notCls o = true := by obtain ⟨_, _, dt, _⟩ := o; cases hd; rfl
/-- try: e; except the program's own: return its code -/
noncomputable abbrev HS_Try_k1 (ρ : Loc) (QF : AF → Loc → Led → Prop) := fun (a : AV) (Γ₁ : Led) => a.plain = true ∧ QF .next ρ Γ₁
theorem HS_Try (I : In c K D) {f cd : Addr} (X : ExI K f cd) (hx : exmOne K (.ref 41) (.ref 41) = some true) (hs : c.env.scope = sc) (hkB : sc.names.lookup (Str.ofString "BasicError") = some .globalImplicit) (hg : nsIn K mainGlobals (Str.ofString "BasicError") = some (some (.ref 41))) {n : Str} (hkn : sc.names.lookup n = some .local)
    (hdn : (n == Str.ofString "__debug__") = false) {e : Expr} {ep tp np ap rp hp pos : Pos} (hi : interactive c.env = false) (hsw : swapsWith e none ep.line c.env = pure false)
    (he : ∀ (A : Around) (Q : Value → Shared → Prop) (E' : Value → Shared → Prop) (s : Shared), wpAny c.M A (eval (.Name n np) c.env) (fun v s₁ => wpAny c.M A (getAttr v (Str.ofString "code") true) Q E' s₁) E' s → wpAny c.M A (eval (.Attribute (.Name n np) (Str.ofString "code") ap) c.env) Q E' s)
    (q : HE c e ρ Γ (HS_Try_k1 ρ QF) (fun code Γ₁ => QF (.ret (.str code)) [] Γ₁)) :
    HS c (.Try [.Expr e ep] [.ExceptHandler (some (.Name (Str.ofString "BasicError") tp)) (some n) [.Return (some (.Attribute (.Name n np) (Str.ofString "code") ap)) rp] hp] [] [] pos) ρ Γ QF E := fun s S => by
  refine wpAny_Try_except ?_
  show wpAny c.M c.A (do match ← exec (.Expr e ep) c.env with | .next => execs [] c.env | f => pure f) _ _ s
  refine wpAny_bind (wpAny_Expr (wpAny_mono (q s S) (fun v s₁ ⟨Γ₁, S₁, P₁, a, hv, hp, hq⟩ => ?_) (fun x s₁ hx₁ => ?_)) hi hsw)
  · exact expr_goes hv hp (wpAny_execs_nil (wpAny_execs_nil (retN (s := s) (S.pres S₁ P₁) (P₁.mono sub_nil) hq)))
  · refine wpAny_mono (hx₁.noted (F := fun T _ => T.isSome = true) (E' := PX c (fIn c) [c.env.locals] Γ s.heap E) I.G I.G.frs (fun _ _ _ => rfl)) (fun _ s₂ hx₂ => ?_) fun _ _ x => x
    refine PX.use hx₂ fun e0 d T fl code told Γ' hx₃ Z h3 hq => ?_
    subst hx₃
    cases T with
    | none => cases h3
    | some t =>
      refine Z.setFlight (fr := none) fun s₃ Z₃ => ?_
      refine hide fun Q0 E0 hQ0 hE0 => ?_
      refine wpAny_handleBy_cons (codeAny_handlers_test ?_) (by intro q; cases q)
      refine hide fun Q1 E1 hQ1 hE1 => ?_
      obtain ⟨mg, mb, hg', hb', hB⟩ := Z₃.S.globals I.G
      have XK := Z₃.S.inK I
      refine Name_function_global I.G.kind (kind_of hs hkB) (loadGlobal_global (by rw [I.G.glb]; exact hg') (mg_of (Z₃.S.kin I.G) hg' (by rw [I.K]; exact hg)) ?_) (by decide)
      have LT : Looks c.M s₃.heap (typeOf (.ref e0)) (.ref 41) := Z₃.A.use fun o vs a0 ho hc hdct hd h0 h1 => hc ▸ (Looks.ld ho).andThen .now
      refine hQ1 _ _ ?_
      clear hQ1 hE1 Q1 E1
      refine (exm_one XK LT hx).here ?_
      refine codeAny_handlers_suite_as ?_
      refine Z₃.setFlight (fr := none) fun s₄ Z₄ => ?_
      refine hide fun Q1 E1 hQ1 hE1 => ?_
      refine Z₄.A.use fun o vs a0 ho hc hdct hd h0 h1 => ?_
      have S₄ := S.pres Z₄.S Z₄.P
      obtain ⟨⟨m, hn, hm⟩, _⟩ := S₄.loc
      refine wpAny_storeName_local (kind_of hs hkn) hn (fun h' hn' hs' => ?_) (fn_notcls I.G)
      refine hQ1 _ _ ?_
      clear hQ1 hE1 Q1 E1
      refine hide fun Q1 E1 hQ1 hE1 => ?_
      have hne : e0 ≠ c.env.locals := fld_ne hn ho hd
      have S₅ := Z₄.S.reNs (h' := h') (t := s₄.toks + 1) S₄.lof S.lnew hn hn' hs'
      have XK' : K.In h' := S₅.inK I
      obtain ⟨kvs, hD, hk⟩ := S₅.or (a := d) (o := excD code told) .here
      obtain ⟨v, hv, hr⟩ := sd_get hD hk (k := Str.ofString "code") .here
      obtain ⟨tk, rfl⟩ := hr.str'
      have ho' := (hs'.2 e0 hne).trans ho
      show wpAny c.M _ (do match ← exec (.Return (some (.Attribute (.Name n np) (Str.ofString "code") ap)) rp) c.env with | .next => execs [] c.env | f => pure f) _ _ _
      refine wpAny_bind (wpAny_Return_some (he _ _ _ _ (wpAny_Name (wpAny_loadName_local I.G.kind (kind_of hs hkn) hn' (v := .ref e0) (by simp) ?_) hdn)))
      refine get_x (c := c) X XK' ho' hc (notCls_fields hd) hdct hD hv X.nc rfl ?_
      refine wpAny_pure ?_
      refine hQ1 _ _ ?_
      clear hQ1 hE1 Q1 E1
      refine wpAny_nameGoes (kind_of hs hkn) hn' (fn_notcls I.G) fun h'' m'' hn'' hs'' => ?_
      have lof' := S₄.lof
      have S₆ := S₅.reNs (h' := h'') (t := s₄.toks + 1 + 1 + 1) lof' S.lnew hn' hn'' hs''
      have P₆ := ((Z₄.P.mono (sub_nil (X := [c.env.locals]))).trans (Pres.store hn' hs')).trans (Pres.store hn'' hs'')
      refine hQ0 _ _ ?_
      exact ⟨Γ', S₆.subl .tail, P₆.sub fun p hp => .tail _ hp, .ret (.str code), [], .str .., ⟨⟨_, hn'', fun p hp => by cases hp⟩, .nil⟩, fun m => lof' (.tail _ m), hq⟩
end
section
variable {c : Cx} {K : Frag} {D : Nat} {E : EP} {sc : Scope} {ρ : Loc} {Γ Γ' : Led} {Q : AV → Led → Prop} {QF : AF → Loc → Led → Prop} {s : Shared}
/-! functions made in a body -/
noncomputable def tabO (l : List (Pos × Addr)) : AO := .obj (tabObj (triples l).toArray)
noncomputable def codeO (q : Str) : AO := .any fun h a => h.CodeRec (.ref a) q
theorem or_code {prog : Program} {w : World} {h : Heap} {a : Addr} {q : Str} (x : h.CodeRec (.ref a) q) : OR prog w h a (codeO q) := by
  obtain ⟨c, o, vs, t, e, ho, hd, hv⟩ := id x
  cases e
  exact or_any ho hd x fun h₁ h₂ ⟨c, o, vs, t, e, ho, hd, hv⟩ T k => by cases e; exact ⟨_, o, vs, t, rfl, k o ho, hd, hv⟩
theorem SatC.updX {a : Addr} {o : AO} {h' : Heap} {t : Nat} (S : SatC c Γ s) (U : Up a o Γ Γ') (hs : Heap.ExtBut a s.heap h') (hO : OR c.prog c.w h' a o) : SatC c Γ' { s with heap := h', toks := t } := by
  have hna : c.h₀.get? a = none := by
    obtain ⟨q, hq, e'⟩ := List.mem_map.mp U.key_mem
    have := S.new q hq
    rw [show q.1 = a from e'] at this; exact this
  have T : Tups s.heap h' := fun b vs t => by
    obtain ⟨o, ho, r⟩ := t
    refine ⟨o, hs b o (fun e => ?_) ho, r⟩
    obtain ⟨p, hp, e'⟩ := List.mem_map.mp U.key_mem
    subst e
    exact (S.led p hp).noTup (vs := vs) (e' ▸ ⟨o, ho, r⟩)
  exact {
    base := fun b ob e => hs b ob (fun q => by rw [q, hna] at e; cases e) (S.base b ob e)
    gens := S.gens
    os := S.os
    led := fun p hp => by
      rcases U.mem S.nod p hp with e | ⟨hne, hp'⟩
      · rw [e]; exact hO
      · exact (S.led p hp').keeps T fun ob e => hs _ _ hne e
    new := fun p hp => by
      rcases U.mem S.nod p hp with e | ⟨_, hp'⟩
      · rw [e]; exact hna
      · exact S.new p hp'
    nod := by rw [adr, U.keys]; exact S.nod
    frs := frs_but (fun b o hb e => hs b o hb e) (fun e he q => S.off e he a q U.key_mem) S.frs
    off := fun e he L hL m => S.off e he L hL (by rw [adr, U.keys] at m; exact m) }
theorem Pres.updX {a : Addr} {o : AO} {h h' : Heap} (U : Up a o Γ Γ') (hs : Heap.ExtBut a h h') : Pres [] Γ h Γ' h' :=
  ⟨fun b ob e _ hΓ => ⟨ob.slots, hs b ob (fun q => hΓ (q ▸ U.key_mem)) e⟩, fun b m => .inl (by rw [adr, U.keys] at m; exact m), fun _ m => nomatch m⟩
theorem triples_snoc (l : List (Pos × Addr)) (p : Pos) (a : Addr) : (triples l).toArray ++ #[rawInt p.line, rawInt p.col, .ref a] = (triples (l ++ [(p, a)])).toArray := by
  rw [triples_append]; simp
theorem triples_ok : ∀ l : List (Pos × Addr), TriplesOk (triples l)
  | [] => trivial
  | p :: r => by
    have := triples_ok r
    simp only [triples] at this ⊢
    exact this
/-- a small function is made, its code for the first time -/
theorem HE_Lambda1 (I : In c K D) {cdl P : Addr} {l : List (Pos × Addr)} {params : Arguments} {body : Expr} {scope : Scope} {pos : Pos} {clos : List (Str × Addr)} {Γn : Addr → Led} (hcode : c.env.code = .ref cdl) (C : codeHdIn K cdl P = true) (hP : Lk P Γ (tabO l)) (hnf : codeAmong pos (triples l) = none)
    (hdef : defaultsOf params c.env = ([], [])) (hcl : closureFor scope c.env = pure clos) (hU : ∀ c', Up P (tabO (l ++ [(pos, c')])) Γ (Γn c'))
    (q : ∀ f c' pm ctv, Q (.ref f) ((f, .fn (kla_fn "<lambda>" (c.env.qual ++ "<lambda>") params body scope clos pm (.ref c') ctv)) :: (c', codeO (c.env.qual ++ "<lambda>")) :: Γn c')) : HE c (.Lambda params body scope pos) ρ Γ Q E := fun s S => by
  refine kla_eval hdef ?_
  obtain ⟨mg, hg, hbt⟩ := I.G.bat
  have XK := S.C.inK I
  obtain ⟨hPo, _⟩ := S.C.or hP
  have hPn := S.C.new _ hP.mem
  have hgP : mainGlobals ≠ P := fun e => by
    obtain ⟨o, es, ep, ho, _⟩ := hg
    rw [e] at ho
    rw [show (P, tabO l).1 = P from rfl, ho] at hPn; cases hPn
  obtain ⟨bm, ob, b1, b2, b3, b4, b5, b6⟩ := hbt P hPn
  refine kla_makeFunction (mg := mg) hcl I.G.glb (hg.keeps S.C.base) hcode (codeHd_of_K XK C) hPo (triples_ok l) hnf hgP ⟨bm, ob, b1, b2, b3, b4, S.C.base _ _ b5, b6⟩ fun c' ctv h' tk hx hge hlt hrec htb => ?_
  have U := hU c'
  have qq := q h'.objs.size c' ((mg "__name__").getD .none) ctv
  generalize Γn c' = Γ' at U qq
  have hO : OR c.prog c.w h' P (tabO (l ++ [(pos, c')])) := ⟨by rw [htb, triples_snoc], fun _ _ h => nomatch h⟩
  have S1 := S.C.updX (t := tk) U hx hO
  have P1 : Pres [] Γ s.heap Γ' h' := .updX U hx
  have hcn : s.heap.get? c' = none := by
    cases z : s.heap.get? c' with
    | none => rfl
    | some o => exact absurd (Heap.lt_size z) (Nat.not_lt.mpr hge)
  have hcΓ : c' ∉ adr Γ' := fun m => by
    rw [adr, U.keys] at m
    exact absurd (S.C.below m) (Nat.not_lt.mpr hge)
  have S2 := S1.take (a := c') (o := codeO (c.env.qual ++ "<lambda>")) (or_code hrec) (S.C.base_none hge) hcΓ fun e he z => Nat.not_lt.mpr hge (S.C.fr_lt he z)
  have P2 : Pres [] Γ s.heap ((c', codeO (c.env.qual ++ "<lambda>")) :: Γ') h' := ⟨P1.keep, fun a m => (List.mem_cons.mp m).elim (fun e => .inr (by rw [e]; exact hcn)) (P1.grow a), P1.live⟩
  have S3 := S2.pushed (o := kla_obj "<lambda>" (c.env.qual ++ "<lambda>") params body scope clos ((mg "__name__").getD .none) c' ctv) (ao := .fn (kla_fn "<lambda>" (c.env.qual ++ "<lambda>") params body scope clos ((mg "__name__").getD .none) (.ref c') ctv)) ⟨_, Heap.get?_push_size _ rfl, rfl, rfl⟩
  exact ⟨_, S3, P2.trans (Pres.pushed ..), _, .ref _, qq⟩
/-- its code stands already -/
theorem HE_Lambda2 (I : In c K D) {cdl P c' : Addr} {l : List (Pos × Addr)} {params : Arguments} {body : Expr} {scope : Scope} {pos : Pos} {clos : List (Str × Addr)} (hcode : c.env.code = .ref cdl) (C : codeHdIn K cdl P = true) (hP : Lk P Γ (tabO l)) (hf : codeAmong pos (triples l) = some (.ref c'))
    (hdef : defaultsOf params c.env = ([], [])) (hcl : closureFor scope c.env = pure clos)
    (q : ∀ f pm ctv, Q (.ref f) ((f, .fn (kla_fn "<lambda>" (c.env.qual ++ "<lambda>") params body scope clos pm (.ref c') ctv)) :: Γ)) : HE c (.Lambda params body scope pos) ρ Γ Q E := fun s S => by
  refine kla_eval hdef ?_
  obtain ⟨mg, hg, hbt⟩ := I.G.bat
  have XK := S.C.inK I
  obtain ⟨hPo, _⟩ := S.C.or hP
  have hPn := S.C.new _ hP.mem
  obtain ⟨bm, ob, b1, b2, b3, b4, b5, b6⟩ := hbt P hPn
  refine kla_makeFunctionHit (mg := mg) hcl I.G.glb (hg.keeps S.C.base) hcode (codeHd_of_K XK C) hPo (triples_ok l) hf ⟨bm, ob, b1, b2, b3, b4, S.C.base _ _ b5, b6⟩ fun ctv h' tk hk hsz => ?_
  have S1 := S.C.grow (h' := h') (t := tk) hk
  have S3 := S1.pushed (o := kla_obj "<lambda>" (c.env.qual ++ "<lambda>") params body scope clos ((mg "__name__").getD .none) c' ctv) (ao := .fn (kla_fn "<lambda>" (c.env.qual ++ "<lambda>") params body scope clos ((mg "__name__").getD .none) (.ref c') ctv)) ⟨_, Heap.get?_push_size _ rfl, rfl, rfl⟩
  exact ⟨_, S3, (Pres.more hk).trans (Pres.pushed ..), _, .ref _, q _ _ _⟩
/-- a small function without parameters is called -/
theorem HC_lam (I : In c K D) {f c' : Addr} {qual : Str} {params : Arguments} {body : Expr} {scope : Scope} {clos : List (Str × Addr)} {pm ctv : Value} (hD : D + 1 < recursionLimit) (l : Lk f Γ (.fn (kla_fn "<lambda>" qual params body scope clos pm (.ref c') ctv))) (lc : Lk c' Γ (codeO qual))
    (hps : ∀ (fd : FuncData), fd.params = params → fd.defaults = .none → fd.kwdefaults = .none → bindArgs fd ⟨[], []⟩ = pure []) (hcell : (scope.names.all fun x => x.2 != .cell && x.2 != .local) = true) (hco : (!scope.isCoroutine && !scope.isGenerator && scope.kind == .function) = true)
    (q : ∀ c', In c' K (D + 1) → c'.env.scope = scope → c'.env.cells = clos → HE c' body [] Γ Q E) : HC c (.ref f) [] Γ Q E := fun s vf vs S hf hvs => by
  cases hf.ref'; cases hvs
  obtain ⟨o, ho, hoc, hod⟩ := S.or l
  have hcd := (S.or lc).1
  simp only [Bool.and_eq_true, Bool.not_eq_true', beq_iff_eq] at hco
  refine wpAny_call (kla_callFunE (Nat.lt_of_le_of_lt I.dep (by lia)) ho hod hco.1.1 hco.1.2 rfl hcd (wpAny_of_eq (hps _ rfl rfl rfl) ?_))
  refine wpAny_newFunctionEnv (fun x hx => ?_) (fun x hx => nomatch hx) (fun h₀ hns hsb => ?_) hco.2
  · have := List.all_eq_true.mp hcell x hx
    simp only [Bool.and_eq_true, bne_iff_ne, ne_eq] at this
    exact this.1
  have keep : ∀ b o, s.heap.get? b = some o → h₀.get? b = some o := fun b o e => hsb.extBut b o (Nat.ne_of_lt (Heap.lt_size e)) (Heap.get?_push_of_some _ e)
  refine ⟨(S.nolimit I.G).fresh _ hsb, ?_⟩
  obtain ⟨hLn, hLb, hLΓ⟩ := S.newAt rfl
  generalize s.heap.objs.size = L at hns hLn hLb hLΓ ⊢
  generalize hE : newEnv _ L _ _ _ _ _ none _ = env
  have hsc : env.scope = scope := by rw [← hE]; rfl
  have hfr : env.frame = some L := by rw [← hE]; rfl
  have hlo : L = env.locals := by rw [← hE]; rfl
  have hcc : env.cells = clos ∧ env.globals = mainGlobals ∧ env.builtins = builtinsNs := by rw [← hE]; exact ⟨rfl, rfl, rfl⟩
  clear hE
  subst hlo
  have I' : In (c.enter env) K (D + 1) := .step I.G.z I.K I.dep I.uni (hsc ▸ hco.2) hfr hcc.2.1 hcc.2.2
  refine kla_codeExpr (wpAny_mono (q _ I' hsc hcc.1 _ ⟨S.step keep (hsc ▸ hco.2) hfr hns hLb hLΓ, ⟨⟨_, hns, fun p hp => nomatch hp⟩, .nil⟩, hLΓ, hLb⟩) (fun v s' hg => ?_) (fun x s' hx => ?_))
  · refine hg.use fun Γ' S' P' hr => ?_
    obtain ⟨a, hv, hq⟩ := hr
    exact ⟨Γ', S'.out, ends hLn keep (P'.mono sub_nil), a, hv, hq⟩
  · refine wpAny_mono (hx.left (A := c.A.deeper env) (E' := fun _ _ => False) I'.G I'.G.frs) (fun _ s'' hx' => ?_) fun _ _ f => f.elim
    refine PX.use hx' fun e d T' fl code told Γ' he F h1 h2 => ?_
    exact ⟨e, d, T', fl, code, told, Γ', he, ⟨F.S.out, ends hLn keep (F.P.mono sub_nil), XAt.lift (X := []) F.A ⟨fun a o e _ _ => ⟨o.slots, keep a o e⟩, fun _ m => .inl m, fun _ m => nomatch m⟩, F.eΓ, F.eb, F.tb⟩, h1, h2⟩
end
section
variable {c : Cx} {K : Frag} {D : Nat} {E : EP} {sc : Scope} {ρ : Loc} {Γ Γ' : Led} {Q : AV → Led → Prop} {QF : AF → Loc → Led → Prop} {s : Shared}
/-- a store to a cell's name -/
noncomputable abbrev HS_AssignC_k1 (ρ : Loc) (QF : AF → Loc → Led → Prop) (a : Addr) := fun (v : AV) (Γ₁ : Led) => ∃ old Γ₂, Lk a Γ₁ (.cell old) ∧ Up a (.cell (some v)) Γ₁ Γ₂ ∧ QF .next ρ Γ₂
theorem HS_AssignC (I : In c K D) {x : Str} {p pos : Pos} {value : Expr} {cs : List (Str × Addr)} {a : Addr} {old : Option AV} (hs : c.env.scope = sc) (hc : c.env.cells = cs) (hk : sc.names.lookup x = some .cell) (hl : Lk x cs a) (hn : (cs.map (·.1)).Nodup)
    (hw : swapsWith value (some (.Name x p)) pos.line c.env = pure false) (q : HE c value ρ Γ (HS_AssignC_k1 ρ QF a) E) : HS c (.Assign [.Name x p] value pos) ρ Γ QF E := fun s S =>
  wpAny_Assign_Name (vuse S (.refl ..) (q s S) fun v av s₁ Γ₁ S₁ P₁ _ hv ⟨old, Γ₂, l, U, hq⟩ => by
    obtain ⟨cv, hcell, _⟩ := S₁.C.or l
    refine wpAny_storeName_cell I.G.kind (kind_of hs hk) (by rw [hc]; exact hl.lookup hn) hcell fun h' hc' hs' => ?_
    have T := tups_but S₁.C U.key_mem hs'
    have S₂ := S₁.C.upd U hs' (o := .cell (some av)) ⟨some v, hc', hv.tups T⟩
    have P₂ : Pres [] Γ₁ s₁.heap Γ₂ h' := .upd U hs'
    exact retN (s := s) (S₁.pres S₂ P₂) (P₁.trans (P₂.mono sub_nil)) hq) hw
end
section
variable {c : Cx} {K : Frag} {D : Nat} {E : EP} {sc : Scope} {ρ : Loc} {Γ Γ' : Led} {Q : AV → Led → Prop} {QB : Bool → Led → Prop} {QF : AF → Loc → Led → Prop} {s : Shared}
/-! what stands in the ledger is not the table of modules -/
theorem SatC.mods {a : Addr} {o : AO} (S : SatC c Γ s) (G : Gd c) (l : Lk a Γ o) : (a == sysModules) = false := beq_eq_false_iff_ne.mpr fun e => by
  obtain ⟨o', h⟩ := G.sm
  have := S.new _ l.mem
  rw [show (a, o).1 = a from rfl, e, h] at this; cases this
theorem HCmp_in_idk (I : In c K D) {a : Addr} {es : List (Int × AV)} {k : Int} {b : Bool} (h : Lk a Γ (.id es)) (hb : (es.any fun p => decide (p.1 = k)) = b) (q : Q (.bool b) Γ) : HCmp c .In (.int k) (.ref a) Γ Q E := fun s va vb S => HCmp_in_id h (S.mods I.G h) hb q s va vb S
theorem HCmp_notIn_idk (I : In c K D) {a : Addr} {es : List (Int × AV)} {k : Int} {b : Bool} (h : Lk a Γ (.id es)) (hb : (es.any fun p => decide (p.1 = k)) = b) (q : Q (.bool !b) Γ) : HCmp c .NotIn (.int k) (.ref a) Γ Q E := fun s va vb S => HCmp_notIn_id h (S.mods I.G h) hb q s va vb S
theorem HCmp_in_sdk (I : In c K D) {a : Addr} {es : List (Str × AV)} {k : Str} {b : Bool} (h : Lk a Γ (.sd es)) (hb : (es.any fun p => decide (p.1 = k)) = b) (q : Q (.bool b) Γ) : HCmp c .In (.str k) (.ref a) Γ Q E := fun s va vb S => HCmp_in_sd h (S.mods I.G h) hb q s va vb S
theorem HCmp_notIn_sdk (I : In c K D) {a : Addr} {es : List (Str × AV)} {k : Str} {b : Bool} (h : Lk a Γ (.sd es)) (hb : (es.any fun p => decide (p.1 = k)) = b) (q : Q (.bool !b) Γ) : HCmp c .NotIn (.str k) (.ref a) Γ Q E := fun s va vb S => HCmp_notIn_sd h (S.mods I.G h) hb q s va vb S
theorem HC_getk (I : In c K D) {d : Addr} {k : Str} {es : List (Str × AV)} {x : AV} (hl : Lk d Γ (.sd es)) (hn : k ∉ es.map (·.1)) (q : Q x Γ) : HC c (.bi "dict.get") [.ref d, .str k, x] Γ Q E := fun s vf vs S => HC_get_none hl hn (S.mods I.G hl) q s vf vs S
theorem HC_strk (I : In c K D) {i : Int} (h0 : 0 ≤ i) (h1 : i < 1000000) (q : Q (.str (Str.ofString (toString i))) Γ) : HC c (.ty "str") [.int i] Γ Q E :=
  HC_str_int (Nat.lt_of_lt_of_le (show i.natAbs < 10 ^ 6 by lia) (Nat.pow_le_pow_right (by decide) (by decide))) q (fun s S => by obtain ⟨mc, h1, h2⟩ := I.G.dig; exact ⟨mc, h1.keeps S.base, h2⟩) I.G.hdl
/-! loops unrolled -/
theorem HT_mono {e : Expr} {QB' : Bool → Led → Prop} (q : HT c e ρ Γ QB E) (h : ∀ b Γ', QB b Γ' → QB' b Γ') : HT c e ρ Γ QB' E := fun s S =>
  wpAny_mono (q s S) (fun b s' ⟨Γ₁, S₁, P₁, hq⟩ => ⟨Γ₁, S₁, P₁, h _ _ hq⟩) fun _ _ x => x
theorem HB_mono {e : List Stmt} {QF' : AF → Loc → Led → Prop} (q : HB c e ρ Γ QF E) (h : ∀ f ρ' Γ', QF f ρ' Γ' → QF' f ρ' Γ') : HB c e ρ Γ QF' E := fun s S =>
  wpAny_mono (q s S) (fun b s' hg => hg.use fun Γ₁ S₁ P₁ hr => by obtain ⟨af, ρ', hf, N, L, hq⟩ := hr; exact ⟨Γ₁, S₁, P₁, af, ρ', hf, N, L, h _ _ _ hq⟩) fun _ _ x => x
theorem HE_mono {e : Expr} {Q' : AV → Led → Prop} (q : HE c e ρ Γ Q E) (h : ∀ b Γ', Q b Γ' → Q' b Γ') : HE c e ρ Γ Q' E := fun s S =>
  wpAny_mono (q s S) (fun b s' hg => hg.use fun Γ₁ S₁ P₁ hr => hr.elim fun a y => ⟨Γ₁, S₁, P₁, a, y.1, h _ _ y.2⟩) fun _ _ x => x
/-- how a turn goes on -/
noncomputable def Tw (P : Loc → Led → Prop) (QF : AF → Loc → Led → Prop) : AF → Loc → Led → Prop := fun f ρ Γ => match f with
  | .next | .cont => P ρ Γ
  | .brk => QF .next ρ Γ
  | .ret a => QF (.ret a) ρ Γ
theorem tw_next {P : Loc → Led → Prop} (q : P ρ Γ) : Tw P QF .next ρ Γ := q
theorem tw_cont {P : Loc → Led → Prop} (q : P ρ Γ) : Tw P QF .cont ρ Γ := q
theorem tw_brk {P : Loc → Led → Prop} (q : QF .next ρ Γ) : Tw P QF .brk ρ Γ := q
theorem tw_ret {P : Loc → Led → Prop} {a : AV} (q : QF (.ret a) ρ Γ) : Tw P QF (.ret a) ρ Γ := q
noncomputable def Wn (c : Cx) (test : Expr) (body : List Stmt) (QF : AF → Loc → Led → Prop) (E : EP) : Nat → Loc → Led → Prop
  | 0, ρ, Γ => HT c test ρ Γ (fun b Γ₁ => Br b False (QF .next ρ Γ₁)) E
  | k + 1, ρ, Γ => HT c test ρ Γ (fun b Γ₁ => Br b (HB c body ρ Γ₁ (Tw (Wn c test body QF E k) QF) E) (QF .next ρ Γ₁)) E
theorem HS_WhileN (G : Gd c) {test : Expr} {body : List Stmt} {pos : Pos} (k : Nat) (q : Wn c test body QF E k ρ Γ) : HS c (.While test body [] pos) ρ Γ QF E :=
  HS_While G (fun k ρ Γ => Wn c test body QF E k ρ Γ) k q fun n ρ Γ h => by
    cases n with
    | zero =>
      refine HT_mono h fun b Γ' hb => ?_
      cases b with
      | false => exact hb
      | true => exact (show False from hb).elim
    | succ n =>
      refine HT_mono h fun b Γ' hb => ?_
      cases b with
      | false => exact hb
      | true =>
        refine HB_mono (show HB c body ρ Γ' _ E from hb) fun f ρ' Γ'' hf => ?_
        cases f with
        | next => exact ⟨n, Γ'', Nat.lt_succ_self _, .refl, hf⟩
        | cont => exact ⟨n, Γ'', Nat.lt_succ_self _, .refl, hf⟩
        | brk => exact hf
        | ret a => exact hf
/-! an item of a list read as one's own class's -/
theorem isi_nested_no {prog : Program} {w : World} {A : Around} {E : Value → Shared → Prop} {a C : Addr} {dep : Int} {tk : Tok} {ot : Obj} {Q : PySem.Fin → Shared → Prop} (X : K.In s.heap) (hot : s.heap.get? a = some ot) (htc : ot.cls = .type "tuple") (h0 : (clsIn K C).isSome = true) (h1 : typeIn K (.ref C) = some (.type "type")) (h3 : subIn K (.type "tuple") (.ref C) = some false)
    (h : Q (.done (.ret (.bool false))) { s with toks := s.toks + 1 }) : wpAny (model prog w) A (Builtin.«isinstance.nested» ⟨[.ref a, .ref C, .int dep tk], []⟩) Q E s := by
  obtain ⟨hh, g, d, tt, os⟩ := s
  have LT : Looks (model prog w) hh (typeOf (.ref a)) (.type "tuple") := htc ▸ (Looks.ld hot).andThen .now
  have L1 := looks_typeIn (M := model prog w) X h1
  have L3 : Looks (model prog w) hh (isInstance (.ref a) (.ref C)) false := LT.andThen (looks_subIn X h3)
  have L4 : Looks (model prog w) hh (isSubtype (.type "tuple") (.ref C)) false := looks_subIn X h3
  unfold Builtin.«isinstance.nested»
  refine wpAny_bind (LT.at ?_)
  rw [if_neg (by simp)]
  refine wpAny_bind (L1.at ?_)
  rw [if_pos (by decide)]
  k_delta "plainIsInstance"
  unfold isType
  repeat lk
  obtain ⟨cd, hc⟩ := Option.isSome_iff_exists.mp h0
  unfold clsIn at hc
  split at hc
  · rename_i ho
    refine nd_load (X _ _ ho) (nd_pure (wpAny_pure ?_))
    simp only [Bool.not_true, Bool.false_eq_true, if_false]
    refine wpAny_bind (L3.at ?_)
    simp only [Bool.false_eq_true, if_false]
    refine wpAny_bind (class_attr_tuple hot htc ?_)
    repeat (first | (with_reducible refine Looks.at L4 ?_) | wp_step)
    exact h
  · cases hc
theorem HC_isi_tup_cls (I : In c K D) {l : List AV} {C : Addr} (h0 : (clsIn K C).isSome = true) (h1 : typeIn K (.ref C) = some (.type "type")) (h3 : subIn K (.type "tuple") (.ref C) = some false) (q : Q (.bool false) Γ) : HC c (.bi "isinstance") [.tup l, .ref C] Γ Q E := fun s vf vs S hf hvs => by
  cases hf; obtain ⟨v, u, rfl, hv, hu⟩ := hvs.two
  obtain ⟨a, vs, rfl, ht, _⟩ := hv.tup'
  cases hu.ref'
  have X := S.inK I
  obtain ⟨ot, hot, htc, _, _⟩ := id ht
  have LT : ∀ M : Model, Looks M s.heap (typeOf (.ref a)) (.type "tuple") := fun M => htc ▸ (Looks.ld hot).andThen .now
  refine call_isinstance (S := fun _ R s' => s' = s ∧ R (.ok (.ret (.bool false))) { s' with toks := s'.toks + 1 }) (fun prog w A R s' hs => ?_) ⟨rfl, retT (t := s.toks + 1) S (.bool _) q⟩
  obtain ⟨rfl, hs⟩ := hs
  exact isinstance_outer (isi_nested_no X hot htc h0 h1 h3 hs) (by intro e; cases e)
/-! branches that are known -/
theorem br_nt {P P' : Prop} (q : P') : Br (!true) P P' := q
theorem br_nf {P P' : Prop} (q : P) : Br (!false) P P' := q
theorem br_dt {p : Prop} [Decidable p] {P P' : Prop} (h : p) (q : P) : Br (decide p) P P' := by rw [decide_eq_true h]; exact q
theorem br_df {p : Prop} [Decidable p] {P P' : Prop} (h : ¬ p) (q : P') : Br (decide p) P P' := by rw [decide_eq_false h]; exact q
theorem br_et {a b : Int} {P P' : Prop} (h : a = b) (q : P) : Br (a == b) P P' := by rw [beq_iff_eq.mpr h]; exact q
theorem br_ef {a b : Int} {P P' : Prop} (h : ¬ a = b) (q : P') : Br (a == b) P P' := by rw [beq_eq_false_iff_ne.mpr h]; exact q
theorem br_bt {b : Bool} {P P' : Prop} (h : b = true) (q : P) : Br b P P' := by rw [h]; exact q
theorem br_bf {b : Bool} {P P' : Prop} (h : b = false) (q : P') : Br b P P' := by rw [h]; exact q
theorem HIn_div {a b : Int} (hb' : 0 < b) (hl : b < 2 ^ 64) (q : Q (.int (a.fdiv b)) Γ) : HIn c .FloorDiv (.int a) (.int b) Γ Q E := fun s va vb S ha hb => by
  obtain ⟨t, rfl⟩ := ha.int'; obtain ⟨u, rfl⟩ := hb.int'
  refine AutoIntOps.ifloordiv_1 (by simp; lia) ?_ (retT S (.int ..) q)
  have : (Builtin.divisionGoesByPylong a b) = false := by
    simp only [Builtin.divisionGoesByPylong, Bool.and_eq_false_iff, decide_eq_false_iff_not]
    refine .inl ?_
    have : b.natAbs.log2 < 64 := by
      have hn : b.natAbs ≠ 0 := by lia
      rw [Nat.log2_lt hn]; lia
    split <;> lia
  rw [this]; decide
theorem hc_cat1 {f a : AV} {as : List AV} (q : HC c f (a :: as) Γ Q E) : HC c f ([a] ++ as) Γ Q E := q
theorem HCmp_in2 {x a b : Str} (q : Q (.bool (a == x || b == x)) Γ) : HCmp c .In (.str x) (.tup [.str a, .str b]) Γ Q E := HCmp_in_strs (l := [a, b]) (by simp) q
theorem HCmp_in3 {x a b d : Str} (q : Q (.bool (a == x || (b == x || d == x))) Γ) : HCmp c .In (.str x) (.tup [.str a, .str b, .str d]) Γ Q E := HCmp_in_strs (l := [a, b, d]) (by simp) q
theorem HCmp_notIn2 {x a b : Str} (q : Q (.bool !(a == x || b == x)) Γ) : HCmp c .NotIn (.str x) (.tup [.str a, .str b]) Γ Q E := HCmp_notIn_strs (l := [a, b]) (by simp) q
theorem HC_pop1 {l : Addr} {x : AV} (hl : Lk l Γ (.list [x])) (U : Up l (.list []) Γ Γ') (q : Q x Γ') : HC c (.bi "list.pop") [.ref l] Γ Q E := HC_pop (xs := []) hl (by simp) U q
theorem wlift' {F : XF} {α : Type} {t : Sem α} {R : Heap → α → Led → Prop} {E : EP} {s : Shared} (w : Sb Γ' Γ) (q : Wp c F [] Γ' t R E s) : Wp c F [] Γ t R E s := wlift ((Pres.refl ..).sub fun p hp => w.subset hp) q
theorem HC_perm {f : AV} {as : List AV} (w : Sb Γ' Γ) (q : HC c f as Γ' Q E) : HC c f as Γ Q E := fun s vf vs S hf hvs => wlift' w (q s vf vs (S.subl w) hf hvs)
theorem Sb.of_perm (h : Γ'.Perm Γ) : Sb Γ' Γ := ⟨fun {p} hp => h.mem_iff.mp hp, fun n => (h.map Prod.fst).nodup_iff.mpr n⟩
theorem Sb.mv3 {a b d p : Addr × AO} : Sb (p :: a :: b :: d :: Γ) (a :: b :: d :: p :: Γ) := .of_perm (((List.Perm.swap a p _).trans ((List.Perm.swap b p _).cons a)).trans (((List.Perm.swap d p _).cons b).cons a))
theorem Sb.mv3' {a b d p : Addr × AO} : Sb (a :: b :: d :: p :: Γ) (p :: a :: b :: d :: Γ) := .of_perm (((List.Perm.swap a p _).trans ((List.Perm.swap b p _).cons a)).trans (((List.Perm.swap d p _).cons b).cons a)).symm
/-! lengths of texts -/
theorem slen1 (n : Nat) : (⟨#[n]⟩ : Str).length = 1 := rfl
theorem slen_append (a b : Str) : (a ++ b).length = a.length + b.length := by
  show (a.cps ++ b.cps).size = a.cps.size + b.cps.size
  simp
theorem sl_blank : (Str.ofString " ").length = 1 := by decide +kernel
theorem sl_quote : (Str.ofString "\"").length = 1 := by decide +kernel
theorem sl_row : (Str.ofString "\n").length = 1 := by decide +kernel
theorem sl_comma : (Str.ofString ",").length = 1 := by decide +kernel
theorem sl_lt : (Str.ofString "<").length = 1 := by decide +kernel
theorem sl_gt : (Str.ofString ">").length = 1 := by decide +kernel
theorem sl_no : (Str.ofString "").length = 0 := by decide +kernel
/-! blanks -/
noncomputable def sp (n : Nat) : Str := ⟨(List.replicate n 32).toArray⟩
theorem sp_len (n : Nat) : (sp n).length = n := by show ((List.replicate n 32).toArray).size = n; simp
theorem rep_foldl (n : Nat) (acc : Array Nat) : (List.replicate n (#[32] : Array Nat)).foldl (· ++ ·) acc = acc ++ (List.replicate n 32).toArray := by
  induction n generalizing acc with
  | zero => simp
  | succ n ih => rw [List.replicate_succ, List.foldl_cons, ih, List.replicate_succ]; apply Array.ext'; simp
theorem mul_sp (n : Int) : Txt.mul (Str.ofString " ") n = sp n.toNat := by
  unfold Txt.mul
  have e : (Str.ofString " ").cps = #[32] := by decide +kernel
  have el : (Str.ofString " ").length = 1 := by decide +kernel
  split
  · rename_i h
    have : n.toNat = 0 := by lia
    rw [this]; rfl
  · rename_i h
    split
    · rename_i h2
      rw [el] at h2
      have : n = 1 := by simpa using h2
      subst this; decide +kernel
    · rw [e, rep_foldl]; simp [sp]
theorem HBin_sp {n : Int} (h0 : -1000000 ≤ n) (h1 : n ≤ 1000000) (q : Q (.str (sp n.toNat)) Γ) : HBin c .Mult (.str (Str.ofString " ")) (.int n) Γ Q E := by
  refine HBin_smul ⟨?_, fun _ _ => ?_, fun _ _ => ?_⟩ (by rw [mul_sp]; exact q)
  · simp; lia
  · have el : (Str.ofString " ").length = 1 := by decide +kernel
    rw [el]
    have hn : 0 < n := by rename_i a b; lia
    have := (Int.le_ediv_iff_mul_le hn (a := 1) (b := (2 ^ 63 - 1))).mpr (by lia)
    show ¬ ((1 : Nat) : Int) > _
    lia
  · have el : (Str.ofString " ").length = 1 := by decide +kernel
    rw [el]
    show decide (_ > _) = false
    simp
    rw [sizeLine_eq]
    lia
end
inductive Snoc {α : Type} (p : α) : List α → List α → Prop where
  | nil : Snoc p [] [p]
  | cons {q : α} {l l' : List α} : Snoc p l l' → Snoc p (q :: l) (q :: l')
theorem Snoc.eq {α : Type} {p : α} {l l' : List α} (h : Snoc p l l') : l' = l ++ [p] := by
  induction h with
  | nil => rfl
  | cons _ ih => rw [ih]; rfl
theorem Put.snoc {k : Str} {a : AV} {es es' : List (Str × AV)} (h : k ∉ es.map (·.1)) (e : Snoc (k, a) es es') : Put k a es es' := by rw [e.eq]; exact .new h
theorem br_not {b : Bool} {P P' : Prop} (q : Br b P' P) : Br (!b) P P' := by cases b <;> exact q
section
variable {c : Cx} {K : Frag} {D : Nat} {E : EP} {sc : Scope} {ρ : Loc} {Γ Γ' : Led} {Q : AV → Led → Prop} {QF : AF → Loc → Led → Prop} {s : Shared}
/-- a value let fall -/
noncomputable abbrev hExprR_k1 (ρ : Loc) (QF : AF → Loc → Led → Prop) := fun (a : AV) (Γ₁ : Led) => QF .next ρ Γ₁
theorem hExprR {e : Expr} {pos : Pos} (hs : c.env.scope = sc) (hk : sc.kind = .function) (hw : swapsWith e none pos.line c.env = pure false) (q : HE c e ρ Γ (hExprR_k1 ρ QF) E) : HS c (.Expr e pos) ρ Γ QF E := fun s S => by
  have hi : interactive c.env = false := by unfold interactive; rw [hs, hk]; rfl
  show wpAny c.M c.A (exec (.Expr e pos) c.env) _ _ s
  rw [exec_Expr c.env e pos hi hw]
  exact wpAny_bind (wpAny_standAt (wpAny_bind (vuse S (.refl ..) (q s S) fun v a s₁ Γ₁ S₁ P₁ _ hv hq => wpAny_dropValue (retN (s := s) S₁ P₁ hq))))
end
section
variable {c : Cx} {K : Frag} {D : Nat} {E : EP} {sc : Scope} {ρ : Loc} {Γ Γ' : Led} {Q : AV → Led → Prop} {QF : AF → Loc → Led → Prop} {s : Shared}
/-! a for over known items, unrolled -/
noncomputable def Tf (it : Addr) (o : AO) (P : Loc → Led → Prop) (QF : AF → Loc → Led → Prop) : AF → Loc → Led → Prop := fun f ρ Γ => match f with
  | .next | .cont => ∃ Γ', Sb ((it, o) :: Γ') Γ ∧ P ρ Γ'
  | .brk => QF .next ρ Γ
  | .ret a => QF (.ret a) ρ Γ
theorem tf_next {it : Addr} {o : AO} {P : Loc → Led → Prop} (q : P ρ Γ) : Tf it o P QF .next ρ ((it, o) :: Γ) := ⟨Γ, .refl, q⟩
theorem tf_ret {it : Addr} {o : AO} {P : Loc → Led → Prop} {a : AV} (q : QF (.ret a) ρ Γ) : Tf it o P QF (.ret a) ρ Γ := q
noncomputable def Fo (c : Cx) (target : Expr) (body : List Stmt) (o : Nat → AO) (Inv : Led → Prop) (QF : AF → Loc → Led → Prop) (E : EP) : List AV → Nat → Loc → Led → Prop
  | [], _, ρ, Γ => Inv Γ ∧ QF .next ρ Γ
  | x :: r, i, ρ, Γ => Inv Γ ∧ ∀ it, HAsg c target x ρ ((it, o (i + 1)) :: Γ) fun ρ₂ Γ₂ => HB c body ρ₂ Γ₂ (Tf it (o (i + 1)) (Fo c target body o Inv QF E r (i + 1)) QF) E
theorem fo_nil {target : Expr} {body : List Stmt} {o : Nat → AO} {Inv : Led → Prop} {i : Nat} (h : Inv Γ) (q : QF .next ρ Γ) : Fo c target body o Inv QF E [] i ρ Γ := ⟨h, q⟩
theorem fo_cons {target : Expr} {body : List Stmt} {o : Nat → AO} {Inv : Led → Prop} {i : Nat} {x : AV} {r : List AV} (h : Inv Γ) (q : ∀ it, HAsg c target x ρ ((it, o (i + 1)) :: Γ) fun ρ₂ Γ₂ => HB c body ρ₂ Γ₂ (Tf it (o (i + 1)) (Fo c target body o Inv QF E r (i + 1)) QF) E) : Fo c target body o Inv QF E (x :: r) i ρ Γ := ⟨h, q⟩
theorem Fo.inv {target : Expr} {body : List Stmt} {o : Nat → AO} {Inv : Led → Prop} {i : Nat} : ∀ {xs : List AV}, Fo c target body o Inv QF E xs i ρ Γ → Inv Γ
  | [], h => h.1
  | _ :: _, h => h.1
theorem HAsg_mono {t : Expr} {x : AV} {P P' : Loc → Led → Prop} (q : HAsg c t x ρ Γ P) (h : ∀ ρ' Γ', P ρ' Γ' → P' ρ' Γ') : HAsg c t x ρ Γ P' := fun s v S hv Γo ho E' k Pr hk => q s v S hv Pr fun ρ' Γ' s' S' P' hq => hk ρ' Γ' s' S' P' (h _ _ hq)
noncomputable abbrev HS_ForN_k1 (c : Cx) (ρ : Loc) (QF : AF → Loc → Led → Prop) (E : EP) (target : Expr) (body : List Stmt) := fun (a : AV) (Γ₁ : Led) => ∃ xs o Inv, Src c a xs o Inv ∧ Fo c target body o Inv QF E xs 0 ρ Γ₁
theorem HS_ForN (G : Gd c) {target iter : Expr} {body : List Stmt} {pos : Pos} (hfold : ∀ x, foldedSetIterable iter c.env x = pure x) (hgo : ∀ it v, letOwnedTupleGo target it v = pure ())
    (q : HE c iter ρ Γ (HS_ForN_k1 c ρ QF E target body) E) : HS c (.For target iter body [] pos) ρ Γ QF E :=
  HS_For G hfold (HE_mono q fun a Γ₁ ⟨xs, o, Inv, src, h⟩ => ⟨xs, o, Inv, fun i ρ Γ => Fo c target body o Inv QF E (xs.drop i) i ρ Γ, src, h, fun i ρ' Γ' h => h.inv, .inl hgo, fun it i x ρ' Γ' hx h => by
    have e : xs.drop i = x :: xs.drop (i + 1) := by
      obtain ⟨hi, e⟩ := List.getElem?_eq_some_iff.mp hx
      rw [List.drop_eq_getElem_cons hi, e]
    have h : Fo c target body o Inv QF E (xs.drop i) i ρ' Γ' := h
    rw [e] at h
    exact HAsg_mono (h.2 it) fun ρ₂ Γ₂ hb => HB_mono hb fun f ρ₃ Γ₃ hf => by cases f <;> exact hf, fun ρ' Γ' h => by
    have h : Fo c target body o Inv QF E (xs.drop xs.length) xs.length ρ' Γ' := h
    rw [List.drop_length] at h
    exact h.2⟩)
end
section
variable {c : Cx} {K : Frag} {D : Nat} {E : EP} {sc : Scope} {ρ : Loc} {Γ Γ' : Led} {Q : AV → Led → Prop} {QF : AF → Loc → Led → Prop} {s : Shared}
theorem HC_len_tup {l : List AV} (hl : l.length ≤ 99) (q : Q (.int l.length) Γ) : HC c (.bi "len") [.tup l] Γ Q E := fun s vf vs S hf hvs => by
  cases hf; obtain ⟨v, rfl, hv⟩ := hvs.one
  obtain ⟨a, us, rfl, ht, hu⟩ := hv.tup'
  have hz : (us.toArray.size : Int) = l.length := by simp [hu.length]
  refine Calls.call_function_entry kind_len plain_len entry_len (args_len1 _) (len_body_tuple ht (by rw [hz]; lia) ?_)
  rw [hz]
  exact retT (t := s.toks + 1 + 1) S (.int ..) q
end
section
variable {c : Cx} {K : Frag} {D : Nat} {E : EP} {sc : Scope} {ρ : Loc} {Γ Γ' : Led} {Q : AV → Led → Prop} {QF : AF → Loc → Led → Prop} {s : Shared}
theorem HC_mods (I : In c K D) {f : AV} {as : List AV} {a : Addr} {o : AO} (l : Lk a Γ o) (q : (a == sysModules) = false → HC c f as Γ Q E) : HC c f as Γ Q E := fun s vf vs S hf hvs => q (S.mods I.G l) s vf vs S hf hvs
end
section
variable {c : Cx} {K : Frag} {D : Nat} {E : EP} {ρ : Loc} {Γ Γ' : Led} {Q : AV → Led → Prop}
/-- the first part of a list that stood before the run -/
theorem HSl_base {value slice : Expr} {a : Addr} {xs : List AV} {k : Nat} (hz : xs.length ≤ 9999) (hl : ∃ vs : List Value, c.h₀.IsList a vs.toArray ∧ VRs c.h₀ vs xs) (hs : ∀ b, subscripted slice false (.ref a) (.ref b) = operate [.ref b, .ref a] (getItem (.ref a) (.ref b)))
    (q : ∀ r, Q (.ref r) ((r, .list (xs.take k)) :: Γ)) : HSl c value slice (.ref a) none (some (k : Int)) Γ Q E := fun s vo l u S ho hlo hhi => by
  cases ho.ref'
  have S' := S.push { cls := .type "slice", data := .fields #[l, u, .none] }
  have P' : Pres [] Γ s.heap Γ (s.heap.push { cls := .type "slice", data := .fields #[l, u, .none] }) := Pres.push ..
  obtain ⟨vs, ⟨o, hL, hc, r⟩, hvs⟩ := hl
  have hL1 := S'.base _ _ hL
  have hvs1 : VRs (s.heap.push { cls := .type "slice", data := .fields #[l, u, .none] }) vs xs := hvs.tups fun b us t => t.keeps S'.base
  refine tail_any (T := "list") ⟨_, hL1, hc⟩ slot_list_getitem.lookup ?_ (hs _)
  have hL' : Heap.IsList (s.heap.push { cls := .type "slice", data := .fields #[l, u, .none] }) a vs.toArray := ⟨o, hL1, hc, r⟩
  refine wpAny_getItem_list_slice (st := none) hL' (Heap.IsSliceOf.new ..) hlo.isPart hhi.isPart .none (by intro h; cases h) ?_ (by rw [List.size_toArray, hvs.length, sizeLine_eq]; lia)
  rw [show slicePick vs.toArray none (some (k : Int)) none = (vs.take k).toArray from slicePick_upto' _ k]
  refine ⟨_, S'.pushed (ao := .list (xs.take k)) ⟨vs.take k, 0, Heap.get?_push_size _ rfl, (hvs1.take k).tups (tups_push _)⟩, P'.trans (Pres.pushed ..), _, .ref _, q _⟩
end
section
variable {c : Cx} {K : Frag} {D : Nat} {E : EP} {sc : Scope} {ρ : Loc} {Γ Γ' : Led} {Q : AV → Led → Prop} {QF : AF → Loc → Led → Prop} {s : Shared}
theorem lt_ne {L i j : Nat} (e : L + 1 + i = L + 1 + j) (h : Nat.beq i j = false) : False := by
  have := Nat.add_left_cancel e
  rw [this, Nat.beq_refl] at h; cases h
theorem look3 {x1 x2 x3 : Str} {a b d : Addr} (h : [x1, x2, x3].Nodup) : [(x3, d), (x2, b), (x1, a)].lookup x3 = some d ∧ [(x3, d), (x2, b), (x1, a)].lookup x2 = some b ∧ [(x3, d), (x2, b), (x1, a)].lookup x1 = some a := by
  simp only [List.nodup_cons, List.mem_cons, List.not_mem_nil, not_or] at h
  have b23 : (x2 == x3) = false := beq_eq_false_iff_ne.mpr h.2.1.1
  have b13 : (x1 == x3) = false := beq_eq_false_iff_ne.mpr h.1.2.1
  have b12 : (x1 == x2) = false := beq_eq_false_iff_ne.mpr h.1.1
  simp only [List.lookup_cons, beq_self_eq_true, b23, b13, b12, and_self]
/-- a function with three cells that are no parameters -/
theorem HCc_cells3T (G0 : Gd0 c) (hK : c.K = K) (hdp : c.A.depth ≤ D) (hun : c.A.units ≤ 3 * D) {f : Addr} {st : Stmt} {ps : Arguments} {body : List Stmt} {as : List AV} {ρ₀ : Loc} {x1 x2 x3 : Str} (F : Fn K f st [] .none) (hx : fX st = .mk ps body sc) (hD : D + 1 < recursionLimit)
    (hbind : Bds ps as.length) (hcs : ∀ n, cellsFrom n sc.names [] = [(x3, n + 2), (x2, n + 1), (x1, n)]) (hloc : ((ps.args.map (·.arg)).all fun n => sc.names.lookup n == some .local) = true) (hnc : ([x1, x2, x3].all fun x => sc.names.lookup x == some .cell) = true) (hxn : [x1, x2, x3].Nodup) (hrev : (ps.args.map (·.arg)).Nodup)
    (hρ : LocsOf sc.names ((ps.args.map (·.arg)).zip as) ρ₀) (hρl : (ρ₀.map (·.1)).all (fun p => sc.names.lookup p == some .local) = true) (hnod : (ρ₀.map (·.1)).Nodup) (hco : (!sc.isCoroutine && !sc.isGenerator && sc.kind == .function) = true)
    (q : ∀ c' a1 a2 a3 (o : Obj) (fd : FuncData), In c' K (D + 1) → c'.h₀ = c.h₀ → c'.env.scope = sc → c'.env.cells = [(x3, a3), (x2, a2), (x1, a1)] → c'.env.code = fd.code → List.lookup f K = some o → o.data = .func fd → HB c' body ρ₀ ((a1, .cell none) :: (a2, .cell none) :: (a3, .cell none) :: Γ) (Ret Q) E) : HCc c (.ref f) as Γ Q E := fun s vf vs S hf hvs => by
  cases hf.ref'
  have hX : K.In s.heap := hK ▸ fun a o e => S.base _ _ (G0.kin a o e)
  have hNL : s.heap.NoLimit := by obtain ⟨p, loose, mg, mb, T⟩ := G0.top; exact T.nolimit.keeps S.base
  obtain ⟨o, fd, h1, _, h2, h3, h4, h5, h6, h7, h8, h9, h10⟩ := F.ex
  rw [hx] at h9
  obtain ⟨b, hb⟩ : ∃ b, fd.body = .stmts b := by cases e : fd.body <;> rw [e] at h10 <;> first | exact ⟨_, rfl⟩ | exact h10.elim
  rw [hb] at h9
  injection h9 with e1 e2 e3
  dsimp only at e2
  subst e1 e2 e3
  simp only [Bool.and_eq_true, Bool.not_eq_true', beq_iff_eq] at hco
  have hloc' : ∀ n ∈ fd.params.args.map (·.arg), fd.scope.names.lookup n = some .local := fun n hn => by have := List.all_eq_true.mp hloc n hn; simpa using this
  have hnc' : ∀ x ∈ [x1, x2, x3], fd.scope.names.lookup x = some .cell := fun x hx => by have := List.all_eq_true.mp hnc x hx; simpa using this
  have hρl' : ∀ p ∈ ρ₀, fd.scope.names.lookup p.1 = some .local := fun p hp => by have := List.all_eq_true.mp hρl p.1 (List.mem_map_of_mem hp); simpa using this
  refine codeAny_call_function (Nat.lt_of_le_of_lt hdp (by lia)) (hX _ _ h1) h2 hco.1.1 hco.1.2 hb (codeRec_of hX h3) (hbind fd rfl h7 h8 s vs hvs.length _ _ _ _ ?_)
  rw [h6, h4]
  have hnz : (((fd.params.args.map (·.arg)).zip vs).map (·.1)).Nodup := nodup_zip hrev
  refine wpAny_newFunctionEnv_cells hco.2 (fun y hy => ?_) (fun env he s' x' => ?_)
  · obtain ⟨n, v⟩ := y
    exact .inl (hloc' n (List.of_mem_zip hy).1)
  obtain ⟨⟨⟨h₀, tk, rfl⟩, hns, keep, fresh⟩, cell, apart, above⟩ := x'
  refine ⟨hNL.keeps keep, ?_⟩
  generalize hL : s.heap.objs.size = L at he fresh
  have hcells : env.cells = [(x3, L + 1 + 2), (x2, L + 1 + 1), (x1, L + 1 + 0)] := by rw [he]; exact hcs _
  have hsc : env.scope = fd.scope := by rw [he]; rfl
  have hfr : env.frame = some L := by rw [he]; rfl
  have hlo : env.locals = L := by rw [he]; rfl
  have hgb : env.globals = mainGlobals ∧ env.builtins = builtinsNs ∧ env.code = fd.code := by rw [he]; exact ⟨rfl, h5, rfl⟩
  clear he fresh apart above
  obtain ⟨hLn, hLb, hLΓ⟩ := S.newAt hL
  have I' : In (c.enter env) K (D + 1) := .step G0 hK hdp hun (hsc ▸ hco.2) hfr hgb.1 hgb.2.1
  have S₀ : SatC (c.enter env) Γ { s with heap := h₀, toks := tk } := S.step keep (hsc ▸ hco.2) hfr (hlo ▸ hns) hLb hLΓ
  have hz : ∀ y, LocR h₀ (((fd.params.args.map (·.arg)).zip vs).lookup y) (((fd.params.args.map (·.arg)).zip as).lookup y) := fun y => zip_rel (hvs.tups fun a us t => t.keeps keep)
  have hc : ∀ x a, x ∈ [x1, x2, x3] → env.cells.lookup x = some a → h₀.IsCell a none := fun x a hx hl => by
    have h := cell x a hl
    have hk : env.kindOf x = some .cell := by show env.scope.names.lookup x = _; rw [hsc]; exact hnc' x hx
    rw [bindC_lookup (by rw [hk]; decide) hnz, Option.or_none] at h
    have hno : ((fd.params.args.map (·.arg)).zip vs).lookup x = none := lookup_none fun m => by
      obtain ⟨⟨n, v⟩, hp, e⟩ := List.mem_map.mp m
      have h1 := hloc' n (List.of_mem_zip hp).1
      rw [show n = x from e, hnc' x hx] at h1; cases h1
    rw [hno] at h
    exact h
  obtain ⟨l3, l2, l1⟩ := look3 (a := L + 1 + 0) (b := L + 1 + 1) (d := L + 1 + 2) hxn
  have hno : ∀ i, L + 1 + i ∉ adr Γ := fun i => S.newNot hL
  have S₃ := S.newCell (ov := none) hL hfr S₀ (i := 2) (hno 2) ⟨none, hc x3 _ (.tail _ (.tail _ (.head _))) (hcells ▸ l3), trivial⟩
  have S₂ := S.newCell (ov := none) hL hfr S₃ (i := 1) (fun m => (List.mem_cons.mp m).elim (fun e => lt_ne (i := 1) (j := 2) e rfl) (hno 1)) ⟨none, hc x2 _ (.tail _ (.head _)) (hcells ▸ l2), trivial⟩
  have S₁ := S.newCell (ov := none) hL hfr S₂ (i := 0) (fun m => (List.mem_cons.mp m).elim (fun e => lt_ne (i := 0) (j := 1) e rfl) fun m => (List.mem_cons.mp m).elim (fun e => lt_ne (i := 0) (j := 2) e rfl) (hno 0)) ⟨none, hc x1 _ (.head _) (hcells ▸ l1), trivial⟩
  have hnn : ∀ i, s.heap.get? (L + 1 + i) = none := fun i => S.newNone hL
  exact own_end I'.G (hlo ▸ hLn) (Γ₁ := (L + 1 + 0, .cell none) :: (L + 1 + 1, .cell none) :: (L + 1 + 2, .cell none) :: Γ) ⟨fun a o e _ _ => ⟨o.slots, keep a o e⟩, fun a m => (List.mem_cons.mp m).elim (fun e => .inr (by rw [e]; exact hnn 0)) fun m => (List.mem_cons.mp m).elim (fun e => .inr (by rw [e]; exact hnn 1)) fun m => (List.mem_cons.mp m).elim (fun e => .inr (by rw [e]; exact hnn 2)) .inl, fun _ m => nomatch m⟩
    (wpOwn_of_wpAny (q _ (L + 1 + 0) (L + 1 + 1) (L + 1 + 2) o fd I' rfl hsc hcells hgb.2.2 h1 h2 _ ⟨S₁, ⟨⟨_, hns, fun p hp => by
      rw [bindL_lookup (by show env.scope.names.lookup p.1 = _; rw [hsc]; exact hρl' p hp) hnz, Option.or_none]
      exact hρ.rel (nodup_zip hrev) hz p hp⟩, hnod⟩, by rw [show (c.enter env).env.locals = L from hlo]; exact fun m => (List.mem_cons.mp m).elim lt1_ne fun m => (List.mem_cons.mp m).elim lt1_ne fun m => (List.mem_cons.mp m).elim lt1_ne hLΓ, by rw [show (c.enter env).env.locals = L from hlo]; exact hLb⟩))
theorem asg_cell {a : Addr} {v : AV} {old : Option AV} {Γ₁ Γ₂ : Led} {P : Led → Prop} (l : Lk a Γ₁ (.cell old)) (U : Up a (.cell (some v)) Γ₁ Γ₂) (q : P Γ₂) : ∃ old Γ₂, Lk a Γ₁ (.cell old) ∧ Up a (.cell (some v)) Γ₁ Γ₂ ∧ P Γ₂ := ⟨_, _, l, U, q⟩
theorem dict_end {d : Addr} {kas : List (Int × AV)} {Γ₁ Γ₂ : Led} {P : Led → Prop} (l : Lk d Γ₁ (.id [])) (n : (kas.map (·.1)).Nodup) (U : Up d (.id kas) Γ₁ Γ₂) (q : P Γ₂) : Lk d Γ₁ (.id []) ∧ (kas.map (·.1)).Nodup ∧ ∃ Γ₂, Up d (.id kas) Γ₁ Γ₂ ∧ P Γ₂ := ⟨l, n, _, U, q⟩
theorem dict_endS {d : Addr} {kas : List (Str × AV)} {Γ₁ Γ₂ : Led} {P : Led → Prop} (l : Lk d Γ₁ (.sd [])) (n : (kas.map (·.1)).Nodup) (U : Up d (.sd kas) Γ₁ Γ₂) (q : P Γ₂) : Lk d Γ₁ (.sd []) ∧ (kas.map (·.1)).Nodup ∧ ∃ Γ₂, Up d (.sd kas) Γ₁ Γ₂ ∧ P Γ₂ := ⟨l, n, _, U, q⟩
end
section
open Lean
/-! words of a table: a rule, what it is given, what proves its side goals -/
def zA (s : String) : Syntax := .atom .none s
def zN (k : Name) (a : List Syntax) : Syntax := .node .none k a.toArray
def zT (k : String) (a : List Syntax) : Syntax := zN (.str `Lean.Parser.Tactic k) a
def zM (k : String) (a : List Syntax) : Syntax := zN (.str `Lean.Parser.Term k) a
def zL (a : List Syntax) : Syntax := zN nullKind a
def zI (s : String) : Syntax := mkIdent s.toName
def zS (l : List Syntax) : Syntax := zT "tacticSeq" [zT "tacticSeq1Indented" [zL (l.intersperse (zA ";"))]]
def zK (k w : String) (a : List Syntax) : Syntax := zT k (zA w :: a)
def zR (t : Syntax) : Syntax := zK "withReducible" "with_reducible" [zS [t]]
def zP (f : Syntax) (a : List Syntax) : Syntax := if a.isEmpty then f else zM "app" [f, zL a]
def zH : Syntax := zM "hole" [zA "_"]
def zY (t : Syntax) : Syntax := zM "byTactic" [zA "by", zS [t]]
def zC (l : List Syntax) : Syntax := zT "optConfig" [zL l]
def zF (l : List Syntax) : Syntax := zK "first" "first" [zL (l.map fun t => zN groupKind [zA "|", zS [t]])]
def zE (t : Syntax) : Syntax := zK "exact" "exact" [t]
def zU (n : Nat) : Syntax := zM "fun" [zA "fun", zM "basicFun" [zL (List.replicate n zH), zL [], zA "=>", zI "rfl"]]
def zW (s : String) : Syntax := zN `PyProof.Rows.tacticWalk_at_ [zA "walk_at", Syntax.mkStrLit s]
def zO : Syntax := zK "lia" "lia" [zC []]
def zQ (l : List Syntax) : Syntax := zT "paren" [zA "(", zS l, zA ")"]
def zG (a b : Syntax) : Syntax := zP (zI "And.intro") [a, b]
def zX (t : Syntax) : Syntax := zP (zI "Exists.intro") [zH, t]
def zV : Syntax := zM "syntheticHole" [zA "?", zA "_"]
def wordOf (w : String) : Syntax :=
  if w == "d" then zF [zN `PyProof.Rows.tacticKernel_rfl! [zA "kernel_rfl!"], zK "decide" "decide" [zC [zT "configItem" [zT "posConfigItem" [zA "+", zI "kernel"]]]]]
  else if w == "r" then zE (zI "rfl") else if w == "1" then zE (zU 1) else if w == "2" then zE (zU 2)
  else if w == "k" then zN `tacticKernel_rfl [zA "kernel_rfl"] else if w == "dc" then zK "decide" "decide" [zC []]
  else if w == "om" then zO else if w == "rf" then zK "tacticRfl" "rfl" [] else if w == "as" then zK "assumption" "assumption" []
  else if w == "asm" then zR (zK "assumption" "assumption" []) else zW ("h_" ++ w)
def caseOf (x : Syntax) (w : String) : Syntax := zK "case" "case" [zL [zT "caseArg" [zN `Lean.binderIdent [x], zL []]], zA "=>", zS [wordOf w]]
def argOf (a : String) : MacroM (Option Syntax × List Syntax) := do
  let y (t : Syntax) : Option Syntax × List Syntax := (some t, [])
  if a == "_" then return y zV
  if a == "u" then return y zH
  if a == "r" then return y (zI "rfl")
  if a == "&" then return y (zG (zI "rfl") zV)
  if a == "E&" then return y (zX (zG (zI "rfl") zV))
  if a == "E&&" then return y (zX (zG (zI "rfl") (zG (zI "rfl") zV)))
  if a == "EE&" then return y (zX (zX (zG (zI "rfl") zV)))
  if a == "a" then return y (zY (wordOf "as"))
  if a == "A" then return y (zY (wordOf "asm"))
  if a == "k" then return y (zY (wordOf "k"))
  if a == "D" then return y (zY (wordOf "d"))
  if a.startsWith "'" then return y (zI (a.drop 1).toString)
  match a.splitOn ":" with
  | [x, w] =>
    let i := mkIdent (← Macro.addMacroScope x.toName)
    return (some (zM "syntheticHole" [zA "?", i]), if w == "" then [] else [caseOf i w])
  | _ => match a.splitOn "=" with
    | [x, w] => return (none, [caseOf (mkIdent (← Macro.addMacroScope x.toName)) w])
    | _ => return (none, [wordOf a])
def altOf (s : String) : MacroM Syntax := do
  match (s.splitOn " ").filter (fun x => x != "") with
  | [] => Macro.throwUnsupported
  | f :: as =>
    let r := (f.drop 1).toString
    let c := (f.take 1).toString
    if c == "@" then return wordOf r
    if c == "~" then return zR (zK "apply" "apply" [zI r])
    if c == "^" then return zK "apply" "apply" [zI r]
    if c == "?" then
      let z := zP (zI r) (List.replicate ((as.headD "").toNat?.getD 0) zH)
      return zQ [zK "failIfSuccess" "fail_if_success" [zS [zK "failIfSuccess" "fail_if_success" [zS [zR (zK "show" "show" [z])]]]], zW ("h_" ++ r)]
    if c == "$" then
      let xs := (r :: as).map fun x => zT "simpLemma" [zL [], zL [], zI x]
      return zT "tactic_<;>_" [zK "simp" "simp" [zC [], zL [], zL [zA "only"], zL [zA "[", zL (xs.intersperse (zA ",")), zA "]"], zL []], zA "<;>", zO]
    if c == "#" then
      return zQ (as.map fun a => let l := a.splitOn "="; caseOf (zI (l.headD "")) ((l.drop 1).headD ""))
    let l ← as.mapM argOf
    let g := zP (zI (if c == "=" || c == "!" || c == "%" then r else f)) (l.filterMap (·.1))
    let u := (l.map (·.2)).flatten
    if c == "=" then return zR (zE g)
    if c == "!" then return zE g
    let t := zK "refine'" "refine'" [g]
    let t := if c == "%" then t else zR t
    return if u.isEmpty then t else zQ (t :: u)
def firstOf (d : String) : MacroM (TSyntax `tactic) := do
  let b := d.startsWith "R "
  let e := if b || d.startsWith "r " then (d.drop 2).toString else d
  let t := zF (← (e.splitOn "|").mapM altOf)
  return ⟨if b then zK "repeat'" "repeat'" [zS [t]] else if d.startsWith "r " then zK "tacticRepeat_" "repeat" [zS [t]] else t⟩
def words : List (String × String) := [
 ("h_lk", "r =Lk.here|=Up.here|@asm|~Lk.there|~Up.there"),
 ("h_lkd", "r !Lk.here|^Lk.there"),
 ("h_nin", "!notinOf k"),
 ("h_nod", "!nodupOf k|!notinOf k|@k"),
 ("h_locs", "R !LocsOf.nil|%LocsOf.skip r _|LocsOf.arg l:lkd _|%LocsOf.un n:nin _"),
 ("h_bds", "!bdsOf r r r r D r"),
 ("h_hD", "!dlt a r|@hD2"),
 ("h_in", "#- hx=r hD=hD hbind=bds hcell=d hloc=d hrev=d hρ=locs hnod=nod hco=d"),
 ("h_inc", "#- hx=r hD=hD hbind=bds hcs=1 hloc=d hxc=d hrev=d hρ=locs hρl=k hnod=nod hxa=lkd hco=d"),
 ("h_num", "@asm|@dc|@om"),
 ("h_simp", "$List.length_cons List.length_nil List.length_append List.length_map List.length_take List.length_drop strsOf slen1 slen_append sp_len sl_blank sl_quote sl_row sl_comma sl_lt sl_gt sl_no"),
 ("h_len", "@asm|=Nat.le_of_ble_eq_true r|!nle A r|!ilt A r|@om|@simp"),
 ("h_cat", "@asm|$sizeLine_eq slen1 slen_append sp_len sl_blank sl_quote sl_row sl_comma sl_lt sl_gt sl_no"),
 ("h_mem", "@asm|@r"),
 ("h_dec", "@asm|!nle A r|@om|@simp"),
 ("h_sno", "r =Snoc.nil|~Snoc.cons"),
 ("h_put", "Put.up pu:lk|Put.snoc pn:nin ps:sno"),
 ("h_go", "R @st"),
 ("h_sb", "R !Sb.refl|%Sb.trans _ 'Sb.tail"),
 ("h_pick", "@rf|@as"),
 ("h_setx", "@dc|$List.length_cons List.length_nil"),
 ("h_nble", "!Nat.le_of_ble_eq_true r"),
 ("h_asn", "@as|@num"),
 ("h_yes", "@d|@r"),
 ("h_rf", "@rf"), ("h_om", "@om"), ("h_asm", "@asm"),
 ("h_end1", "end99 h:nble _|endPl h:r _"),
 ("h_end2", "And.intro 'keepB _|And.intro 'keepT _|endK a hk:keep _|Exists.intro u &|Exists.intro u E&&|Exists.intro u E&|Exists.intro u EE&"),
 ("h_keep", "keep_fn F:fn|=kp_41|=kp_354|=kp_787|=kp_816|=kp_1020"),
 ("h_glob", "=gl_BasicError|=gl_kind_of|=gl_fits|=gl_whole_of|=gl_text_of|=gl_figures_text|=gl_whole_text|=gl_ROW_END|=gl_MOST_CHANNEL|=gl_MOST_NAME|=gl_check_name|=gl_open_file|=gl_is_written_elsewhere|=gl_channel_of|=gl_write_text|=gl_write_text_files|=gl_write_row|=gl_Page|=gl_end_row|=gl_write_text_printing|=gl_write_zone|=gl_MOST_COLUMN|=gl_within_row|=gl_write_blanks|=gl_write_tab|=gl_write_part|=gl_write_parts|=gl_Picture|=gl_begins_number|=gl_read_pieces|=gl_piece_at|=gl_value_by|=gl_is_plain|=gl_using_text|=gl_shown|=gl_print_parts|=gl_channel_told|=gl_unfinished|=gl_file_page|=gl_write_page|=gl_do_print|=gl_do_using|=gl_do_write|=gl_Control|=gl_World|=gl_parts_of_tree|=gl_worth_of_leaf|=gl_worth_of_tree|=gl_worth_worth|=gl_MOST_PILE|=gl_WorkRun|=gl_ZONE|=gl_WIDTH|=gl__law_next|=gl__law_text|=gl__law_item|=gl__law_value|=gl__law_order|=gl__law_worth|=gl__law_printed|=gl__law_done|=gl__law_code|=gl__law_put"),
 ("h_bnone", "=gl_len|=gl_isinstance|=gl_chr|=gl_abs|=gl_str|=gl_list|=gl_int|=gl_range|=gl_reversed|=gl_tuple|=gl_super|=gl_ord"),
 ("h_fn", "=fn_1031|=fn_1038|=fn_1045|=fn_1052|=fn_1057|=fn_1064|=fn_1071|=fn_1076|=fn_1083|=fn_1090|=fn_1095|=fn_121|=fn_128|=fn_142|=fn_241|=fn_269|=fn_274|=fn_281|=fn_288|=fn_295|=fn_302|=fn_309|=fn_351|=fn_365|=fn_372|=fn_379|=fn_38|=fn_386|=fn_393|=fn_400|=fn_407|=fn_414|=fn_428|=fn_442|=fn_470|=fn_477|=fn_540|=fn_547|=fn_552|=fn_559|=fn_566|=fn_573|=fn_580|=fn_587|=fn_592|=fn_599|=fn_604|=fn_609|=fn_72|=fn_784|=fn_813|=fn_853|=fn_895|=fn_902|=fn_907|=fn_921|=fn_928|=fn_935|=fn_954|=fn_961|=fn_975"),
 ("h_ci", "=ci_816|=ci_1020|=ci_354|=ci_787"),
 ("h_mt", "=mt_worth|=mt_whole|=mt_fn|=mt_answered|=mt_call"),
 ("h_cls", "=clsOk"),
 ("h_st", "nx_next _|nx_ret _|nx_brk _|nx_cont _|br_t _|tf_next _|tf_ret _|tw_next _|tw_cont _|tw_brk _|tw_ret _|br_f _|?Br 3|sto U:lk _|?HE 6|?HB 6|?HS 6|?HAsg 6|?HT 6|?HAll 7|?HEs 6|?HIfs 6|?HBin 7|?HIn 7|?HCmp 7|?HTr 5|?HSub 8|?HSl 9|?HSet 7|?HAt 6|?HSAt 7|?HM 6|?HC 6|@end1|raise_fin _|@end2|@fail"),
 ("h_Br", "br_nt _|br_nf _|br_not _|br_dt h:dec _|br_df h:dec _|br_et h:dec _|br_ef h:dec _|br_bt h:yes _|br_bf h:yes _"),
 ("h_name", "hName a a hk:d hd:d l:lk _|hGlobal a a hk:d hd:d hg:glob ha:r _|hBuiltin a a hk:d hd:d hg:bnone hx:d hb:boot ha:r _|hCellv a a a hk:d hd:d hl:lk hn:nod l:lk _"),
 ("h_sub", "HSub_list hs:1 l:lk h0:num h1:num hx:pick _|HSub_wlist hs:1 l:lk h0:num h1:num hx:pick _|HSub_tup hs:2 h0:num h1:num hj:rf hx:rf _|HSub_sd hs:1 l:lk k:lk _|HSub_id hs:1 l:lk k:lk _"),
 ("h_set", "HSet_wlist l:lk h0:num h1:num hx:setx U:lk e:r _|HSet_sd l:lk n:nble u:lk U:lk _|HSet_id l:lk n:nble u:lk U:lk _"),
 ("h_HE", "@name|HE_int _|HE_str _|HE_none _|HE_bool _|HE_BinOp _|HE_Compare r _|HE_Attribute he:r _|HE_Call r r _|HE_Call0 _|HE_MCall he:r hst:r hpl:r _|HE_MCall0 he:r _|HE_Tuple _|HE_List _|HE_SubFrom _|HE_SubUpto _|HE_SubBoth _|HE_Subscript _|HE_IfExp _|HE_Bool1 _|HE_BoolAnd _|HE_BoolOr _|HE_Chain2 r _|HE_Neg _|HE_Comp0 a a a w1:1 w2:d w3:d _|HE_Comp1 a a a w1:1 w2:d w3:d hz:r hl:lk hn:nod _"),
 ("h_HB", "HB_cons _|HB_nil _"),
 ("h_HS", "hAssign a a hk:d hw:rf _|hAug a a hk:d l:lk _|HS_If _|HS_Return _|HS_Return0 _|hExprR a r hw:rf _|hExpr a r hw:rf _|HS_AssignSub hw:rf _|HS_AssignAttr hw:rf _|HS_Swap2 a a hx:d hy:d w1:rf w2:sw _|HS_Swap3 a a hx:d hy:d hz:d w1:rf w2:sw _|HS_AssignT w1:rf w2:rf _|HS_AssignComp0 a a a w0:ct w1:1 w2:d w3:d _|HS_AssignComp1 a a a w0:ct w1:1 w2:d w3:d hz:r hl:lk hn:nod _|HS_Raise a hk:cls _"),
 ("h_HAsg", "HAsg_Tup2 a a hx:d hy:d _|HAsg_Name a a hx:d _"),
 ("h_HT", "HT_Compare r _|HT_BoolOp _|HT_Not _|HT_Chain2 r _|HT_value he:1 _"),
 ("h_HAll", "HAll_And _|HAll_Or _|HAll_nil_and _|HAll_nil_or _"),
 ("h_HEs", "HEs_nil _|HEs_cons r _"),
 ("h_HIfs", "HIfs_nil _|HIfs_one _"),
 ("h_HBin", "HBin_add _|HBin_sub _|HBin_sp h0:dec h1:dec _|HBin_mul h0:num h1:num _|HBin_div h0:num h1:num _|HBin_mod h0:asn _|HBin_shl h0:num h1:num h2:num _|HBin_cat h0:cat _|HBin_smul hok:asm _|HBin_lists ha:lk hb:lk hz:len _"),
 ("h_HIn", "HIn_add _|HIn_div h0:num h1:num _"),
 ("h_HCmp", "HCmp_lt _|HCmp_le _|HCmp_gt _|HCmp_ge _|HCmp_eq _|HCmp_ne _|HCmp_eqs _|HCmp_nes _|HCmp_isNone _|HCmp_isNotNone _|HCmp_in2 _|HCmp_in3 _|HCmp_notIn2 _|HCmp_in_idk a l:lk hb:mem _|HCmp_notIn_idk a l:lk hb:mem _|HCmp_in_sdk a l:lk hb:mem _|HCmp_notIn_sdk a l:lk hb:mem _"),
 ("h_HTr", "HTr_bool _"),
 ("h_HSub", "@sub|HSub_str hs:2 ht:2 hf:num h0:num h1:num _"),
 ("h_HSl", "HSl_str hz:len hs:2 ht:2 _|HSl_from hi:num hz: hl:lk hs:1 _ hz=len|HSl_upto hi:num hz: hl:lk hs:1 _ hz=len"),
 ("h_HSet", "@set"),
 ("h_HAt", "HAt_i a x:lk d:lk l:lk A:ci m:d b:r _"),
 ("h_HSAt", "HSAt_i a x:lk d:lk A:ci m:d z:len P:put U:lk _"),
 ("h_HM", "HM_append l:lk _|HM_pop l:lk _|HM_extend l:lk _|HM_appendl l:lk _|HM_get l:lk _|HM_join _|HM_rfind _|HM_strip _|HM_i a x:lk d:lk n:nod A:ci f:mt F:fn _"),
 ("h_HC", "hc_cat1 _|HC_len_list l:lk b:len _|HC_len_wlist l:lk b:len _|HC_len_str b:len _|HC_len_tup b:nble _|HC_range _|HC_join l:lk h:asm _|HC_pop1 l:lk U:lk _|HC_pop l:lk z:len U:lk _|HC_append l:lk z:len U:lk _|HC_append_lst l:lk z:len U:lk _|HC_extend l:lk b:lk z:len U:lk _|HC_list l:lk z:len _|HC_abs _|HC_chr h0:num h1:num _|HC_rfind _|HC_strip z:len _|HC_getk a l:lk n:nod _|HC_strk a h0:num h1:num _|HC_int _|HC_ord _|C_err a hD:om ha:err _ xdt|HC_isi_int_str _|HC_isi_int_tuple _|HC_isi_str_str _|HC_isi_str_tuple _|HC_isi_tup_str _|HC_isi_tup_tup _")]
end
theorem zip_some : ∀ {ns : List Str} {vs : List Value}, ns.length = vs.length → ∀ n ∈ ns, ((ns.zip vs).lookup n).isSome = true
  | [], _, _, n, h => nomatch h
  | x :: r, [], e, n, h => by simp at e
  | x :: r, v :: vs, e, n, h => by
    rw [List.zip_cons_cons, List.lookup_cons]
    cases q : n == x with
    | true => rfl
    | false =>
      rcases List.mem_cons.mp h with rfl | h
      · simp at q
      · exact zip_some (by simpa using e) n h
theorem fcongr {α β : Type} {f g : α → Option β} : ∀ {l : List α}, (∀ x ∈ l, f x = g x) → l.filterMap f = l.filterMap g
  | [], _ => rfl
  | x :: r, h => by rw [List.filterMap_cons, List.filterMap_cons, h x (.head _), fcongr fun y hy => h y (.tail _ hy)]
theorem zip_self : ∀ {ns : List Str} {vs : List Value}, ns.Nodup → ns.length = vs.length → ns.filterMap (fun n => ((ns.zip vs).lookup n).map (n, ·)) = ns.zip vs
  | [], _, _, _ => rfl
  | x :: r, [], _, e => by simp at e
  | x :: r, v :: vs, hn, e => by
    rw [List.nodup_cons] at hn
    have ih := zip_self (vs := vs) hn.2 (by simpa using e)
    rw [List.zip_cons_cons, List.filterMap_cons]
    have e1 : (((x, v) :: r.zip vs).lookup x).map (x, ·) = some (x, v) := by simp [List.lookup_cons]
    rw [e1]
    dsimp only
    refine congrArg _ (Eq.trans ?_ ih)
    exact fcongr fun n hm => by
      have : (n == x) = false := by simp; exact fun h => hn.1 (h ▸ hm)
      rw [List.lookup_cons, this]
theorem iteN {α : Type} {c : Prop} {i : Decidable c} {a b y : α} (h : ¬ c) (e : b = y) : @ite α c i a b = y := (if_neg h).trans e
theorem forN {α β γ : Type} {xs : List α} {s : β} {f : α → β → Sem (ForInStep β)} {k : β → Sem γ} {y : Sem γ} (h : xs = []) (e : k s = y) : (forIn xs s f >>= k) = y := by subst h; exact e
theorem bndP {α γ : Type} {m : Sem α} {x : α} {k : α → Sem γ} {y : Sem γ} (h : m = pure x) (e : k x = y) : (m >>= k) = y := by subst h; exact e
theorem filtN (z : List (Str × Value)) {ns : List Str} {k : Nat} (h : ∀ n ∈ ns, (z.lookup n).isSome = true) : ¬ ((!(List.filter (fun n => (z.lookup n).isNone) (ns.take k)).isEmpty) = true) := by
  rw [List.filter_eq_nil_iff.mpr fun n hm => by have := h n (List.mem_of_mem_take hm); rw [← Option.not_isSome, this]; decide]
  decide
theorem zdrop {α β : Type} {xs : List α} {k : Nat} : xs.zip (List.drop k ([] : List β)) = [] := by rw [List.drop_nil, List.zip_nil_right]
theorem tooMany {a b : Nat} (h : b = a) : ¬ ((decide (a > b) && true) = true) := by rw [h]; simp
theorem bdsC {nm qn as kd ds body sc g cl doc pm an cd ct bi} {vs : List Value} (hn : (List.map Arg.arg as).Nodup) (hlen : (List.map Arg.arg as).length = vs.length) : bindArgs (.mk nm qn (.mk [] as none [] kd none ds) body sc g cl .none .none doc pm an cd ct bi) ⟨vs, []⟩ = pure ((List.map Arg.arg as).zip vs) := by
  unfold bindArgs
  refine forN rfl (bndP rfl (iteN (tooMany hlen) (iteN (filtN _ (zip_some hlen)) (forN zdrop (forN rfl (iteN (fun h => nomatch h) ?_))))))
  exact congrArg Sem.pure ((congrArg _ (List.append_nil _)).trans (zip_self hn hlen))
theorem fdk {P : FuncData → Prop} {fd : FuncData} (h1 : fd.params.posonlyargs = []) (h2 : fd.params.kwonlyargs = []) (h3 : fd.params.vararg = none) (h4 : fd.params.kwarg = none) (h5 : fd.defaults = .none) (h6 : fd.kwdefaults = .none)
    (h : ∀ nm qn kd ds body sc g cl doc pm an cd ct bi, P (.mk nm qn (.mk [] fd.params.args none [] kd none ds) body sc g cl .none .none doc pm an cd ct bi)) : P fd := by
  obtain ⟨nm, qn, ⟨po, as, va, ko, kd, kw, ds⟩, body, sc, g, cl, df, kf, doc, pm, an, cd, ct, bi⟩ := fd
  dsimp only at h1 h2 h3 h4 h5 h6
  subst h1 h2 h3 h4 h5 h6
  exact h ..
theorem bdsOf {ps : Arguments} {n : Nat} (h1 : ps.posonlyargs = []) (h2 : ps.kwonlyargs = []) (h3 : ps.vararg = none) (h4 : ps.kwarg = none) (hn : (ps.args.map (·.arg)).Nodup) (hl : ps.args.length = n) : Bds ps n := by
  intro fd e1 e2 e3 s vs hvs
  refine BindsTo.of_eq ?_
  subst e1
  have hlen : (fd.params.args.map Arg.arg).length = vs.length := by rw [List.length_map]; exact hl.trans hvs.symm
  exact fdk (P := fun f => bindArgs f ⟨vs, []⟩ = pure ((fd.params.args.map Arg.arg).zip vs)) h1 h2 h3 h4 e2 e3 fun _ _ _ _ _ _ _ _ _ _ _ _ _ _ => bdsC hn hlen
theorem end99 {n : Nat} {b : Prop} (h : n ≤ 99) (q : b) : n ≤ 99 ∧ b := ⟨h, q⟩
theorem endPl {a : AV} {b : Prop} (h : a.plain = true) (q : b) : a.plain = true ∧ b := ⟨h, q⟩
theorem endK {c : Cx} {K : Frag} {D : Nat} {Γ : Led} {f : Addr} {b : Prop} (I : In c K D) (hk : keepIn K (.ref f) = true) (q : b) : KeepOk c (.ref f) Γ ∧ b := ⟨keepK I hk, q⟩
theorem dle {D a b : Nat} (h : D ≤ a) (e : Nat.ble (a + 1) b = true) : D + 1 ≤ b := Nat.le_trans (Nat.succ_le_succ h) (Nat.le_of_ble_eq_true e)
theorem dlt {D a : Nat} (h : D ≤ a) (e : Nat.ble (a + 2) 1000 = true) : D + 1 < recursionLimit := Nat.le_trans (Nat.succ_le_succ (Nat.succ_le_succ h)) (Nat.le_of_ble_eq_true e)
theorem nle {n a b : Nat} (h : n ≤ a) (e : Nat.ble a b = true) : n ≤ b := Nat.le_trans h (Nat.le_of_ble_eq_true e)
theorem ilt {n a : Nat} (h : n ≤ a) (e : Nat.blt a 9223372036854775808 = true) : (n : Int) < 2 ^ 63 := by
  have := Nat.lt_of_le_of_lt h (Nat.blt_eq.mp e)
  lia
noncomputable def nodupK {β : Type} : List (Str × β) → Bool
  | [] => true
  | p :: r => !(r.any fun q => q.1 == p.1) && nodupK r
theorem notinOf {β : Type} {k : Str} {l : List (Str × β)} (h : (l.any fun p => p.1 == k) = false) : k ∉ l.map (·.1) := fun m => by
  obtain ⟨p, hp, e⟩ := List.mem_map.mp m
  have := List.any_eq_false.mp h p hp
  simp [show p.1 = k from e] at this
theorem nodupOf {β : Type} : ∀ {l : List (Str × β)}, nodupK l = true → (l.map (·.1)).Nodup
  | [], _ => .nil
  | p :: r, h => by
    have h := Bool.and_eq_true_iff.mp h
    rw [List.map_cons, List.nodup_cons]
    exact ⟨notinOf (by simpa using h.1), nodupOf h.2⟩
local macro_rules | `(tactic| walk_at "h_hD2") => `(tactic| (show _ + 1 < 1000; lia))
local macro_rules | `(tactic| walk_at "h_boot") => `(tactic| boot_by_name)
local macro_rules | `(tactic| walk_at "h_sw") => `(tactic| (intro e he; cases e; subst he; rfl))
local macro_rules | `(tactic| walk_at "h_ct") => `(tactic| (intro e he; exact swaps_ct he (by first | kernel_rfl! | decide +kernel)))
local macro_rules | `(tactic| walk_at "h_err") => `(tactic| first | exact .inl ⟨rfl, rfl⟩ | exact .inr rfl)
local macro_rules | `(tactic| walk_at "h_xdt") => `(tactic| intro x d t)
local macro_rules | `(tactic| walk_at "h_fail") => `(tactic| fail)
local macro_rules | `(tactic| walk_at $s:str) => match Mine.words.lookup s.getString with | some d => Mine.firstOf d | none => Lean.Macro.throwUnsupported
section
variable {W : Params}
theorem clsOk : ClsOk (KF W) := by
  have h : List.lookup 41 (KF W) = some g41 := by kernel_rfl
  exact ⟨_, _, _, _, _, _, _, _, _, _, _, _, _, _, _, h⟩
theorem exI : ExI (KF W) 38 37 where
  cls := clsOk
  opq := by kernel_rfl
  alg := by kernel_rfl
  cel := by kernel_rfl
  cod := ⟨g37, _, _, by kernel_rfl, rfl, rfl⟩
  ga := by kernel_rfl
  gt := by kernel_rfl
  sb := by kernel_rfl
  se := by kernel_rfl
  hd := by kernel_rfl
  sa := by kernel_rfl
  nc := by kernel_rfl
  nt := by kernel_rfl
variable {c : Cx} {D : Nat} {Γ : Led} {Q : AV → Led → Prop} {E : EP}
theorem C_init {x t : Addr} {code told : Str} {as : List AV} (I : In c (KF W) D) (hD : D ≤ 950) (ha : as = [.str code] ∧ told = Str.ofString "" ∨ as = [.str code, .str told]) : HCc c (.ref 38) (.ref x :: as) ((x, .obj (excN t)) :: Γ) (fun v Γ' => v = .none ∧ ∃ d t', Γ' = (d, excD code told) :: (x, .obj (excO d t')) :: Γ) E := by
  refine' HCc_dflt (as' := [.ref x, .str code, .str told]) I fn_38 ?hx ?hD ?hbind ?hcell ?hloc ?hrev ?hρ ?hnod ?hco ?q
  case hx => exact rfl
  case hD => show _ + 1 < 1000; lia
  case hbind =>
    intro fd e1 e2 e3 s vs X hvs
    obtain ⟨⟩ := fd; dsimp only at e1 e2 e3; subst e1 e2 e3
    rcases ha with ⟨rfl, rfl⟩ | rfl
    · obtain ⟨v, w, rfl, hv, hw⟩ := hvs.two
      refine ⟨[v, w, .str (Str.ofString "") 212], .cons hv (.cons hw (.cons (.str ..) .nil)), ?_⟩
      have h30 : List.lookup 30 (KF W) = some g30 := by kernel_rfl
      exact binds_K (T := 30) X rfl h30 (show g30.data = .seq #[.str (Str.ofString "") 212] 0 from rfl) rfl rfl
    · obtain ⟨v, w, u, rfl, hv, hw, hu⟩ := hvs.three
      exact ⟨[v, w, u], .cons hv (.cons hw (.cons hu .nil)), binds_K (T := 30) X rfl (o := g30) (by kernel_rfl) (show g30.data = .seq #[.str (Str.ofString "") 212] 0 from rfl) rfl rfl⟩
  case hcell => decide +kernel
  case hloc => decide +kernel
  case hrev => decide +kernel
  case hρ => walk_at "h_locs"
  case hnod => exact nodupOf (by kernel_rfl)
  case hco => decide +kernel
  intro c1 o fd I1 hs1 hc1 hf1 hcd1 ho hdata hps hA s S
  refine' own_cons ?hA S (K0 := fun Γ' => ∃ t', Γ' = (x, .obj (excN t')) :: Γ) (sup_stmt (cd := 37) I1 exI ?hA2 hs1 ?k1 ?k2 ?k3 hc1 hf1 ?kc ho hdata ?har ?hsf gl_super ?hl .here ?hi ?hsw ?he ?hst ?hpl ?qq s S) ?rest
  case hA => exact hA
  case hA2 => exact hA.symm
  case k1 => decide +kernel
  case k2 => decide +kernel
  case k3 => decide +kernel
  case kc =>
    have h38 : List.lookup 38 (KF W) = some g38 := by kernel_rfl
    rw [h38] at ho; cases ho
    have e : (match g38.data with | .func fd' => fd'.code | _ => .none) = fd.code := by rw [hdata]
    rw [hcd1, ← e]; rfl
  case har => rw [hps]; rfl
  case hsf => rfl
  case hl => exact .here
  case hi => unfold interactive; rw [hs1]; rfl
  case hsw => rfl
  case he => intro ov; exact rfl
  case hst => rfl
  case hpl => rfl
  case qq =>
    intro p; walk_at "h_go"
    exact ⟨keep_mw .here, HC_sub (HC_mw I1 clsOk .here (.there .here) (fun _ => .there .here) fun t' => ⟨_, .tail, rfl, _, rfl⟩)⟩
  case rest =>
    rintro Γ' ⟨t', rfl⟩; walk_at "h_go"
    refine HSAt_excN I1 exI .here (fun d => .here) exI.nc fun d => ?_
    walk_at "h_go"
    refine HSAt_excO I1 exI (.there .here) .here (by simp) (.new (notinOf (by kernel_rfl))) .here exI.nt ?_
    walk_at "h_go"
    exact ⟨rfl, _, _, rfl⟩
theorem C_err {code told : Str} {as : List AV} {Q : AV → Led → Prop} (I : In c (KF W) D) (hD : D ≤ 940) (ha : as = [.str code] ∧ told = Str.ofString "" ∨ as = [.str code, .str told]) (q : ∀ x d t, Q (.ref x) ((x, .obj (excO d t)) :: (d, excD code told) :: Γ)) : HC c (.ref 41) as Γ Q E := by
  refine HC_exc I clsOk (by rcases ha with ⟨rfl, _⟩ | rfl <;> simp) in_41 (type_fn fn_38) fun c' x t I' => ?_
  refine HC_sub (HC_mono (C_init I' (dle hD rfl) ha).hc fun v Γ' ⟨h, d, t', e⟩ => ?_)
  subst e
  exact ⟨_, .swap, h, q _ _ _⟩
theorem raise_fin {x d t : Addr} {code told : Str} (q : E code Γ) : ∃ x' d' t' code' told' Γ', AV.ref x = .ref x' ∧ (x, AO.obj (excO d t)) :: (d, excD code told) :: Γ = (x', .obj (excO d' t')) :: (d', excD code' told') :: Γ' ∧ E code' Γ' := ⟨x, d, t, code, told, Γ, rfl, rfl, q⟩
end
section
variable {c : Cx} {D : Nat} {Γ : Led} {Q : AV → Led → Prop} {E : EP} {W : Params}
/-- the tape -/
structure Tp (ta la : Addr) (xs : List Int) (Γ : Led) : Prop where
  ln : xs.length ≤ 63
  ll : Lk la Γ (.wlist (xs.map .int))
  lt : ∃ k : Int, 0 ≤ k ∧ Lk ta Γ (.wlist [.int k, .ref la])
theorem C_next (I : In c (KF W) D) (hD : D ≤ 900) {m : Int} {ta la : Addr} {xs : List Int} (hm : 0 < m) (T : Tp ta la xs Γ) (q : ∀ r Γ', Mo [ta] Γ Γ' → Tp ta la xs Γ' → 0 ≤ r → r < m → Q (.int r) Γ') : HC c (.ref 1031) [.ref ta, .int m] Γ Q E := by
  obtain ⟨ln, ll, k, h0, lt⟩ := T
  refine HC_nod fun nd => ?_
  obtain ⟨Γ', U⟩ := Up.ex lt (.wlist [.int (k + 1), .ref la])
  have lt' := U.lk
  have ll' := U.other (Lk.ne nd ll lt (by intro h; injection h with h; rcases xs with _ | ⟨_, _ | ⟨_, _⟩⟩ <;> simp at h)) ll
  have q' : ∀ r, 0 ≤ r → r < m → Q (.int r) Γ' := fun r => q r Γ' (.up1 U) ⟨ln, ll', _, by lia, lt'⟩
  (refine' HC_fn (by assumption) fn_1031 ?hx ?hD ?hbind ?hcell ?hloc ?hrev ?hρ ?hnod ?hco ?q; walk_at "h_in"; intro c1 I1 hs1 hc1); clear I
  walk_at "h_go"
  refine br_split (fun hb => ?_) fun hb => ?_
  · have hb := of_decide_eq_true hb
    rw [List.length_map] at hb
    obtain ⟨y, hy⟩ : ∃ y, xs[(k + 1 - 1).toNat]? = some y := ⟨_, List.getElem?_eq_getElem (by lia)⟩
    have hx : (xs.map AV.int)[(k + 1 - 1).toNat]? = some (.int y) := by rw [List.getElem?_map, hy]; rfl
    walk_at "h_go"
    exact q' _ (Int.fmod_nonneg_of_pos _ hm) (Int.fmod_lt_of_pos _ hm)
  · walk_at "h_go"
    exact q' _ (Int.fmod_nonneg_of_pos _ hm) (Int.fmod_lt_of_pos _ hm)
/-! what the tape draws -/
inductive Tree where
  | text (s : Str) | whole (n : Int) | fn
inductive Item where
  | zone | glue | tab (n : Int) | spc (n : Int) | value (t : Tree)
noncomputable def txts : List Str := [Str.ofString "AB", Str.ofString "x", Str.ofString "", Str.ofString "QRSTU"]
inductive TR (Γ : Led) : Tree → AV → Prop where
  | text {s : Str} : s ∈ txts → TR Γ (.text s) (.tup [.str (Str.ofString "text"), .str s])
  | whole {n : Int} : 0 ≤ n → n < 20 → TR Γ (.whole n) (.tup [.str (Str.ofString "whole"), .int n])
  | fn {e : Addr} : Lk e Γ (.wlist []) → TR Γ .fn (.tup [.str (Str.ofString "fn"), .str (Str.ofString "FNZ"), .ref e])
inductive IR (Γ : Led) : Item → AV → Prop where
  | zone : IR Γ .zone (.tup [.str (Str.ofString "zone")])
  | glue : IR Γ .glue (.tup [.str (Str.ofString "glue")])
  | tab {n : Int} : 0 ≤ n → n ≤ 257 → IR Γ (.tab n) (.tup [.str (Str.ofString "tab"), .tup [.str (Str.ofString "whole"), .int n]])
  | spc {n : Int} : 0 ≤ n → n ≤ 256 → IR Γ (.spc n) (.tup [.str (Str.ofString "spc"), .tup [.str (Str.ofString "whole"), .int n]])
  | value {t : Tree} {v : AV} : TR Γ t v → IR Γ (.value t) (.tup [.str (Str.ofString "value"), v])
theorem TR.mo {X : List Addr} {Γ Γ' : Led} {t : Tree} {v : AV} (M : Mo X Γ Γ') (n : NoL X Γ) (h : TR Γ t v) : TR Γ' t v := by
  cases h with
  | text h => exact .text h
  | whole h h' => exact .whole h h'
  | fn h => exact .fn (M.plain n h rfl)
theorem IR.mo {X : List Addr} {Γ Γ' : Led} {t : Item} {v : AV} (M : Mo X Γ Γ') (n : NoL X Γ) (h : IR Γ t v) : IR Γ' t v := by
  cases h with
  | zone => exact .zone
  | glue => exact .glue
  | tab h h' => exact .tab h h'
  | spc h h' => exact .spc h h'
  | value h => exact .value (h.mo M n)
theorem Tp.push {ta la : Addr} {xs : List Int} {p : Addr × AO} (T : Tp ta la xs Γ) : Tp ta la xs (p :: Γ) := ⟨T.ln, .there T.ll, T.lt.imp fun _ h => ⟨h.1, .there h.2⟩⟩
theorem Tp.nol {ta la : Addr} {xs : List Int} (T : Tp ta la xs Γ) (nd : (adr Γ).Nodup) : NoL [ta] Γ := by
  obtain ⟨_, _, k, _, lt⟩ := T
  exact .cons nd lt rfl .nil
noncomputable def AO.wl : AO → Bool | .wlist (_ :: _) => true | _ => false
theorem Tp.lk {ta la : Addr} {xs : List Int} {Γ' : Led} {k : Addr} {o : AO} (T : Tp ta la xs Γ) (nd : (adr Γ).Nodup) (M : Mo [ta] Γ Γ') (l : Lk k Γ o) (h : o.wl = false) : Lk k Γ' o := by
  obtain ⟨_, _, j, _, lt⟩ := T
  refine M.lk (fun m => ?_) l
  rw [List.mem_singleton] at m
  subst m
  have := Lk.inj nd l lt
  subst this; cases h
theorem Tp.off {ta la : Addr} {xs : List Int} {k : Addr} {o : AO} (T : Tp ta la xs Γ) (nd : (adr Γ).Nodup) (l : Lk k Γ o) (h : o.wl = false) : k ∉ [ta] := fun m => by
  obtain ⟨_, _, j, _, lt⟩ := T
  rw [List.mem_singleton] at m
  subst m
  have := Lk.inj nd l lt
  subst this; cases h
theorem Tp.tr {ta la : Addr} {xs : List Int} {Γ' : Led} (T : Tp ta la xs Γ) (tr : ∀ i l, Lk i Γ (.wlist l) → Lk i Γ' (.wlist l)) : Tp ta la xs Γ' := ⟨T.ln, tr _ _ T.ll, T.lt.imp fun _ h => ⟨h.1, tr _ _ h.2⟩⟩
theorem TR.tr {Γ' : Led} {t : Tree} {v : AV} (h : TR Γ t v) (tr : ∀ i l, Lk i Γ (.wlist l) → Lk i Γ' (.wlist l)) : TR Γ' t v := by
  cases h with
  | text h => exact .text h
  | whole h h' => exact .whole h h'
  | fn h => exact .fn (tr _ _ h)
theorem IR.tr {Γ' : Led} {t : Item} {v : AV} (h : IR Γ t v) (tr : ∀ i l, Lk i Γ (.wlist l) → Lk i Γ' (.wlist l)) : IR Γ' t v := by
  cases h with
  | zone => exact .zone
  | glue => exact .glue
  | tab h h' => exact .tab h h'
  | spc h h' => exact .spc h h'
  | value h => exact .value (h.tr tr)
theorem at4 {r : Int} (h0 : 0 ≤ r) (h1 : r < 4) : ∃ s, s ∈ txts ∧ [AV.str (Str.ofString "AB"), AV.str (Str.ofString "x"), AV.str (Str.ofString ""), AV.str (Str.ofString "QRSTU")][r.toNat]? = some (.str s) := by
  have : r = 0 ∨ r = 1 ∨ r = 2 ∨ r = 3 := by lia
  rcases this with rfl | rfl | rfl | rfl
  · exact ⟨_, .head _, rfl⟩
  · exact ⟨_, .tail _ (.head _), rfl⟩
  · exact ⟨_, .tail _ (.tail _ (.head _)), rfl⟩
  · exact ⟨_, .tail _ (.tail _ (.tail _ (.head _))), rfl⟩
theorem C_text (I : In c (KF W) D) (hD : D ≤ 890) {ta la : Addr} {xs : List Int} (T : Tp ta la xs Γ) (q : ∀ s Γ', s ∈ txts → Mo [ta] Γ Γ' → Tp ta la xs Γ' → Q (.tup [.str (Str.ofString "text"), .str s]) Γ') : HC c (.ref 1038) [.ref ta] Γ Q E := by
  (refine' HC_fn (by assumption) fn_1038 ?hx ?hD ?hbind ?hcell ?hloc ?hrev ?hρ ?hnod ?hco ?q; walk_at "h_in"; intro c1 I1 hs1 hc1); clear I
  walk_at "h_go"
  intro l1; walk_at "h_go"
  refine HC_nod fun nd => C_next I1 (dle hD rfl) (by decide) T.push fun r Γ2 M2 T2 h0 h1 => ?_
  have ll := M2.list (T.push.nol nd) .here
  obtain ⟨s, hs, hx⟩ := at4 h0 h1
  walk_at "h_go"
  exact q s Γ2 hs (Mo.trans (.new .refl) M2) T2
theorem at6 {r : Int} (h0 : 0 ≤ r) (h1 : r < 6) : ∃ n : Int, 0 ≤ n ∧ n ≤ 257 ∧ [AV.int 0, AV.int 16, AV.int 1, AV.int 30, AV.int 4, AV.int 257][r.toNat]? = some (.int n) := by
  have : r = 0 ∨ r = 1 ∨ r = 2 ∨ r = 3 ∨ r = 4 ∨ r = 5 := by lia
  rcases this with rfl | rfl | rfl | rfl | rfl | rfl <;> exact ⟨_, by decide, by decide, rfl⟩
theorem at4s {r : Int} (h0 : 0 ≤ r) (h1 : r < 4) : ∃ n : Int, 0 ≤ n ∧ n ≤ 256 ∧ [AV.int 0, AV.int 3, AV.int 9, AV.int 256][r.toNat]? = some (.int n) := by
  have : r = 0 ∨ r = 1 ∨ r = 2 ∨ r = 3 := by lia
  rcases this with rfl | rfl | rfl | rfl <;> exact ⟨_, by decide, by decide, rfl⟩
theorem C_item (I : In c (KF W) D) (hD : D ≤ 880) {ta la : Addr} {xs : List Int} (T : Tp ta la xs Γ) (q : ∀ t v Γ', IR Γ' t v → Mo [ta] Γ Γ' → Tp ta la xs Γ' → Q v Γ') : HC c (.ref 1045) [.ref ta] Γ Q E := by
  refine HC_post ?_
  (refine' HC_fn (by assumption) fn_1045 ?hx ?hD ?hbind ?hcell ?hloc ?hrev ?hρ ?hnod ?hco ?q; walk_at "h_in"; intro c1 I1 hs1 hc1); clear I
  walk_at "h_go"
  refine C_next I1 (dle hD rfl) (by decide) T fun r Γ2 M2 T2 h0 h1 => ?_
  walk_at "h_go"
  refine br_split (fun hb => ?_) fun hb => ?_
  · walk_at "h_go"
    intro l1; walk_at "h_go"
    refine HC_nod fun nd => C_next I1 (dle hD rfl) (by decide) T2.push fun r3 Γ3 M3 T3 h2 h3 => ?_
    have ll := M3.list (T2.push.nol nd) .here
    obtain ⟨n, h4, h5, hx⟩ := at6 h2 h3
    walk_at "h_go"
    exact ⟨_, .refl, q (.tab n) _ _ (.tab h4 h5) (M2.trans (.trans (.new .refl) M3)) T3⟩
  walk_at "h_go"
  refine br_split (fun hb2 => ?_) fun hb2 => ?_
  · walk_at "h_go"
    intro l1; walk_at "h_go"
    refine HC_nod fun nd => C_next I1 (dle hD rfl) (by decide) T2.push fun r3 Γ3 M3 T3 h2 h3 => ?_
    have ll := M3.list (T2.push.nol nd) .here
    obtain ⟨n, h4, h5, hx⟩ := at6 h2 h3
    walk_at "h_go"
    exact ⟨_, .refl, q (.tab n) _ _ (.tab h4 h5) (M2.trans (.trans (.new .refl) M3)) T3⟩
  walk_at "h_go"
  refine br_split (fun hb3 => ?_) fun hb3 => ?_
  · walk_at "h_go"
    intro l1; walk_at "h_go"
    refine HC_nod fun nd => C_next I1 (dle hD rfl) (by decide) T2.push fun r3 Γ3 M3 T3 h2 h3 => ?_
    have ll := M3.list (T2.push.nol nd) .here
    obtain ⟨n, h4, h5, hx⟩ := at4s h2 h3
    walk_at "h_go"
    exact ⟨_, .refl, q (.spc n) _ _ (.spc h4 h5) (M2.trans (.trans (.new .refl) M3)) T3⟩
  walk_at "h_go"
  refine br_split (fun hb4 => ?_) fun hb4 => ?_
  · walk_at "h_go"
    refine C_text I1 (dle hD rfl) T2 fun s Γ3 hs M3 T3 => ?_
    walk_at "h_go"
    exact ⟨_, .refl, q (.value (.text s)) _ _ (.value (.text hs)) (M2.trans M3) T3⟩
  walk_at "h_go"
  refine br_split (fun hb5 => ?_) fun hb5 => ?_
  · walk_at "h_go"
    refine C_next I1 (dle hD rfl) (by decide) T2 fun r3 Γ3 M3 T3 h2 h3 => ?_
    walk_at "h_go"
    exact ⟨_, .refl, q (.value (.whole r3)) _ _ (.value (.whole h2 h3)) (M2.trans M3) T3⟩
  walk_at "h_go"
  refine br_split (fun hb6 => ?_) fun hb6 => ?_
  · walk_at "h_go"
    intro l1
    walk_at "h_go"
    exact ⟨_, .wl .refl, q (.value .fn) _ _ (.value (.fn .here)) (M2.trans (.new .refl)) T2.push⟩
  walk_at "h_go"
  intro l1
  have : r = 0 ∨ r = 1 := by simp only [beq_eq_false_iff_ne, ne_eq] at hb hb2 hb3 hb4 hb5 hb6; lia
  rcases this with rfl | rfl
  · walk_at "h_go"
    exact ⟨_, .refl, q .zone _ _ .zone (M2.trans (.new .refl)) T2.push⟩
  · walk_at "h_go"
    exact ⟨_, .refl, q .glue _ _ .glue (M2.trans (.new .refl)) T2.push⟩
theorem C_value (I : In c (KF W) D) (hD : D ≤ 880) {ta la : Addr} {xs : List Int} (T : Tp ta la xs Γ) (q : ∀ t v Γ', TR Γ' t v → Mo [ta] Γ Γ' → Tp ta la xs Γ' → Q v Γ') : HC c (.ref 1052) [.ref ta] Γ Q E := by
  refine HC_post ?_
  (refine' HC_fn (by assumption) fn_1052 ?hx ?hD ?hbind ?hcell ?hloc ?hrev ?hρ ?hnod ?hco ?q; walk_at "h_in"; intro c1 I1 hs1 hc1); clear I
  walk_at "h_go"
  refine C_next I1 (dle hD rfl) (by decide) T fun r Γ2 M2 T2 h0 h1 => ?_
  walk_at "h_go"
  refine br_split (fun hb => ?_) fun hb => ?_
  · walk_at "h_go"
    refine C_next I1 (dle hD rfl) (by decide) T2 fun r3 Γ3 M3 T3 h2 h3 => ?_
    walk_at "h_go"
    exact ⟨_, .refl, q (.whole r3) _ _ (.whole h2 h3) (M2.trans M3) T3⟩
  · walk_at "h_go"
    refine br_split (fun hb2 => ?_) fun hb2 => ?_
    · walk_at "h_go"
      intro l1; walk_at "h_go"
      exact ⟨_, .wl .refl, q .fn _ _ (.fn .here) (M2.trans (.new .refl)) T2.push⟩
    · walk_at "h_go"
      refine C_text I1 (dle hD rfl) T2 fun s Γ3 hs M3 T3 => ?_
      walk_at "h_go"
      exact ⟨_, .refl, q (.text s) _ _ (.text hs) (M2.trans M3) T3⟩
inductive F2 {α : Type} (R : α → AV → Prop) : List α → List AV → Prop where
  | nil : F2 R [] []
  | snoc {l : List α} {vs : List AV} {a : α} {v : AV} : F2 R l vs → R a v → F2 R (l ++ [a]) (vs ++ [v])
theorem F2.imp {α : Type} {R S : α → AV → Prop} (k : ∀ a v, R a v → S a v) {l : List α} {vs : List AV} (h : F2 R l vs) : F2 S l vs := by
  induction h with
  | nil => exact .nil
  | snoc _ r ih => exact .snoc ih (k _ _ r)
inductive Order where
  | print (ch : Int) (l : List Item) | write (ch : Int) (l : List Tree) | using (ch : Int) (l : List Tree) (b : Bool)
noncomputable def chA (ch : Int) : AV := .tup [.str (Str.ofString "whole"), .int ch]
inductive OrdR (Γ : Led) : Order → AV → Prop where
  | print {ch : Int} {l : List Item} {vs : List AV} {a : Addr} : 1 ≤ ch → ch ≤ 4 → Lk a Γ (.list vs) → F2 (IR Γ) l vs → vs.length ≤ 4 → OrdR Γ (.print ch l) (.tup [.str (Str.ofString "PRINT"), chA ch, .ref a])
  | write {ch : Int} {l : List Tree} {vs : List AV} {a : Addr} : 1 ≤ ch → ch ≤ 4 → Lk a Γ (.list vs) → F2 (TR Γ) l vs → 1 ≤ vs.length → vs.length ≤ 3 → OrdR Γ (.write ch l) (.tup [.str (Str.ofString "WRITE"), chA ch, .ref a])
  | using {ch : Int} {l : List Tree} {vs : List AV} {a : Addr} {b : Bool} : 1 ≤ ch → ch ≤ 4 → Lk a Γ (.list vs) → F2 (TR Γ) l vs → 1 ≤ vs.length → vs.length ≤ 3 →
      OrdR Γ (.using ch l b) (.tup [.str (Str.ofString "USING"), chA ch, .tup [.str (Str.ofString "text"), .str (Str.ofString "<&>")], .ref a, .bool b])
theorem at7 {r : Int} (h0 : 0 ≤ r) (h1 : r < 7) : ∃ n : Int, 1 ≤ n ∧ n ≤ 4 ∧ [AV.int 1, AV.int 2, AV.int 3, AV.int 1, AV.int 1, AV.int 4, AV.int 2][r.toNat]? = some (.int n) := by
  have : r = 0 ∨ r = 1 ∨ r = 2 ∨ r = 3 ∨ r = 4 ∨ r = 5 ∨ r = 6 := by lia
  rcases this with rfl | rfl | rfl | rfl | rfl | rfl | rfl <;> exact ⟨_, by decide, by decide, rfl⟩
end
section
variable {c : Cx} {D : Nat} {Γ : Led} {Q : AV → Led → Prop} {E : EP} {W : Params}
theorem C_order (I : In c (KF W) D) (hD : D ≤ 870) {ta la : Addr} {xs : List Int} (T : Tp ta la xs Γ) (q : ∀ t v Γ', OrdR Γ' t v → Mo [ta] Γ Γ' → Tp ta la xs Γ' → Q v Γ') : HC c (.ref 1057) [.ref ta] Γ Q E := by
  (refine' HC_fnc (by assumption) fn_1057 ?hx ?hD ?hbind ?hcs ?hloc ?hxc ?hrev ?hρ ?hρl ?hnod ?hxa ?hco ?q; walk_at "h_inc"; intro c1 a1 I1 hs1 hc1); clear I
  walk_at "h_go"
  intro l1; walk_at "h_go"
  refine HC_nod fun nd => C_next I1 (dle hD rfl) (by decide) T.push.push fun r2 Γ2 M2 T2 h0 h1 => ?_
  have ll := M2.list (T.push.push.nol nd) .here
  have lc := T.push.push.lk nd M2 (.there .here) rfl
  obtain ⟨ch, hc0, hc1, hx⟩ := at7 h0 h1
  walk_at "h_go"
  refine HC_nod fun nd2 => C_next I1 (dle hD rfl) (by decide) T2 fun r3 Γ3 M3 T3 h2 h3 => ?_
  have lc3 := T2.lk nd2 M3 lc rfl
  walk_at "h_go"
  refine br_split (fun hb => ?_) fun hb => ?_
  · walk_at "h_go"
    refine HC_nod fun nd3 => C_next I1 (dle hD rfl) (by decide) T3 fun r4 Γ4 M4 T4 h4 h5 => ?_
    have lc4 := T3.lk nd3 M4 lc3 rfl
    obtain ⟨n, rfl⟩ := Int.eq_ofNat_of_zero_le h4
    walk_at "h_go"
    intro rr
    refine ⟨_, _, _, fun i ys Γ' => Mo [ta] ((rr, rngO n) :: Γ4) Γ' ∧ Tp ta la xs Γ' ∧ Lk a1 Γ' (.cell (some (.ref ta))) ∧ Lk rr Γ' (rngO n) ∧ ys.length = i ∧ i ≤ n ∧ ∃ l, F2 (IR Γ') l ys, srcRange I1.G (by lia), ⟨.refl, T4.push, .there lc4, .here, rfl, Nat.zero_le _, _, .nil⟩, ⟨fun i ys Γ' h => ⟨h.2.2.2.1, by lia⟩, ?_⟩, ?_⟩
    · rintro i v ys Γ' hv ⟨M, T', lc', lr, hlen, hi, l, F⟩ c' it l' I' hs' hc'
      walk_at "h_go"
      refine HC_nod fun nd => C_item I' (dle hD rfl) T'.push.push fun t y Γ2' ir M2' T2' => ?_
      obtain ⟨Γ3', hsb, M3', tr⟩ := M2'.head2 (T'.push.push.off nd .here rfl) (T'.push.push.off nd (.there .here) rfl)
      have tr' : ∀ i l, Lk i Γ2' (.wlist l) → Lk i Γ3' (.wlist l) := fun i l => tr i _ (by intro h; cases h) (by intro h; cases h)
      have nd' := (List.nodup_cons.mp (List.nodup_cons.mp nd).2).2
      have hi' : i < n := by have := (List.getElem?_eq_some_iff.mp hv).1; simpa [upTo] using this
      exact ⟨Γ3', hsb, M.trans M3', T2'.tr tr', T'.lk nd' M3' lc' rfl, T'.lk nd' M3' lr rfl, by simp [hlen], hi', _, .snoc (F.imp fun _ _ h => h.mo M3' (T'.nol nd')) (ir.tr tr')⟩
    · rintro l' ys Γ' ⟨M, T', lc', lr, hlen, hi, l, F⟩
      walk_at "h_go"
      exact q (.print ch l) _ _ (.print hc0 hc1 .here (F.imp fun _ _ h => h.tr fun _ _ => .there) (by lia)) (M2.n.n.trans (M3.trans (M4.trans (M.n.trans (.new .refl))))) T'.push
  walk_at "h_go"
  refine HC_nod fun nd3 => C_next I1 (dle hD rfl) (by decide) T3 fun r4 Γ4 M4 T4 h4 h5 => ?_
  have lc4 := T3.lk nd3 M4 lc3 rfl
  obtain ⟨n, rfl⟩ := Int.eq_ofNat_of_zero_le h4
  have e1 : (1 : Int) + (n : Int) = ((n + 1 : Nat) : Int) := by lia
  walk_at "h_go"
  rw [e1]; walk_at "h_go"
  intro rr
  refine ⟨_, _, _, fun i ys Γ' => Mo [ta] ((rr, rngO (n + 1 : Nat)) :: Γ4) Γ' ∧ Tp ta la xs Γ' ∧ Lk a1 Γ' (.cell (some (.ref ta))) ∧ Lk rr Γ' (rngO (n + 1 : Nat)) ∧ ys.length = i ∧ i ≤ n + 1 ∧ ∃ l, F2 (TR Γ') l ys, srcRange I1.G (by lia), ⟨.refl, T4.push, .there lc4, .here, rfl, Nat.zero_le _, _, .nil⟩, ⟨fun i ys Γ' h => ⟨h.2.2.2.1, by lia⟩, ?_⟩, ?_⟩
  · rintro i v ys Γ' hv ⟨M, T', lc', lr, hlen, hi, l, F⟩ c' it l' I' hs' hc'
    walk_at "h_go"
    refine HC_nod fun nd => C_value I' (dle hD rfl) T'.push.push fun t y Γ2' ir M2' T2' => ?_
    obtain ⟨Γ3', hsb, M3', tr⟩ := M2'.head2 (T'.push.push.off nd .here rfl) (T'.push.push.off nd (.there .here) rfl)
    have tr' : ∀ i l, Lk i Γ2' (.wlist l) → Lk i Γ3' (.wlist l) := fun i l => tr i _ (by intro h; cases h) (by intro h; cases h)
    have nd' := (List.nodup_cons.mp (List.nodup_cons.mp nd).2).2
    have hi' : i < n + 1 := by have := (List.getElem?_eq_some_iff.mp hv).1; simpa [upTo] using this
    exact ⟨Γ3', hsb, M.trans M3', T2'.tr tr', T'.lk nd' M3' lc' rfl, T'.lk nd' M3' lr rfl, by simp [hlen], hi', _, .snoc (F.imp fun _ _ h => h.mo M3' (T'.nol nd')) (ir.tr tr')⟩
  rintro l' ys Γ' ⟨M, T', lc', lr, hlen, hi, l, F⟩
  have hlen : ys.length = n + 1 := by rw [hlen]; simp [upTo]
  have MM := M2.n.n.trans (M3.trans (M4.trans (M.n.trans (.new (p := (l', .list ys)) .refl))))
  walk_at "h_go"
  refine br_split (fun hb2 => ?_) fun hb2 => ?_
  · walk_at "h_go"
    exact q (.write ch l) _ _ (.write hc0 hc1 .here (F.imp fun _ _ h => h.tr fun _ _ => .there) (by lia) (by lia)) MM T'.push
  walk_at "h_go"
  refine HC_nod fun nd5 => C_next I1 (dle hD rfl) (by decide) T'.push fun r5 Γ5 M5 T5 h6 h7 => ?_
  walk_at "h_go"
  exact q (.using ch l _) _ _ (.using hc0 hc1 (T'.push.lk nd5 M5 .here rfl) (F.imp fun _ _ h => (h.tr fun _ _ => .there).mo M5 (T'.push.nol nd5)) (by lia) (by lia)) (MM.trans M5) T5
end
section
variable {c : Cx} {D : Nat} {Γ : Led} {Q : AV → Led → Prop} {E : EP} {W : Params}
theorem C_fits (I : In c (KF W) D) (hD : D ≤ 930) {n : Int} (h0 : -30000 ≤ n) (h1 : n ≤ 30000) (q : Q (.bool true) Γ) : HC c (.ref 121) [.int n, .int 16] Γ Q E := by
  (refine' HC_fn (by assumption) fn_121 ?hx ?hD ?hbind ?hcell ?hloc ?hrev ?hρ ?hnod ?hco ?q; walk_at "h_in"; intro c1 I1 hs1 hc1); clear I
  walk_at "h_go"
  have : decide (n < 1 * 2 ^ ((16 : Int) - 1).toNat) = true := decide_eq_true (by lia)
  rw [this]; walk_at "h_go"
  exact q
theorem C_whole_of (I : In c (KF W) D) (hD : D ≤ 920) {n : Int} (h0 : -30000 ≤ n) (h1 : n ≤ 30000) (q : Q (.int n) Γ) : HC c (.ref 128) [.int n, .int 16] Γ Q E := by
  (refine' HC_fn (by assumption) fn_128 ?hx ?hD ?hbind ?hcell ?hloc ?hrev ?hρ ?hnod ?hco ?q; walk_at "h_in"; intro c1 I1 hs1 hc1); clear I
  walk_at "h_go"
  refine C_fits I1 (dle hD rfl) h0 h1 ?_
  walk_at "h_go"
  exact q
theorem C_text_of (I : In c (KF W) D) (hD : D ≤ 920) {s : Str} (q : Q (.str s) Γ) : HC c (.ref 142) [.str s] Γ Q E := by
  (refine' HC_fn (by assumption) fn_142 ?hx ?hD ?hbind ?hcell ?hloc ?hrev ?hρ ?hnod ?hco ?q; walk_at "h_in"; intro c1 I1 hs1 hc1); clear I
  walk_at "h_go"
  exact q
noncomputable def figs (n : Int) : Str := if n ≤ 9 then ⟨#[(48 + n).toNat]⟩ else ⟨#[(48 + n / 10).toNat]⟩ ++ ⟨#[(48 + n % 10).toNat]⟩
theorem C_figs (I : In c (KF W) D) (hD : D ≤ 920) {n : Int} (h0 : 0 ≤ n) (h1 : n < 100) (q : Q (.str (figs n)) Γ) : HC c (.ref 241) [.int n] Γ Q E := by
  have m0 := Int.fmod_nonneg_of_pos n (b := 10) (by decide)
  have m1 := Int.fmod_lt_of_pos n (b := 10) (by decide)
  have e1 : n.fmod 10 = n % 10 := Int.fmod_eq_emod_of_nonneg n (by decide)
  have e2 : n.fdiv 10 = n / 10 := Int.fdiv_eq_ediv_of_nonneg n (by decide)
  have f0 := Int.fmod_nonneg_of_pos (n.fdiv 10) (b := 10) (by decide)
  have f1 := Int.fmod_lt_of_pos (n.fdiv 10) (b := 10) (by decide)
  have e3 : (n.fdiv 10).fmod 10 = n / 10 := by rw [e2, Int.fmod_eq_emod_of_nonneg _ (by decide)]; lia
  (refine' HC_fn (by assumption) fn_241 ?hx ?hD ?hbind ?hcell ?hloc ?hrev ?hρ ?hnod ?hco ?q; walk_at "h_in"; intro c1 I1 hs1 hc1); clear I
  walk_at "h_go"
  refine HS_WhileN I1.G 1 ?_
  show HT _ _ _ _ _ _
  walk_at "h_go"
  refine br_split (fun hb => ?_) fun hb => ?_
  · have hb := of_decide_eq_true hb
    walk_at "h_go"
    show HT _ _ _ _ _ _
    walk_at "h_go"
    have e : figs n = ⟨#[(48 + (n.fdiv 10).fmod 10).toNat]⟩ ++ ⟨#[(48 + n.fmod 10).toNat]⟩ := by rw [e3, e1]; exact if_neg (by lia)
    rw [e] at q; exact q
  · have hb := of_decide_eq_false hb
    walk_at "h_go"
    have e : figs n = ⟨#[(48 + n.fmod 10).toNat]⟩ := by rw [e1]; unfold figs; rw [if_pos (by lia)]; have : n % 10 = n := by lia
                                                        rw [this]
    rw [e] at q; exact q
theorem figs_len (n : Int) : (figs n).length ≤ 2 := by unfold figs; split <;> simp [slen1, slen_append]
theorem C_whole_text (I : In c (KF W) D) (hD : D ≤ 910) {n : Int} (h0 : 0 ≤ n) (h1 : n < 100) (q : Q (.str (Str.ofString " " ++ figs n)) Γ) : HC c (.ref 269) [.int n] Γ Q E := by
  have e : (if n < 0 then -n else n) = n := if_neg (by lia)
  have l := figs_len n
  (refine' HC_fn (by assumption) fn_269 ?hx ?hD ?hbind ?hcell ?hloc ?hrev ?hρ ?hnod ?hco ?q; walk_at "h_in"; intro c1 I1 hs1 hc1); clear I
  walk_at "h_go"
  rw [e]
  refine C_figs I1 (dle hD rfl) h0 h1 ?_
  walk_at "h_go"
  exact q
theorem C_shown_str (I : In c (KF W) D) (hD : D ≤ 900) {s : Str} (q : Q (.str s) Γ) : HC c (.ref 559) [.str s, .int 9] Γ Q E := by
  (refine' HC_fn (by assumption) fn_559 ?hx ?hD ?hbind ?hcell ?hloc ?hrev ?hρ ?hnod ?hco ?q; walk_at "h_in"; intro c1 I1 hs1 hc1); clear I
  walk_at "h_go"
  exact q
theorem C_shown_int (I : In c (KF W) D) (hD : D ≤ 900) {n : Int} (h0 : 0 ≤ n) (h1 : n < 100) (q : Q (.str (Str.ofString " " ++ figs n ++ Str.ofString " ")) Γ) : HC c (.ref 559) [.int n, .int 9] Γ Q E := by
  have l := figs_len n
  (refine' HC_fn (by assumption) fn_559 ?hx ?hD ?hbind ?hcell ?hloc ?hrev ?hρ ?hnod ?hco ?q; walk_at "h_in"; intro c1 I1 hs1 hc1); clear I
  walk_at "h_go"
  refine C_whole_text I1 (dle hD rfl) h0 h1 ?_
  walk_at "h_go"
  exact q
/-! trees and their worth -/
structure Ad where
  ru : Addr
  rd : Addr
  co : Addr
  wo : Addr
  wd : Addr
  fn : Addr
  an : Addr
  aq : Addr
  ou : Addr
  fa : Addr
  oa : Addr
  m1 : Addr
  m2 : Addr
  m3 : Addr
  n1 : Addr
  n2 : Addr
  n3 : Addr
  n4 : Addr
  n5 : Addr
  n6 : Addr
  n7 : Addr
  n8 : Addr
noncomputable abbrev wdE (A : Ad) : List (Str × AV) := [(Str.ofString "bits", .int 16), (Str.ofString "digits", .int 9), (Str.ofString "most_steps", .int 2000), (Str.ofString "most_depth", .int 20), (Str.ofString "room", .int 2000), (Str.ofString "names", .ref A.n1), (Str.ofString "arrays", .ref A.n2), (Str.ofString "kinds", .ref A.n3), (Str.ofString "fns", .ref A.fn), (Str.ofString "out", .ref A.ou), (Str.ofString "row", .str (Str.ofString "")), (Str.ofString "inputs", .ref A.n4), (Str.ofString "files", .ref A.fa), (Str.ofString "open", .ref A.oa), (Str.ofString "fields", .ref A.n5), (Str.ofString "data", .ref A.n6), (Str.ofString "spot", .int 0), (Str.ofString "base", .int 0), (Str.ofString "seed", .int 1), (Str.ofString "steps", .int 0), (Str.ofString "depth", .int 0), (Str.ofString "handler", .int 0), (Str.ofString "is_handling", .bool false), (Str.ofString "error_line", .int 0), (Str.ofString "error_code", .str (Str.ofString "")), (Str.ofString "is_traced", .bool false), (Str.ofString "traces", .ref A.n7), (Str.ofString "common", .ref A.n8)]
noncomputable abbrev rdE (A : Ad) : List (Str × AV) := [(Str.ofString "world", .ref A.wo), (Str.ofString "flat", .none), (Str.ofString "answers", .ref A.an), (Str.ofString "bits", .int 16), (Str.ofString "digits", .int 9), (Str.ofString "control", .ref A.co), (Str.ofString "asked", .ref A.aq)]
/-- the run stands -/
structure RS (A : Ad) (n : Nat) (Γ : Led) : Prop where
  ru : Lk A.ru Γ (.inst 1020 A.rd)
  rd : Lk A.rd Γ (.sd (rdE A))
  wo : Lk A.wo Γ (.inst 816 A.wd)
  wd : Lk A.wd Γ (.sd (wdE A))
  fn : Lk A.fn Γ (.sd [])
  an : Lk A.an Γ (.sd [])
  aq : Lk A.aq Γ (.lst n)
  hn : n ≤ 9000
inductive Leaf : Str → AV → Prop where
  | text (s : Str) : Leaf (Str.ofString "text") (.str s)
  | whole {n : Int} : -30000 ≤ n → n ≤ 30000 → Leaf (Str.ofString "whole") (.int n)
theorem C_parts_leaf (I : In c (KF W) D) (hD : D ≤ 900) {k : Str} {w : AV} (h : Leaf k w) (q : ∀ r, Q (.ref r) ((r, .list []) :: Γ)) : HC c (.ref 853) [.tup [.str k, w]] Γ Q E := by
  (refine' HC_fn (by assumption) fn_853 ?hx ?hD ?hbind ?hcell ?hloc ?hrev ?hρ ?hnod ?hco ?q; walk_at "h_in"; intro c1 I1 hs1 hc1); clear I
  cases h <;> walk_at "h_go" <;> intro r <;> walk_at "h_go" <;> exact q r
theorem C_parts_fn (I : In c (KF W) D) (hD : D ≤ 900) {e : Addr} (q : Q (.ref e) Γ) : HC c (.ref 853) [.tup [.str (Str.ofString "fn"), .str (Str.ofString "FNZ"), .ref e]] Γ Q E := by
  (refine' HC_fn (by assumption) fn_853 ?hx ?hD ?hbind ?hcell ?hloc ?hrev ?hρ ?hnod ?hco ?q; walk_at "h_in"; intro c1 I1 hs1 hc1); clear I
  walk_at "h_go"
  exact q
theorem C_leaf (I : In c (KF W) D) (hD : D ≤ 900) {k : Str} {w : AV} (h : Leaf k w) (q : Q w Γ) : HC c (.ref 895) [.tup [.str k, w], .int 16, .int 9] Γ Q E := by
  (refine' HC_fn (by assumption) fn_895 ?hx ?hD ?hbind ?hcell ?hloc ?hrev ?hρ ?hnod ?hco ?q; walk_at "h_in"; intro c1 I1 hs1 hc1); clear I
  cases h with
  | text s => walk_at "h_go"; exact q
  | whole h0 h1 =>
    walk_at "h_go"
    refine C_fits I1 (dle hD rfl) h0 h1 ?_
    walk_at "h_go"
    exact q
theorem C_wtree (I : In c (KF W) D) (hD : D ≤ 890) {A : Ad} {n : Nat} (R : RS A n Γ) {k : Str} {w : AV} {p : Addr} (h : Leaf k w) (q : Q w Γ) : HC c (.ref 902) [.tup [.str k, w], .ref p, .ref A.ru] Γ Q E := by
  obtain ⟨l1, l2, l3, l4, l5, l6, l7, hn⟩ := R
  have h' := h
  (refine' HC_fn (by assumption) fn_902 ?hx ?hD ?hbind ?hcell ?hloc ?hrev ?hρ ?hnod ?hco ?q; walk_at "h_in"; intro c1 I1 hs1 hc1); clear I
  cases h <;> walk_at "h_go" <;> exact C_leaf I1 (dle hD rfl) h' q
end
section
variable {c : Cx} {D : Nat} {Γ Γ' : Led} {Q : AV → Led → Prop} {E : EP} {W : Params}
theorem C_answered (I : In c (KF W) D) (hD : D ≤ 890) {A : Ad} {n : Nat} (R : RS A n Γ) {p : Addr} (lp : Lk p Γ (.list [])) (U : Up A.aq (.lst (n + 1)) Γ Γ') (e : E (Str.ofString "UF") Γ') : HC c (.ref 975) [.ref A.ru, .str (Str.ofString "FNZ"), .ref p] Γ Q E := by
  obtain ⟨l1, l2, l3, l4, l5, l6, l7, hn⟩ := R
  refine HC_subE (HC_nod fun nd => ?_)
  have l1' := U.oth nd l7 l1 (by simp)
  have l2' := U.oth nd l7 l2 (by simp)
  have l6' := U.oth nd l7 l6 (by simp)
  (refine' HC_fn (by assumption) fn_975 ?hx ?hD ?hbind ?hcell ?hloc ?hrev ?hρ ?hnod ?hco ?q; walk_at "h_in"; intro c1 I1 hs1 hc1); clear I
  walk_at "h_go"
  intro r
  walk_at "h_go"
  intro r2
  walk_at "h_go"
  exact ⟨Γ', by walk_at "h_sb", e⟩
theorem C_fn (I : In c (KF W) D) (hD : D ≤ 880) {A : Ad} {n : Nat} (R : RS A n Γ) {p : Addr} (lp : Lk p Γ (.list [])) (U : Up A.aq (.lst (n + 1)) Γ Γ') (e : E (Str.ofString "UF") Γ') : HC c (.ref 961) [.ref A.ru, .str (Str.ofString "FNZ"), .ref p] Γ Q E := by
  have R' := R
  obtain ⟨l1, l2, l3, l4, l5, l6, l7, hn⟩ := R
  (refine' HC_fn (by assumption) fn_961 ?hx ?hD ?hbind ?hcell ?hloc ?hrev ?hρ ?hnod ?hco ?q; walk_at "h_in"; intro c1 I1 hs1 hc1); clear I
  walk_at "h_go"
  exact C_answered I1 (dle hD rfl) R' lp U e
theorem C_wtree_fn (I : In c (KF W) D) (hD : D ≤ 870) {A : Ad} {n : Nat} (R : RS A n Γ) {p e' : Addr} (lp : Lk p Γ (.list [])) (U : Up A.aq (.lst (n + 1)) Γ Γ') (e : E (Str.ofString "UF") Γ') : HC c (.ref 902) [.tup [.str (Str.ofString "fn"), .str (Str.ofString "FNZ"), .ref e'], .ref p, .ref A.ru] Γ Q E := by
  have R' := R
  obtain ⟨l1, l2, l3, l4, l5, l6, l7, hn⟩ := R
  (refine' HC_fn (by assumption) fn_902 ?hx ?hD ?hbind ?hcell ?hloc ?hrev ?hρ ?hnod ?hco ?q; walk_at "h_in"; intro c1 I1 hs1 hc1); clear I
  walk_at "h_go"
  exact C_fn I1 (dle hD rfl) R' lp U e
theorem RS.push {A : Ad} {n : Nat} {p : Addr × AO} (R : RS A n Γ) : RS A n (p :: Γ) := ⟨.there R.ru, .there R.rd, .there R.wo, .there R.wd, .there R.fn, .there R.an, .there R.aq, R.hn⟩
theorem C_worth (I : In c (KF W) D) (hD : D ≤ 860) {A : Ad} {n : Nat} (R : RS A n Γ) {k : Str} {w : AV} (h : Leaf k w) (q : Q w Γ) : HC c (.ref 907) [.tup [.str k, w], .ref A.ru] Γ Q E := by
  refine HC_sub ?_
  (refine' HC_fn (by assumption) fn_907 ?hx ?hD ?hbind ?hcell ?hloc ?hrev ?hρ ?hnod ?hco ?q; walk_at "h_in"; intro c1 I1 hs1 hc1); clear I
  walk_at "h_go"
  intro r1
  walk_at "h_go"
  intro r2
  walk_at "h_go"
  refine HS_WhileN I1.G 1 ?_
  show HT _ _ _ _ _ _
  walk_at "h_go"
  refine C_parts_leaf I1 (dle hD rfl) h fun r3 => ?_
  walk_at "h_go"
  intro r4
  walk_at "h_go"
  refine C_wtree I1 (dle hD rfl) R.push.push.push.push h ?_
  walk_at "h_go"
  intro r5
  walk_at "h_go"
  intro r6
  walk_at "h_go"
  intro r7
  walk_at "h_go"
  show HT _ _ _ _ _ _
  walk_at "h_go"
  exact ⟨Γ, by walk_at "h_sb", q⟩
theorem C_worth_fn (I : In c (KF W) D) (hD : D ≤ 860) {A : Ad} {n : Nat} (R : RS A n Γ) {e' : Addr} (le : Lk e' Γ (.wlist [])) (U : Up A.aq (.lst (n + 1)) Γ Γ') (e : E (Str.ofString "UF") Γ') : HC c (.ref 907) [.tup [.str (Str.ofString "fn"), .str (Str.ofString "FNZ"), .ref e'], .ref A.ru] Γ Q E := by
  refine HC_subE ?_
  (refine' HC_fn (by assumption) fn_907 ?hx ?hD ?hbind ?hcell ?hloc ?hrev ?hρ ?hnod ?hco ?q; walk_at "h_in"; intro c1 I1 hs1 hc1); clear I
  walk_at "h_go"
  intro r1
  walk_at "h_go"
  intro r2
  walk_at "h_go"
  refine HS_WhileN I1.G 1 ?_
  show HT _ _ _ _ _ _
  walk_at "h_go"
  refine C_parts_fn I1 (dle hD rfl) ?_
  walk_at "h_go"
  intro r4
  walk_at "h_go"
  exact C_wtree_fn I1 (dle hD rfl) R.push.push.push .here (.there (.there (.there U))) ⟨Γ', by walk_at "h_sb", e⟩
end
section
variable {c : Cx} {D : Nat} {Γ Γ' : Led} {Q : AV → Led → Prop} {E : EP} {W : Params} {po pg pd : Addr}
/-! a page -/
noncomputable abbrev PgL (po pg pd : Addr) (xs : List AV) (r : Str) (Γ : Led) : Led := (po, .list xs) :: (pg, .inst 354 pd) :: (pd, .sd [(Str.ofString "out", .ref po), (Str.ofString "row", .str r)]) :: Γ
theorem C_end_row (I : In c (KF W) D) (hD : D ≤ 930) {xs : List AV} {r : Str} (hx : xs.length ≤ 9999) (q : Q .none (PgL po pg pd (xs ++ [.str r]) (Str.ofString "") Γ)) : HC c (.ref 365) [.ref pg] (PgL po pg pd xs r Γ) Q E := by
  (refine' HC_fn (by assumption) fn_365 ?hx ?hD ?hbind ?hcell ?hloc ?hrev ?hρ ?hnod ?hco ?q; walk_at "h_in"; intro c1 I1 hs1 hc1); clear I
  walk_at "h_go"
  exact q
theorem C_ptext (I : In c (KF W) D) (hD : D ≤ 920) {xs : List AV} {r t : Str} (hr : r.length ≤ 1000000) (ht : t.length ≤ 1000000) (q : Q .none (PgL po pg pd xs (r ++ t) Γ)) : HC c (.ref 372) [.ref pg, .str t, .int 0] (PgL po pg pd xs r Γ) Q E := by
  (refine' HC_fn (by assumption) fn_372 ?hx ?hD ?hbind ?hcell ?hloc ?hrev ?hρ ?hnod ?hco ?q; walk_at "h_in"; intro c1 I1 hs1 hc1); clear I
  walk_at "h_go"
  refine HS_WhileN I1.G 0 ?_
  show HT _ _ _ _ _ _
  walk_at "h_go"
  exact q
noncomputable def zoneBy (n : Int) : Int := (n.fdiv 14 + 1) * 14 - n
theorem C_zone (I : In c (KF W) D) (hD : D ≤ 920) {xs : List AV} {r : Str} (hr : r.length ≤ 1000000) (q : Q .none (PgL po pg pd xs (r ++ sp (zoneBy r.length).toNat) Γ)) : HC c (.ref 379) [.ref pg, .int 14, .int 0] (PgL po pg pd xs r Γ) Q E := by
  have h0 : 0 ≤ (r.length : Int) := by lia
  have h1 : (r.length : Int).fdiv 14 = r.length / 14 := Int.fdiv_eq_ediv_of_nonneg _ (by decide)
  (refine' HC_fn (by assumption) fn_379 ?hx ?hD ?hbind ?hcell ?hloc ?hrev ?hρ ?hnod ?hco ?q; walk_at "h_in"; intro c1 I1 hs1 hc1); clear I
  walk_at "h_go"
  exact q
theorem C_within (I : In c (KF W) D) (hD : D ≤ 920) {n : Int} (h0 : 0 ≤ n) (h1 : n ≤ 255) (q : Q (.int n) Γ) : HC c (.ref 386) [.int n, .int 0] Γ Q E := by
  (refine' HC_fn (by assumption) fn_386 ?hx ?hD ?hbind ?hcell ?hloc ?hrev ?hρ ?hnod ?hco ?q; walk_at "h_in"; intro c1 I1 hs1 hc1); clear I
  walk_at "h_go"
  exact q
theorem C_within_no (I : In c (KF W) D) (hD : D ≤ 920) {n : Int} (h1 : 255 < n) (e : E (Str.ofString "FC") Γ) : HC c (.ref 386) [.int n, .int 0] Γ Q E := by
  (refine' HC_fn (by assumption) fn_386 ?hx ?hD ?hbind ?hcell ?hloc ?hrev ?hρ ?hnod ?hco ?q; walk_at "h_in"; intro c1 I1 hs1 hc1); clear I
  walk_at "h_go"
  exact e
theorem C_blanks (I : In c (KF W) D) (hD : D ≤ 910) {xs : List AV} {r : Str} {n : Int} (hr : r.length ≤ 1000000) (h0 : 0 ≤ n) (h1 : n ≤ 255) (q : Q .none (PgL po pg pd xs (r ++ sp n.toNat) Γ)) : HC c (.ref 393) [.ref pg, .int n, .int 0] (PgL po pg pd xs r Γ) Q E := by
  (refine' HC_fn (by assumption) fn_393 ?hx ?hD ?hbind ?hcell ?hloc ?hrev ?hρ ?hnod ?hco ?q; walk_at "h_in"; intro c1 I1 hs1 hc1); clear I
  walk_at "h_go"
  refine C_within I1 (dle hD rfl) h0 h1 ?_
  walk_at "h_go"
  refine C_ptext I1 (dle hD rfl) hr (by rw [sp_len]; lia) ?_
  walk_at "h_go"
  exact q
theorem C_blanks_no (I : In c (KF W) D) (hD : D ≤ 910) {xs : List AV} {r : Str} {n : Int} (h1 : 255 < n) (e : E (Str.ofString "FC") (PgL po pg pd xs r Γ)) : HC c (.ref 393) [.ref pg, .int n, .int 0] (PgL po pg pd xs r Γ) Q E := by
  (refine' HC_fn (by assumption) fn_393 ?hx ?hD ?hbind ?hcell ?hloc ?hrev ?hρ ?hnod ?hco ?q; walk_at "h_in"; intro c1 I1 hs1 hc1); clear I
  walk_at "h_go"
  exact C_within_no I1 (dle hD rfl) h1 e
theorem C_tab (I : In c (KF W) D) (hD : D ≤ 910) {xs : List AV} {r : Str} {n : Int} (hx : xs.length ≤ 9999) (hr : r.length ≤ 1000000) (h0 : 1 ≤ n) (h1 : n ≤ 256) (q1 : n - 1 < r.length → Q .none (PgL po pg pd (xs ++ [.str r]) (Str.ofString "" ++ sp (n - 1).toNat) Γ)) (q2 : ¬ n - 1 < r.length → Q .none (PgL po pg pd xs (r ++ sp (n - 1 - r.length).toNat) Γ)) :
    HC c (.ref 400) [.ref pg, .int n, .int 0] (PgL po pg pd xs r Γ) Q E := by
  (refine' HC_fn (by assumption) fn_400 ?hx ?hD ?hbind ?hcell ?hloc ?hrev ?hρ ?hnod ?hco ?q; walk_at "h_in"; intro c1 I1 hs1 hc1); clear I
  walk_at "h_go"
  refine C_within I1 (dle hD rfl) (by lia) (by lia) ?_
  walk_at "h_go"
  refine br_split (fun hb => ?_) fun hb => ?_
  · have hb := of_decide_eq_true hb
    walk_at "h_go"
    refine C_end_row I1 (dle hD rfl) hx ?_
    walk_at "h_go"
    have e : (n - 1 - ((Str.ofString "").length : Int)) = n - 1 := by rw [sl_no]; simp
    have := q1 hb
    rw [← e] at this
    exact this
  · have hb := of_decide_eq_false hb
    walk_at "h_go"
    exact q2 hb
theorem C_tab_no (I : In c (KF W) D) (hD : D ≤ 910) {xs : List AV} {r : Str} {n : Int} (h1 : n < 1 ∨ 256 < n) (e : E (Str.ofString "FC") (PgL po pg pd xs r Γ)) :
    HC c (.ref 400) [.ref pg, .int n, .int 0] (PgL po pg pd xs r Γ) Q E := by
  (refine' HC_fn (by assumption) fn_400 ?hx ?hD ?hbind ?hcell ?hloc ?hrev ?hρ ?hnod ?hco ?q; walk_at "h_in"; intro c1 I1 hs1 hc1); clear I
  rcases h1 with h1 | h1
  · walk_at "h_go"
    exact e
  · walk_at "h_go"
    exact C_within_no I1 (dle hD rfl) (by lia) e
/-! the parts of a row -/
inductive Part where
  | text (s : Str) | zone | glue | tab (n : Int) | spc (n : Int)
noncomputable def Part.av : Part → AV
  | .text s => .tup [.str (Str.ofString "text"), .str s]
  | .zone => .tup [.str (Str.ofString "zone")]
  | .glue => .tup [.str (Str.ofString "glue")]
  | .tab n => .tup [.str (Str.ofString "tab"), .int n]
  | .spc n => .tup [.str (Str.ofString "spc"), .int n]
noncomputable def Part.ok : Part → Prop
  | .text s => s.length ≤ 300
  | .tab n => 0 ≤ n ∧ n ≤ 1000
  | .spc n => 0 ≤ n ∧ n ≤ 1000
  | _ => True
noncomputable def pstep : Part → List Str × Str → Option (List Str × Str)
  | .text s, (l, r) => some (l, r ++ s)
  | .zone, (l, r) => some (l, r ++ sp (zoneBy r.length).toNat)
  | .glue, (l, r) => some (l, r)
  | .tab n, (l, r) => if n < 1 ∨ 256 < n then none else if n - 1 < r.length then some (l ++ [r], Str.ofString "" ++ sp (n - 1).toNat) else some (l, r ++ sp (n - 1 - r.length).toNat)
  | .spc n, (l, r) => if 255 < n then none else some (l, r ++ sp n.toNat)
noncomputable def Part.ends : Part → Bool
  | .text _ => true
  | _ => false
theorem strs_snoc (l : List Str) (r : Str) : strsOf (l ++ [r]) = strsOf l ++ [.str r] := by simp [strsOf]
theorem C_part (I : In c (KF W) D) (hD : D ≤ 900) {l : List Str} {r : Str} {p : Part} (hp : p.ok) (hx : l.length ≤ 9999) (hr : r.length ≤ 1000000) (q : ∀ l' r', pstep p (l, r) = some (l', r') → Q (.bool p.ends) (PgL po pg pd (strsOf l') r' Γ)) (e : pstep p (l, r) = none → E (Str.ofString "FC") (PgL po pg pd (strsOf l) r Γ)) :
    HC c (.ref 407) [.ref pg, p.av, .int 14, .int 0] (PgL po pg pd (strsOf l) r Γ) Q E := by
  have hx' : (strsOf l).length ≤ 9999 := by simp [strsOf]; exact hx
  (refine' HC_fn (by assumption) fn_407 ?hx ?hD ?hbind ?hcell ?hloc ?hrev ?hρ ?hnod ?hco ?q; walk_at "h_in"; intro c1 I1 hs1 hc1); clear I
  cases p with
  | text s =>
    unfold Part.av
    walk_at "h_go"
    refine C_ptext I1 (dle hD rfl) hr (Nat.le_trans hp (by decide)) ?_
    walk_at "h_go"
    exact q _ _ rfl
  | zone =>
    unfold Part.av
    walk_at "h_go"
    refine C_zone I1 (dle hD rfl) hr ?_
    walk_at "h_go"
    exact q _ _ rfl
  | glue =>
    unfold Part.av
    walk_at "h_go"
    exact q _ _ rfl
  | tab n =>
    unfold Part.av
    walk_at "h_go"
    by_cases h : n < 1 ∨ 256 < n
    · exact C_tab_no I1 (dle hD rfl) h (e (if_pos h))
    · refine C_tab I1 (dle hD rfl) hx' hr (by lia) (by lia) (fun hb => ?_) fun hb => ?_
      · walk_at "h_go"
        have := q (l ++ [r]) (Str.ofString "" ++ sp (n - 1).toNat) (by simp only [pstep]; rw [if_neg h, if_pos hb])
        rw [strs_snoc] at this
        exact this
      · walk_at "h_go"
        exact q _ _ (by simp only [pstep]; rw [if_neg h, if_neg hb])
  | spc n =>
    unfold Part.av
    walk_at "h_go"
    by_cases h : 255 < n
    · exact C_blanks_no I1 (dle hD rfl) h (e (if_pos h))
    · refine C_blanks I1 (dle hD rfl) hr hp.1 (by lia) ?_
      walk_at "h_go"
      exact q _ _ (if_neg h)
end
section
variable {c : Cx} {D : Nat} {Γ Γ' : Led} {Q : AV → Led → Prop} {E : EP} {W : Params} {po pg pd : Addr}
noncomputable def prun (ps : List Part) (s : List Str × Str) : Option (List Str × Str) := ps.foldlM (fun s p => pstep p s) s
noncomputable def pends (ps : List Part) : Bool := match ps.getLast? with | some p => p.ends | none => true
theorem prun_take {ps : List Part} {s : List Str × Str} {i : Nat} {p : Part} (h : ps[i]? = some p) : prun (ps.take (i + 1)) s = (prun (ps.take i) s).bind (pstep p) := by
  unfold prun
  rw [List.take_add_one, h, List.foldlM_append]
  simp only [Option.toList, List.foldlM_cons, List.foldlM_nil, bind_pure]
  rfl
theorem pends_take {ps : List Part} {i : Nat} {p : Part} (h : ps[i]? = some p) : pends (ps.take (i + 1)) = p.ends := by
  unfold pends
  rw [List.take_add_one, h]
  simp
theorem prun_none {ps : List Part} {s : List Str × Str} {i : Nat} (h : prun (ps.take i) s = none) : prun ps s = none := by
  have := List.take_append_drop i ps
  unfold prun at h ⊢
  rw [← this, List.foldlM_append, h]
  rfl
theorem pstep_size {p : Part} {l l' : List Str} {r r' : Str} (hp : p.ok) (h : pstep p (l, r) = some (l', r')) : l'.length ≤ l.length + 1 ∧ r'.length ≤ r.length + 1000 := by
  cases p with
  | text s => cases h; rw [slen_append]; have : s.length ≤ 300 := hp; lia
  | zone =>
    cases h; rw [slen_append, sp_len]
    have : (r.length : Int).fdiv 14 = r.length / 14 := Int.fdiv_eq_ediv_of_nonneg _ (by decide)
    have : zoneBy r.length = (r.length / 14 + 1) * 14 - r.length := by unfold zoneBy; rw [this]
    lia
  | glue => cases h; lia
  | tab n =>
    simp only [pstep] at h
    split at h
    · cases h
    · split at h
      · cases h; rw [slen_append, sp_len, sl_no, List.length_append]; have := hp; simp only [Part.ok] at this; simp; lia
      · cases h; rw [slen_append, sp_len]; have := hp; simp only [Part.ok] at this; lia
  | spc n =>
    simp only [pstep] at h
    split at h
    · cases h
    · cases h; rw [slen_append, sp_len]; have := hp; simp only [Part.ok] at this; lia
theorem C_parts (I : In c (KF W) D) (hD : D ≤ 890) {l0 : List Str} {r0 : Str} {ps : List Part} {pl : Addr} (hp : ∀ p ∈ ps, p.ok) (hn : ps.length ≤ 9) (hx : l0.length ≤ 9000) (hr : r0.length ≤ 900000) (lp : Lk pl Γ (.list (ps.map Part.av)))
    (q : ∀ l r, prun ps (l0, r0) = some (l, r) → Q .none (if pends ps = true then PgL po pg pd (strsOf (l ++ [r])) (Str.ofString "") Γ else PgL po pg pd (strsOf l) r Γ)) (e : prun ps (l0, r0) = none → E (Str.ofString "FC") Γ) :
    HC c (.ref 414) [.ref pg, .ref pl, .int 14, .int 0] (PgL po pg pd (strsOf l0) r0 Γ) Q E := by
  refine HC_subE ?_
  (refine' HC_fn (by assumption) fn_414 ?hx ?hD ?hbind ?hcell ?hloc ?hrev ?hρ ?hnod ?hco ?q; walk_at "h_in"; intro c1 I1 hs1 hc1); clear I
  walk_at "h_go"
  refine HS_For I1.G (fun _ => rfl) ?_
  walk_at "h_go"
  refine ⟨_, _, _, fun i ρ' Γ' => ∃ l r o, Γ' = PgL po pg pd (strsOf l) r Γ ∧ ρ' = [(Str.ofString "page", some (.ref pg)), (Str.ofString "parts", some (.ref pl)), (Str.ofString "zone", some (.int 14)), (Str.ofString "width", some (.int 0)), (Str.ofString "is_ended", some (.bool (pends (ps.take i)))), (Str.ofString "part", o)] ∧ prun (ps.take i) (l0, r0) = some (l, r) ∧ l.length ≤ l0.length + i ∧ r.length ≤ r0.length + 1000 * i ∧ i ≤ ps.length,
    srcList I1.G, ⟨l0, r0, none, rfl, rfl, rfl, by lia, by lia, by lia⟩, fun i ρ' Γ' ⟨l, r, o, h, _⟩ => by subst h; exact .there (.there (.there lp)), .inl fun _ _ => rfl, ?_, ?_⟩
  · rintro it i x ρ' Γ' hx' ⟨l, r, o, rfl, rfl, hrun, hl', hr', hi⟩
    obtain ⟨p, hpi, rfl⟩ : ∃ p, ps[i]? = some p ∧ p.av = x := by rw [List.getElem?_map] at hx'; cases z : ps[i]? with | none => rw [z] at hx'; cases hx' | some p => rw [z] at hx'; exact ⟨p, rfl, Option.some.inj hx'⟩
    have hlt := (List.getElem?_eq_some_iff.mp hpi).1
    have hok := hp p (List.mem_of_getElem? hpi)
    walk_at "h_go"
    refine HC_perm Sb.mv3' (C_part I1 (dle hD rfl) hok (by lia) (by lia) (fun l' r' hs => ?_) fun hs => ?_)
    · walk_at "h_go"
      have hz := pstep_size hok hs
      refine ⟨PgL po pg pd (strsOf l') r' Γ, Sb.mv3, l', r', some p.av, rfl, by rw [pends_take hpi], by rw [prun_take hpi, hrun]; exact hs, by lia, by lia, by lia⟩
    · exact ⟨Γ, by walk_at "h_sb", e (prun_none (i := i + 1) (by rw [prun_take hpi, hrun]; exact hs))⟩
  · rintro ρ' Γ' ⟨l, r, o, rfl, rfl, hrun, hl', hr', hi⟩
    have hlen : (ps.map Part.av).length = ps.length := by simp
    rw [hlen, List.take_length] at hrun
    rw [hlen, List.take_length]
    rw [hlen] at hl' hr' hi
    have qq := q l r hrun
    walk_at "h_go"
    refine br_split (fun hb => ?_) fun hb => ?_
    · rw [if_pos hb] at qq
      walk_at "h_go"
      refine C_end_row I1 (dle hD rfl) (by simp [strsOf]; lia) ?_
      walk_at "h_go"
      rw [strs_snoc] at qq; exact qq
    · rw [if_neg (by rw [hb]; decide)] at qq
      walk_at "h_go"
      exact qq
end
section
variable {c : Cx} {D : Nat} {Γ Γ' : Led} {Q : AV → Led → Prop} {E : EP} {W : Params} {po pg pd : Addr}
/-! the files -/
noncomputable abbrev fE (t1 t2 : Str) : List (Str × AV) := [(Str.ofString "LOG", .str t2), (Str.ofString "IN", .str (Str.ofString "1\n")), (Str.ofString "OUT", .str t1)]
noncomputable abbrev oE (A : Ad) : List (Int × AV) := [(1, .ref A.m1), (2, .ref A.m2), (3, .ref A.m3)]
noncomputable abbrev mE (m n : Str) (k : Int) : List (Str × AV) := [(Str.ofString "mode", .str m), (Str.ofString "name", .str n), (Str.ofString "at", .int k), (Str.ofString "size", .int 0), (Str.ofString "buffer", .str (Str.ofString "")), (Str.ofString "record", .int 0)]
structure FS (A : Ad) (t : Str × Str) (Γ : Led) : Prop where
  fa : Lk A.fa Γ (.sd (fE t.1 t.2))
  oa : Lk A.oa Γ (.id (oE A))
  m1 : Lk A.m1 Γ (.sd (mE (Str.ofString "O") (Str.ofString "OUT") t.1.length))
  m2 : Lk A.m2 Γ (.sd (mE (Str.ofString "A") (Str.ofString "LOG") t.2.length))
  m3 : Lk A.m3 Γ (.sd (mE (Str.ofString "I") (Str.ofString "IN") 0))
  z : t.1.length + t.2.length ≤ 10000000
theorem FS.push {A : Ad} {t : Str × Str} {p : Addr × AO} (F : FS A t Γ) : FS A t (p :: Γ) := ⟨.there F.fa, .there F.oa, .there F.m1, .there F.m2, .there F.m3, F.z⟩
noncomputable def Ad.ch (A : Ad) (n : Int) : Addr := if n = 1 then A.m1 else A.m2
noncomputable def fget (n : Int) (t : Str × Str) : Str := if n = 1 then t.1 else t.2
noncomputable def fput (n : Int) (x : Str) (t : Str × Str) : Str × Str := if n = 1 then (t.1 ++ x, t.2) else (t.1, t.2 ++ x)
theorem C_chan {n' : Nat} (I : In c (KF W) D) (hD : D ≤ 930) {A : Ad} {t : Str × Str} (R : RS A n' Γ) (F : FS A t Γ) {n : Int} (h : n = 1 ∨ n = 2) (q : Q (.ref (A.ch n)) Γ) : HC c (.ref 295) [.ref A.wo, .int n, .tup [.str (Str.ofString "O"), .str (Str.ofString "A")]] Γ Q E := by
  obtain ⟨l1, l2, l3, l4, l5, l6, l7, hn⟩ := R
  obtain ⟨f1, f2, f3, f4, f5, f6⟩ := F
  (refine' HC_fn (by assumption) fn_295 ?hx ?hD ?hbind ?hcell ?hloc ?hrev ?hρ ?hnod ?hco ?q; walk_at "h_in"; intro c1 I1 hs1 hc1); clear I
  rcases h with rfl | rfl <;> walk_at "h_go" <;> exact q
theorem C_chan_no {n' : Nat} (I : In c (KF W) D) (hD : D ≤ 930) {A : Ad} {t : Str × Str} (R : RS A n' Γ) (F : FS A t Γ) {n : Int} (h : n = 3 ∧ E (Str.ofString "BM") Γ ∨ n = 4 ∧ E (Str.ofString "BN") Γ) : HC c (.ref 295) [.ref A.wo, .int n, .tup [.str (Str.ofString "O"), .str (Str.ofString "A")]] Γ Q E := by
  obtain ⟨l1, l2, l3, l4, l5, l6, l7, hn⟩ := R
  obtain ⟨f1, f2, f3, f4, f5, f6⟩ := F
  (refine' HC_fn (by assumption) fn_295 ?hx ?hD ?hbind ?hcell ?hloc ?hrev ?hρ ?hnod ?hco ?q; walk_at "h_in"; intro c1 I1 hs1 hc1); clear I
  rcases h with ⟨rfl, e⟩ | ⟨rfl, e⟩ <;> walk_at "h_go" <;> exact e
theorem C_rworth (I : In c (KF W) D) (hD : D ≤ 850) {A : Ad} {n : Nat} (R : RS A n Γ) {k : Str} {w : AV} (h : Leaf k w) (q : Q w Γ) : HC c (.ref 928) [.ref A.ru, .tup [.str k, w]] Γ Q E := by
  (refine' HC_fn (by assumption) fn_928 ?hx ?hD ?hbind ?hcell ?hloc ?hrev ?hρ ?hnod ?hco ?q; walk_at "h_in"; intro c1 I1 hs1 hc1); clear I
  walk_at "h_go"
  refine C_worth I1 (dle hD rfl) R h ?_
  walk_at "h_go"
  exact q
theorem C_rworth_fn (I : In c (KF W) D) (hD : D ≤ 850) {A : Ad} {n : Nat} (R : RS A n Γ) {e' : Addr} (le : Lk e' Γ (.wlist [])) (U : Up A.aq (.lst (n + 1)) Γ Γ') (e : E (Str.ofString "UF") Γ') : HC c (.ref 928) [.ref A.ru, .tup [.str (Str.ofString "fn"), .str (Str.ofString "FNZ"), .ref e']] Γ Q E := by
  (refine' HC_fn (by assumption) fn_928 ?hx ?hD ?hbind ?hcell ?hloc ?hrev ?hρ ?hnod ?hco ?q; walk_at "h_in"; intro c1 I1 hs1 hc1); clear I
  walk_at "h_go"
  exact C_worth_fn I1 (dle hD rfl) R le U e
theorem C_whole (I : In c (KF W) D) (hD : D ≤ 850) {A : Ad} {n : Nat} (R : RS A n Γ) {i : Int} (h0 : -30000 ≤ i) (h1 : i ≤ 30000) (q : Q (.int i) Γ) : HC c (.ref 935) [.ref A.ru, .tup [.str (Str.ofString "whole"), .int i]] Γ Q E := by
  have R' := R
  obtain ⟨l1, l2, l3, l4, l5, l6, l7, hn⟩ := R
  (refine' HC_fn (by assumption) fn_935 ?hx ?hD ?hbind ?hcell ?hloc ?hrev ?hρ ?hnod ?hco ?q; walk_at "h_in"; intro c1 I1 hs1 hc1); clear I
  walk_at "h_go"
  refine C_worth I1 (dle hD rfl) R' (.whole h0 h1) ?_
  walk_at "h_go"
  refine C_whole_of I1 (dle hD rfl) h0 h1 ?_
  walk_at "h_go"
  exact q
theorem C_told {n' : Nat} (I : In c (KF W) D) (hD : D ≤ 840) {A : Ad} {t : Str × Str} (R : RS A n' Γ) (F : FS A t Γ) {n : Int} (h0 : 1 ≤ n) (h1 : n ≤ 4) (q : n = 1 ∨ n = 2 → Q (.int n) Γ) (e3 : n = 3 → E (Str.ofString "BM") Γ) (e4 : n = 4 → E (Str.ofString "BN") Γ) : HC c (.ref 573) [.ref A.ru, chA n] Γ Q E := by
  have R' := R
  obtain ⟨l1, l2, l3, l4, l5, l6, l7, hn⟩ := R
  unfold chA
  (refine' HC_fn (by assumption) fn_573 ?hx ?hD ?hbind ?hcell ?hloc ?hrev ?hρ ?hnod ?hco ?q; walk_at "h_in"; intro c1 I1 hs1 hc1); clear I
  walk_at "h_go"
  refine C_whole I1 (dle hD rfl) R' (by lia) (by lia) ?_
  walk_at "h_go"
  by_cases hh : n = 1 ∨ n = 2
  · refine C_chan I1 (dle hD rfl) R' F hh ?_
    walk_at "h_go"
    exact q hh
  · have : n = 3 ∨ n = 4 := by lia
    exact C_chan_no I1 (dle hD rfl) R' F (this.elim (fun h => .inl ⟨h, e3 h⟩) fun h => .inr ⟨h, e4 h⟩)
end
section
variable {c : Cx} {D : Nat} {Γ Γ' : Led} {Q : AV → Led → Prop} {E : EP} {W : Params} {po pg pd : Addr}
theorem mE_ne {m n m' n' : Str} {k k' : Int} (h : ¬ m = m') : AO.sd (mE m n k) ≠ AO.sd (mE m' n' k') := fun e => by
  injection e with e; injection e with e _; injection e with _ e; injection e with e; exact h e
noncomputable def unf (x : Str) : Str := Txt.slice x (some (Txt.rfind x (Str.ofString "\n") + 1)) none
theorem C_unf {n' : Nat} (I : In c (KF W) D) (hD : D ≤ 920) {A : Ad} {t : Str × Str} (R : RS A n' Γ) (F : FS A t Γ) {n : Int} (h : n = 1 ∨ n = 2) (q : Q (.str (unf (fget n t))) Γ) : HC c (.ref 580) [.ref A.ru, .int n] Γ Q E := by
  have R' := R
  have F' := F
  obtain ⟨l1, l2, l3, l4, l5, l6, l7, hn⟩ := R
  obtain ⟨f1, f2, f3, f4, f5, f6⟩ := F
  (refine' HC_fn (by assumption) fn_580 ?hx ?hD ?hbind ?hcell ?hloc ?hrev ?hρ ?hnod ?hco ?q; walk_at "h_in"; intro c1 I1 hs1 hc1); clear I
  walk_at "h_go"
  refine C_chan I1 (dle hD rfl) R' F' h ?_
  rcases h with rfl | rfl
  · have e : A.ch 1 = A.m1 := rfl
    rw [e]
    walk_at "h_go"
    exact q
  · have e : A.ch 2 = A.m2 := rfl
    rw [e]
    walk_at "h_go"
    exact q
theorem C_Page (I : In c (KF W) D) (hD : D ≤ 930) (q : ∀ po pg pd, Q (.ref pg) (PgL po pg pd [] (Str.ofString "") Γ)) : HC c (.ref 354) [] Γ Q E := by
  refine HC_new I mk_354 in_354 (type_fn fn_351) fun c' pg pd I' => ?_
  (refine' HCc_fn (by assumption) fn_351 ?hx ?hD ?hbind ?hcell ?hloc ?hrev ?hρ ?hnod ?hco ?q; walk_at "h_in"; intro c1 I1 hs1 hc1)
  walk_at "h_go"
  intro po
  walk_at "h_go"
  exact ⟨rfl, q _ _ _⟩
theorem C_fpage {n' : Nat} (I : In c (KF W) D) (hD : D ≤ 910) {A : Ad} {t : Str × Str} (R : RS A n' Γ) (F : FS A t Γ) {n : Int} (h : n = 1 ∨ n = 2) (q : ∀ po pg pd, Q (.ref pg) (PgL po pg pd [] (unf (fget n t)) Γ)) : HC c (.ref 587) [.ref A.ru, .int n] Γ Q E := by
  (refine' HC_fn (by assumption) fn_587 ?hx ?hD ?hbind ?hcell ?hloc ?hrev ?hρ ?hnod ?hco ?q; walk_at "h_in"; intro c1 I1 hs1 hc1); clear I
  walk_at "h_go"
  refine C_Page I1 (dle hD rfl) fun po pg pd => ?_
  walk_at "h_go"
  refine C_unf I1 (dle hD rfl) R.push.push.push F.push.push.push h ?_
  walk_at "h_go"
  exact q _ _ _
theorem C_wfile {n' : Nat} (I : In c (KF W) D) (hD : D ≤ 920) {A : Ad} {t : Str × Str} (R : RS A n' Γ) (F : FS A t Γ) {n : Int} {x : Str} (h : n = 1 ∨ n = 2) (hz : t.1.length + t.2.length + x.length ≤ 10000000) (q : ∀ Γ', FS A (fput n x t) Γ' → Mo [A.fa, A.m1, A.m2] Γ Γ' → Q .none Γ') : HC c (.ref 302) [.ref A.wo, .int n, .str x] Γ Q E := by
  refine HC_nod fun nd => ?_
  have R' := R
  have F' := F
  obtain ⟨l1, l2, l3, l4, l5, l6, l7, hn⟩ := R
  obtain ⟨f1, f2, f3, f4, f5, f6⟩ := F
  (refine' HC_fn (by assumption) fn_302 ?hx ?hD ?hbind ?hcell ?hloc ?hrev ?hρ ?hnod ?hco ?q; walk_at "h_in"; intro c1 I1 hs1 hc1); clear I
  rcases h with rfl | rfl
  · obtain ⟨Γ1, U1⟩ := Up.ex f1 (.sd (fE (t.1 ++ x) t.2))
    have nd1 := U1.nod nd
    have g2 := U1.oth nd f1 f2 (by simp)
    have g3 := U1.oth nd f1 f3 (by simp)
    have g4 := U1.oth nd f1 f4 (by simp)
    have g5 := U1.oth nd f1 f5 (by simp)
    obtain ⟨Γ2, U2⟩ := Up.ex g3 (.sd (mE (Str.ofString "O") (Str.ofString "OUT") (t.1.length + x.length)))
    have e : ((t.1 ++ x).length : Int) = t.1.length + x.length := by rw [slen_append]; lia
    have k1 := U2.oth nd1 g3 U1.lk (by simp)
    have k2 := U2.oth nd1 g3 g2 (by simp)
    have k4 := U2.oth nd1 g3 g4 (mE_ne (by decide +kernel))
    have k5 := U2.oth nd1 g3 g5 (mE_ne (by decide +kernel))
    have qq := q Γ2 ⟨k1, k2, by rw [show (fput 1 x t).1 = t.1 ++ x from rfl, e]; exact U2.lk, k4, k5, by rw [show (fput 1 x t).1 = t.1 ++ x from rfl, show (fput 1 x t).2 = t.2 from rfl, slen_append]; lia⟩ ((Mo.up U1 (by simp)).trans (Mo.up U2 (by simp)))
    walk_at "h_go"
    refine C_chan I1 (dle hD rfl) R' F' (.inl rfl) ?_
    have e : A.ch 1 = A.m1 := rfl
    rw [e]
    walk_at "h_go"
    exact qq
  · obtain ⟨Γ1, U1⟩ := Up.ex f1 (.sd (fE t.1 (t.2 ++ x)))
    have nd1 := U1.nod nd
    have g2 := U1.oth nd f1 f2 (by simp)
    have g3 := U1.oth nd f1 f3 (by simp)
    have g4 := U1.oth nd f1 f4 (by simp)
    have g5 := U1.oth nd f1 f5 (by simp)
    obtain ⟨Γ2, U2⟩ := Up.ex g4 (.sd (mE (Str.ofString "A") (Str.ofString "LOG") (t.2.length + x.length)))
    have e : ((t.2 ++ x).length : Int) = t.2.length + x.length := by rw [slen_append]; lia
    have k1 := U2.oth nd1 g4 U1.lk (by simp)
    have k2 := U2.oth nd1 g4 g2 (by simp)
    have k3 := U2.oth nd1 g4 g3 (mE_ne (by decide +kernel))
    have k5 := U2.oth nd1 g4 g5 (mE_ne (by decide +kernel))
    have qq := q Γ2 ⟨k1, k2, k3, by rw [show (fput 2 x t).2 = t.2 ++ x from rfl, e]; exact U2.lk, k5, by rw [show (fput 2 x t).1 = t.1 from rfl, show (fput 2 x t).2 = t.2 ++ x from rfl, slen_append]; lia⟩ ((Mo.up U1 (by simp)).trans (Mo.up U2 (by simp)))
    walk_at "h_go"
    refine C_chan I1 (dle hD rfl) R' F' (.inr rfl) ?_
    have e : A.ch 2 = A.m2 := rfl
    rw [e]
    walk_at "h_go"
    exact qq
theorem C_wrow {n' : Nat} (I : In c (KF W) D) (hD : D ≤ 910) {A : Ad} {t : Str × Str} (R : RS A n' Γ) (F : FS A t Γ) {n : Int} {x : Str} (h : n = 1 ∨ n = 2) (hz : t.1.length + t.2.length + x.length ≤ 9000000) (q : ∀ Γ', FS A (fput n (x ++ Str.ofString "\n") t) Γ' → Mo [A.fa, A.m1, A.m2] Γ Γ' → Q .none Γ') : HC c (.ref 309) [.ref A.wo, .int n, .str x] Γ Q E := by
  (refine' HC_fn (by assumption) fn_309 ?hx ?hD ?hbind ?hcell ?hloc ?hrev ?hρ ?hnod ?hco ?q; walk_at "h_in"; intro c1 I1 hs1 hc1); clear I
  walk_at "h_go"
  refine C_wfile I1 (dle hD rfl) R F h (by rw [slen_append, sl_row]; lia) fun Γ' F' M => ?_
  walk_at "h_go"
  exact q _ F' M
noncomputable def pjoin (l : List Str) : Str := Txt.join (Str.ofString "") (l.map (· ++ Str.ofString "\n"))
theorem C_wpage {n' : Nat} (I : In c (KF W) D) (hD : D ≤ 900) {A : Ad} {t : Str × Str} (R : RS A n' Γ) (F : FS A t Γ) {n : Int} {l : List Str} {r : Str} (h : n = 1 ∨ n = 2) (hl : l.length ≤ 9000) (hls : ∀ x ∈ l, x.length ≤ 1000000) (hj : JoinOk (Str.ofString "") (l.map (· ++ Str.ofString "\n")) = true) (hjl : (pjoin l).length ≤ 1000000) (hr : r.length ≤ 1000000)
    (hu : (unf (fget n t)).length ≤ 1000000) (hz : t.1.length + t.2.length ≤ 1000000) (hsl : (Txt.slice (pjoin l ++ r) (some ((unf (fget n t)).length : Int)) none).length ≤ 2000000) (q : ∀ Γ', FS A (fput n (Txt.slice (pjoin l ++ r) (some ((unf (fget n t)).length : Int)) none) t) Γ' → Mo [A.fa, A.m1, A.m2] Γ Γ' → Q .none Γ') :
    HC c (.ref 592) [.ref A.ru, .int n, .ref pg] (PgL po pg pd (strsOf l) r Γ) Q E := by
  (refine' HC_fn (by assumption) fn_592 ?hx ?hD ?hbind ?hcell ?hloc ?hrev ?hρ ?hnod ?hco ?q; walk_at "h_in"; intro c1 I1 hs1 hc1); clear I
  have l1 := R.ru
  have l2 := R.rd
  walk_at "h_go"
  refine ⟨_, _, _, fun i ys Γ' => Γ' = PgL po pg pd (strsOf l) r Γ ∧ ys = strsOf ((l.take i).map (· ++ Str.ofString "\n")) ∧ i ≤ l.length, srcList I1.G, ⟨rfl, rfl, Nat.zero_le _⟩, ⟨fun i ys Γ' ⟨h1, h2, h3⟩ => ⟨by subst h1; exact .here, by subst h2; simp [strsOf]; lia⟩, ?_⟩, ?_⟩
  · rintro i v ys Γ' hv ⟨rfl, rfl, hi⟩ c' it l' I' hs' hc'
    obtain ⟨x, hx, rfl⟩ : ∃ x, l[i]? = some x ∧ AV.str x = v := by unfold strsOf at hv; rw [List.getElem?_map] at hv; cases z : l[i]? with | none => rw [z] at hv; cases hv | some x => rw [z] at hv; exact ⟨x, rfl, Option.some.inj hv⟩
    have hxl := hls x (List.mem_of_getElem? hx)
    have hlt := (List.getElem?_eq_some_iff.mp hx).1
    walk_at "h_go"
    refine ⟨PgL po pg pd (strsOf l) r Γ, .refl, rfl, ?_, hlt⟩
    rw [List.take_add_one, hx]; simp [strsOf]
  · rintro l' ys Γ' ⟨rfl, rfl, hi⟩
    have hlen : (strsOf l).length = l.length := by simp [strsOf]
    rw [hlen, List.take_length]
    have hjl' : (Txt.join (Str.ofString "") (l.map (· ++ Str.ofString "\n"))).length ≤ 1000000 := hjl
    walk_at "h_go"
    refine C_unf I1 (dle hD rfl) R.push.push.push.push F.push.push.push.push h ?_
    walk_at "h_go"
    refine C_wfile I1 (dle hD rfl) R.push.push.push.push F.push.push.push.push h (Nat.le_trans (Nat.add_le_add hz hsl) (by decide)) fun Γ' F' M => ?_
    walk_at "h_go"
    exact q _ F' M.n.n.n.n
end
section
variable {c : Cx} {D : Nat} {Γ Γ' Γu : Led} {Q : AV → Led → Prop} {E : EP} {W : Params} {po pg pd : Addr}
theorem F2.len {α : Type} {R : α → AV → Prop} {l : List α} {vs : List AV} (h : F2 R l vs) : l.length = vs.length := by
  induction h with
  | nil => rfl
  | snoc _ _ ih => simp [ih]
theorem F2.get {α : Type} {R : α → AV → Prop} {l : List α} {vs : List AV} (h : F2 R l vs) {i : Nat} {v : AV} (hv : vs[i]? = some v) : ∃ a, l[i]? = some a ∧ R a v := by
  induction h with
  | nil => simp at hv
  | snoc h r ih =>
    rename_i l vs a w
    by_cases hi : i < vs.length
    · rw [List.getElem?_append_left hi] at hv
      obtain ⟨b, hb, hr⟩ := ih hv
      exact ⟨b, by rw [List.getElem?_append_left (by rw [h.len]; exact hi)]; exact hb, hr⟩
    · have hlt := (List.getElem?_eq_some_iff.mp hv).1
      have : i = vs.length := by simp at hlt; lia
      subst this
      rw [List.getElem?_append_right (Nat.le_refl _)] at hv
      simp at hv
      subst hv
      exact ⟨a, by rw [List.getElem?_append_right (by rw [h.len]; exact Nat.le_refl _), h.len]; simp, r⟩
noncomputable def tshow : Tree → Option Str
  | .text s => some s
  | .whole n => some (Str.ofString " " ++ figs n ++ Str.ofString " ")
  | .fn => none
noncomputable def ipart : Item → Option Part
  | .zone => some .zone
  | .glue => some .glue
  | .tab n => some (.tab n)
  | .spc n => some (.spc n)
  | .value t => (tshow t).map .text
theorem txts_len {s : Str} (h : s ∈ txts) : s.length ≤ 5 := by
  have : ∀ s ∈ txts, s.length ≤ 5 := by decide +kernel
  exact this s h
theorem tshow_len {Γ : Led} {t : Tree} {v : AV} {s : Str} (h : TR Γ t v) (e : tshow t = some s) : s.length ≤ 5 := by
  cases h with
  | text h => cases e; exact txts_len h
  | whole h0 h1 =>
    rename_i n
    cases e
    have := figs_len n
    rw [slen_append, slen_append, sl_blank]; lia
  | fn h => cases e
theorem ipart_ok {Γ : Led} {a : Item} {v : AV} {p : Part} (h : IR Γ a v) (e : ipart a = some p) : p.ok := by
  cases h with
  | zone => cases e; trivial
  | glue => cases e; trivial
  | tab h0 h1 => cases e; exact ⟨h0, by lia⟩
  | spc h0 h1 => cases e; exact ⟨h0, by lia⟩
  | value h =>
    obtain ⟨s, hs, rfl⟩ := Option.map_eq_some_iff.mp e
    have := tshow_len h hs
    show s.length ≤ 300
    lia
theorem C_pparts (I : In c (KF W) D) (hD : D ≤ 840) {A : Ad} {n : Nat} (R : RS A n Γ) {il : Addr} {items : List Item} {vs : List AV} (li : Lk il Γ (.list vs)) (F : F2 (IR Γ) items vs) (hn : vs.length ≤ 4) (U : Up A.aq (.lst (n + 1)) Γ Γu)
    (q : ∀ r (ps : List Part), items.map ipart = ps.map some → Q (.ref r) ((r, .list (ps.map Part.av)) :: Γ)) (e : (∃ a ∈ items, ipart a = none) → E (Str.ofString "UF") Γu) : HC c (.ref 566) [.ref A.ru, .ref il] Γ Q E := by
  refine HC_subE ?_
  have R' := R
  obtain ⟨l1, l2, l3, l4, l5, l6, l7, hn'⟩ := R
  (refine' HC_fn (by assumption) fn_566 ?hx ?hD ?hbind ?hcell ?hloc ?hrev ?hρ ?hnod ?hco ?q; walk_at "h_in"; intro c1 I1 hs1 hc1); clear I
  walk_at "h_go"
  intro fl
  walk_at "h_go"
  refine HS_For I1.G (fun _ => rfl) ?_
  walk_at "h_go"
  refine ⟨_, _, _, fun i ρ' Γ' => ∃ (ps : List Part) (o : Option AV), Γ' = (fl, .list (ps.map Part.av)) :: Γ ∧ ρ' = [(Str.ofString "run", some (.ref A.ru)), (Str.ofString "items", some (.ref il)), (Str.ofString "found", some (.ref fl)), (Str.ofString "item", o)] ∧ (items.take i).map ipart = ps.map some ∧ ps.length = i ∧ i ≤ vs.length,
    srcList I1.G, ⟨[], none, rfl, rfl, rfl, rfl, by lia⟩, fun i ρ' Γ' ⟨l, o, h, _⟩ => by subst h; exact .there li, .inl fun _ _ => rfl, ?_, ?_⟩
  · rintro it i x ρ' Γ' hx' ⟨ps, o, rfl, rfl, hps, hpl, hi⟩
    obtain ⟨a, ha, hr⟩ := F.get hx'
    have hlt := (List.getElem?_eq_some_iff.mp hx').1
    have hpn : (ps.map Part.av).length ≤ 9 := by simp; lia
    have step : ∀ p, ipart a = some p → (items.take (i + 1)).map ipart = (ps ++ [p]).map some := fun p hp => by
      rw [List.take_add_one, ha, List.map_append, hps]; simp [hp]
    have fin : ∀ p, ipart a = some p → ∃ (ps' : List Part) (o : Option AV), (fl, AO.list (ps.map Part.av ++ [p.av])) :: Γ = (fl, .list (ps'.map Part.av)) :: Γ ∧ [(Str.ofString "run", some (AV.ref A.ru)), (Str.ofString "items", some (.ref il)), (Str.ofString "found", some (.ref fl)), (Str.ofString "item", some x)] = [(Str.ofString "run", some (.ref A.ru)), (Str.ofString "items", some (.ref il)), (Str.ofString "found", some (.ref fl)), (Str.ofString "item", o)] ∧ (items.take (i + 1)).map ipart = ps'.map some ∧ ps'.length = i + 1 ∧ i + 1 ≤ vs.length := fun p hp =>
      ⟨ps ++ [p], some x, by simp, rfl, step p hp, by simp [hpl], hlt⟩
    cases hr with
    | zone => walk_at "h_go"; exact ⟨_, .refl, fin .zone rfl⟩
    | glue => walk_at "h_go"; exact ⟨_, .refl, fin .glue rfl⟩
    | tab h0 h1 =>
      walk_at "h_go"
      refine C_whole I1 (dle hD rfl) R'.push.push (by lia) (by lia) ?_
      walk_at "h_go"
      exact ⟨_, .refl, fin (.tab _) rfl⟩
    | spc h0 h1 =>
      walk_at "h_go"
      refine C_whole I1 (dle hD rfl) R'.push.push (by lia) (by lia) ?_
      walk_at "h_go"
      exact ⟨_, .refl, fin (.spc _) rfl⟩
    | value ht =>
      cases ht with
      | text hs =>
        walk_at "h_go"
        refine C_rworth I1 (dle hD rfl) R'.push.push (.text _) ?_
        walk_at "h_go"
        refine C_shown_str I1 (dle hD rfl) ?_
        walk_at "h_go"
        exact ⟨_, .refl, fin (.text _) rfl⟩
      | whole h0 h1 =>
        walk_at "h_go"
        refine C_rworth I1 (dle hD rfl) R'.push.push (.whole (by lia) (by lia)) ?_
        walk_at "h_go"
        refine C_shown_int I1 (dle hD rfl) (by lia) (by lia) ?_
        walk_at "h_go"
        exact ⟨_, .refl, fin (.text _) rfl⟩
      | fn hl =>
        walk_at "h_go"
        exact C_rworth_fn I1 (dle hD rfl) R'.push.push (.there (.there hl)) (.there (.there U)) ⟨Γu, by walk_at "h_sb", e ⟨_, List.mem_of_getElem? ha, rfl⟩⟩
  · rintro ρ' Γ' ⟨ps, o, rfl, rfl, hps, hpl, hi⟩
    rw [← F.len, List.take_length] at hps
    walk_at "h_go"
    exact q fl ps hps
end
section
variable {c : Cx} {D : Nat} {Γ Γ' Γu : Led} {Q : AV → Led → Prop} {E : EP} {W : Params} {po pg pd : Addr}
theorem prun_size {ps : List Part} (hp : ∀ p ∈ ps, p.ok) : ∀ {l l' : List Str} {r r' : Str} {B : Nat}, prun ps (l, r) = some (l', r') → (∀ x ∈ l, x.length ≤ B) → r.length + 1000 * ps.length ≤ B → l'.length ≤ l.length + ps.length ∧ (∀ x ∈ l', x.length ≤ B) ∧ r'.length ≤ r.length + 1000 * ps.length := by
  induction ps with
  | nil => intro l l' r r' B h hl hr; cases h; exact ⟨Nat.le_refl _, hl, Nat.le_refl _⟩
  | cons p ps ih =>
    intro l l' r r' B h hl hr
    unfold prun at h
    rw [List.foldlM_cons] at h
    obtain ⟨⟨l1, r1⟩, h1, h2⟩ := Option.bind_eq_some_iff.mp h
    have hs := pstep_size (hp p (.head _)) h1
    have hl1 : ∀ x ∈ l1, x.length ≤ B := by
      have hrB : r.length ≤ B := by lia
      cases p with
      | text s => cases h1; exact hl
      | zone => cases h1; exact hl
      | glue => cases h1; exact hl
      | tab n =>
        simp only [pstep] at h1
        split at h1
        · cases h1
        · split at h1
          · cases h1
            intro x hx
            rcases List.mem_append.mp hx with hx | hx
            · exact hl x hx
            · rw [List.mem_singleton.mp hx]; exact hrB
          · cases h1; exact hl
      | spc n =>
        simp only [pstep] at h1
        split at h1
        · cases h1
        · cases h1; exact hl
    rw [List.length_cons] at hr ⊢
    have := ih (fun p h => hp p (.tail _ h)) (B := B) h2 hl1 (by lia)
    refine ⟨by lia, this.2.1, by lia⟩
theorem sum_le {B : Nat} : ∀ {l : List Str}, (∀ x ∈ l, x.length ≤ B) → (l.map (·.length)).sum ≤ l.length * B
  | [], _ => by simp
  | a :: r, h => by
    have := sum_le (l := r) fun x hx => h x (.tail _ hx)
    have := h a (.head _)
    simp only [List.map_cons, List.sum_cons, List.length_cons]
    rw [Nat.succ_mul]; lia
theorem foldl_len (sep : Str) : ∀ (l : List Str) (a : Nat), l.foldl (fun a x => a + x.length + sep.length) a = a + (l.map (·.length)).sum + l.length * sep.length
  | [], a => by simp
  | x :: r, a => by
    rw [List.foldl_cons, foldl_len sep r]
    simp only [List.map_cons, List.sum_cons, List.length_cons, Nat.succ_mul]; lia
theorem join_ok {sep : Str} {l : List Str} {B : Nat} (h : ∀ x ∈ l, x.length ≤ B) (hl : l.length ≤ 100) (hB : B ≤ 100000) (hs : sep.length ≤ 1) : JoinOk sep l = true ∧ (Txt.join sep l).length ≤ l.length * (B + 1) := by
  have h1 := sum_le h
  have h3 : l.length * sep.length ≤ l.length := by have := Nat.mul_le_mul_left l.length hs; lia
  have h4 : l.length * B ≤ 100 * 100000 := Nat.mul_le_mul hl hB
  constructor
  · unfold JoinOk
    rw [← Array.foldl_toList]
    have := foldl_len sep l 0
    simp only [Builtin.Str.tooLong, Bool.not_eq_true', decide_eq_false_iff_not] at this ⊢
    rw [this, sizeLine_eq]
    lia
  · have := StrLaws.join_length_le sep l
    rw [Nat.mul_add]
    show (Builtin.Str.glued sep l).length ≤ _
    rw [StrLaws.glued_eq_join]
    lia
theorem mO_some {α β : Type} {f : α → Option β} : ∀ {l : List α} {ps : List β}, l.map f = ps.map some → l.length = ps.length ∧ ∀ p ∈ ps, ∃ a ∈ l, f a = some p
  | [], [], _ => ⟨rfl, fun p h => by cases h⟩
  | [], p :: ps, h => by simp at h
  | a :: l, [], h => by simp at h
  | a :: l, p :: ps, h => by
    simp only [List.map_cons, List.cons.injEq] at h
    obtain ⟨h1, h2⟩ := mO_some h.2
    refine ⟨by simp [h1], fun q hq => ?_⟩
    rcases List.mem_cons.mp hq with rfl | hq
    · exact ⟨a, .head _, h.1⟩
    · obtain ⟨b, hb, e⟩ := h2 q hq
      exact ⟨b, .tail _ hb, e⟩
theorem F2.mem {α : Type} {R : α → AV → Prop} {l : List α} {vs : List AV} (h : F2 R l vs) {a : α} (ha : a ∈ l) : ∃ v, R a v := by
  induction h with
  | nil => cases ha
  | snoc _ r ih =>
    rcases List.mem_append.mp ha with ha | ha
    · exact ih ha
    · rw [List.mem_singleton.mp ha]; exact ⟨_, r⟩
/-- how a page is left -/
noncomputable def pfin (ps : List Part) (s : List Str × Str) : List Str × Str := if pends ps = true then (s.1 ++ [s.2], Str.ofString "") else s
/-- what a page adds to a file -/
noncomputable def padd (l : List Str × Str) (u : Str) : Str := Txt.slice (pjoin l.1 ++ l.2) (some (u.length : Int)) none
theorem slice_len (x : Str) (lo hi : Option Int) : (Txt.slice x lo hi).length ≤ x.length := by
  exact Txt.slice_le x lo hi
theorem C_print {n' : Nat} (I : In c (KF W) D) (hD : D ≤ 820) {A : Ad} {t : Str × Str} (R : RS A n' Γ) (F : FS A t Γ) {n : Int} {il : Addr} {items : List Item} {vs : List AV} (h0 : 1 ≤ n) (h1 : n ≤ 4) (li : Lk il Γ (.list vs)) (FI : F2 (IR Γ) items vs) (hn : vs.length ≤ 4) (U : Up A.aq (.lst (n' + 1)) Γ Γu)
    (hu : (unf (fget n t)).length ≤ 50000) (hz : t.1.length + t.2.length ≤ 1000000)
    (q : n = 1 ∨ n = 2 → ∀ (ps : List Part) l r, items.map ipart = ps.map some → prun ps ([], unf (fget n t)) = some (l, r) → ∀ Γ', FS A (fput n (padd (pfin ps (l, r)) (unf (fget n t))) t) Γ' → Mo [A.fa, A.m1, A.m2] Γ Γ' → Q .none Γ')
    (e3 : n = 3 → E (Str.ofString "BM") Γ) (e4 : n = 4 → E (Str.ofString "BN") Γ) (eu : n = 1 ∨ n = 2 → (∃ a ∈ items, ipart a = none) → E (Str.ofString "UF") Γu) (ef : n = 1 ∨ n = 2 → ∀ ps : List Part, items.map ipart = ps.map some → prun ps ([], unf (fget n t)) = none → E (Str.ofString "FC") Γ) :
    HC c (.ref 599) [.ref A.ru, .tup [.str (Str.ofString "PRINT"), chA n, .ref il]] Γ Q E := by
  refine HC_subE ?_
  (refine' HC_fn (by assumption) fn_599 ?hx ?hD ?hbind ?hcell ?hloc ?hrev ?hρ ?hnod ?hco ?q; walk_at "h_in"; intro c1 I1 hs1 hc1); clear I
  walk_at "h_go"
  refine C_told I1 (dle hD rfl) R F h0 h1 (fun hc => ?_) (fun hc => ⟨Γ, .refl, e3 hc⟩) (fun hc => ⟨Γ, .refl, e4 hc⟩)
  walk_at "h_go"
  refine C_pparts I1 (dle hD rfl) R li FI hn U (fun pl ps hps => ?_) fun ha => ⟨Γu, .refl, eu hc ha⟩
  walk_at "h_go"
  refine C_fpage I1 (dle hD rfl) R.push F.push hc fun po pg pd => ?_
  have hpo : ∀ p ∈ ps, p.ok := fun p hp => by
    obtain ⟨a, ha, e⟩ := (mO_some hps).2 p hp
    obtain ⟨v, hv⟩ := FI.mem ha
    exact ipart_ok hv e
  have hpl : ps.length ≤ 4 := by rw [← (mO_some hps).1, FI.len]; exact hn
  walk_at "h_go"
  refine C_parts I1 (dle hD rfl) (l0 := []) hpo (by lia) (by simp) (by lia) .here (fun l r hr => ?_) fun hr => ⟨Γ, by walk_at "h_sb", ef hc ps hps hr⟩
  have hs := prun_size hpo (B := 60000) hr (by simp) (by lia)
  have hs1 := hs.1
  simp only [List.length_nil, Nat.zero_add] at hs1
  have qq := q hc ps l r hps hr
  have ei : (if pends ps = true then PgL po pg pd (strsOf (l ++ [r])) (Str.ofString "") ((pl, AO.list (List.map Part.av ps)) :: Γ) else PgL po pg pd (strsOf l) r ((pl, AO.list (List.map Part.av ps)) :: Γ)) = PgL po pg pd (strsOf (pfin ps (l, r)).1) (pfin ps (l, r)).2 ((pl, AO.list (List.map Part.av ps)) :: Γ) := by unfold pfin; split <;> rfl
  rw [ei]
  have hb : (pfin ps (l, r)).1.length ≤ 5 ∧ (∀ x ∈ (pfin ps (l, r)).1, x.length ≤ 60000) ∧ (pfin ps (l, r)).2.length ≤ 60000 := by
    unfold pfin
    split
    · refine ⟨by simp; lia, fun x hx => ?_, by rw [sl_no]; lia⟩
      rcases List.mem_append.mp hx with hx | hx
      · exact hs.2.1 x hx
      · rw [List.mem_singleton.mp hx]; show r.length ≤ _; lia
    · exact ⟨by show l.length ≤ _; lia, hs.2.1, by show r.length ≤ _; lia⟩
  generalize pfin ps (l, r) = w at hb qq
  obtain ⟨l', r'⟩ := w
  dsimp only at hb qq ⊢
  have hjj := join_ok (sep := Str.ofString "") (l := l'.map (· ++ Str.ofString "\n")) (B := 60001) (by
    intro x hx
    obtain ⟨y, hy, rfl⟩ := List.mem_map.mp hx
    have := hb.2.1 y hy
    rw [slen_append, sl_row]; lia) (by simp; lia) (by lia) (by rw [sl_no]; lia)
  have hpj : (pjoin l').length ≤ 400000 := Nat.le_trans hjj.2 (by simp; lia)
  have hsl : (padd (l', r') (unf (fget n t))).length ≤ 2000000 := Nat.le_trans (slice_len ..) (by rw [slen_append]; show (pjoin l').length + r'.length ≤ _; lia)
  walk_at "h_go"
  refine C_wpage I1 (dle hD rfl) R.push F.push hc (by lia) (fun x hx => Nat.le_trans (hb.2.1 x hx) (by lia)) hjj.1 (by lia) (by lia) (by lia) hz hsl fun Γ' F' M => ?_
  walk_at "h_go"
  exact qq _ F' M.n
end
section
variable {c : Cx} {D : Nat} {Γ Γ' Γu : Led} {Q : AV → Led → Prop} {E : EP} {W : Params} {po pg pd : Addr}
noncomputable def tval : Tree → Option AV
  | .text s => some (.str s)
  | .whole n => some (.int n)
  | .fn => none
noncomputable def wtold : Tree → Option Str
  | .text s => some (Str.ofString "\"" ++ s ++ Str.ofString "\"")
  | .whole n => some (Txt.stripChars (Str.ofString " " ++ figs n ++ Str.ofString " ") (Str.ofString " "))
  | .fn => none
theorem map_snoc {α β : Type} {f : α → Option β} {l : List α} {ys : List β} {i : Nat} {a : α} {y : β} (h : (l.take i).map f = ys.map some) (ha : l[i]? = some a) (hy : f a = some y) : (l.take (i + 1)).map f = (ys ++ [y]).map some := by
  rw [List.take_add_one, ha, List.map_append, h]; simp [hy]
theorem map_get {α β : Type} {f : α → Option β} {l : List α} {ys : List β} {i : Nat} {y : β} (h : l.map f = ys.map some) (hy : ys[i]? = some y) : ∃ a, l[i]? = some a ∧ f a = some y := by
  have h1 : (l.map f)[i]? = some (some y) := by rw [h, List.getElem?_map, hy]; rfl
  rw [List.getElem?_map, Option.map_eq_some_iff] at h1
  exact h1
theorem small {P : Int → Prop} (h : ∀ k : Fin 20, P ((k.val : Nat) : Int)) {n : Int} (h0 : 0 ≤ n) (h1 : n < 20) : P n := by
  have := h ⟨n.toNat, by lia⟩
  simpa [Int.toNat_of_nonneg h0] using this
theorem strip_figs {n : Int} (h0 : 0 ≤ n) (h1 : n < 20) : Txt.stripChars (Str.ofString " " ++ figs n ++ Str.ofString " ") (Str.ofString " ") = figs n :=
  small (P := fun n => Txt.stripChars (Str.ofString " " ++ figs n ++ Str.ofString " ") (Str.ofString " ") = figs n) (by decide +kernel) h0 h1
theorem figs_str {n : Int} (h0 : 0 ≤ n) (h1 : n < 20) : Str.ofString (toString n) = figs n :=
  small (P := fun n => Str.ofString (toString n) = figs n) (by decide +kernel) h0 h1
theorem wtold_len {Γ : Led} {t : Tree} {v : AV} {s : Str} (h : TR Γ t v) (e : wtold t = some s) : s.length ≤ 10 := by
  cases h with
  | text h => cases e; have := txts_len h; rw [slen_append, slen_append, sl_quote]; lia
  | whole h0 h1 =>
    rename_i n
    cases e
    have := figs_len n
    rw [strip_figs h0 h1]; lia
  | fn h => cases e
theorem C_write {n' : Nat} (I : In c (KF W) D) (hD : D ≤ 820) {A : Ad} {t : Str × Str} (R : RS A n' Γ) (F : FS A t Γ) {n : Int} {tl : Addr} {trees : List Tree} {vs : List AV} (h0 : 1 ≤ n) (h1 : n ≤ 4) (lt : Lk tl Γ (.list vs)) (FT : F2 (TR Γ) trees vs) (hn : vs.length ≤ 3) (U : Up A.aq (.lst (n' + 1)) Γ Γu)
    (hz : t.1.length + t.2.length ≤ 1000000)
    (q : n = 1 ∨ n = 2 → ∀ ws : List Str, trees.map wtold = ws.map some → ∀ Γ', FS A (fput n (Txt.join (Str.ofString ",") ws ++ Str.ofString "\n") t) Γ' → Mo [A.fa, A.m1, A.m2] Γ Γ' → Q .none Γ')
    (e3 : n = 3 → E (Str.ofString "BM") Γ) (e4 : n = 4 → E (Str.ofString "BN") Γ) (eu : n = 1 ∨ n = 2 → (∃ a ∈ trees, tval a = none) → E (Str.ofString "UF") Γu) :
    HC c (.ref 609) [.ref A.ru, .tup [.str (Str.ofString "WRITE"), chA n, .ref tl]] Γ Q E := by
  refine HC_subE ?_
  (refine' HC_fnc (by assumption) fn_609 ?hx ?hD ?hbind ?hcs ?hloc ?hxc ?hrev ?hρ ?hρl ?hnod ?hxa ?hco ?q; walk_at "h_inc"; intro c1 a1 I1 hs1 hc1); clear I
  walk_at "h_go"
  refine C_told I1 (dle hD rfl) R.push F.push h0 h1 (fun hc => ?_) (fun hc => ⟨Γ, .tail, e3 hc⟩) (fun hc => ⟨Γ, .tail, e4 hc⟩)
  have r1 := R.ru
  have r2 := R.rd
  walk_at "h_go"
  refine ⟨_, _, _, fun i ys Γ' => Γ' = (a1, .cell (some (.ref A.ru))) :: Γ ∧ (trees.take i).map tval = ys.map some ∧ i ≤ vs.length ∧ ys.length = i, srcList I1.G, ⟨rfl, rfl, Nat.zero_le _, rfl⟩, ⟨fun i ys Γ' ⟨h1, h2, h3, h4⟩ => ⟨by subst h1; exact .there lt, by lia⟩, ?_⟩, ?_⟩
  · rintro i v ys Γ' hv ⟨rfl, hys, hi, hyl⟩ c' it l' I' hs' hc'
    obtain ⟨a, ha, hr⟩ := FT.get hv
    have hlt := (List.getElem?_eq_some_iff.mp hv).1
    walk_at "h_go"
    cases hr with
    | text hs =>
      refine C_rworth I' (dle hD rfl) R.push.push.push (.text _) ?_
      walk_at "h_go"
      exact ⟨_, .refl, rfl, map_snoc hys ha rfl, hlt, by simp [hyl]⟩
    | whole h0 h1 =>
      refine C_rworth I' (dle hD rfl) R.push.push.push (.whole (by lia) (by lia)) ?_
      walk_at "h_go"
      exact ⟨_, .refl, rfl, map_snoc hys ha rfl, hlt, by simp [hyl]⟩
    | fn hl =>
      exact C_rworth_fn I' (dle hD rfl) R.push.push.push (.there (.there (.there hl))) (.there (.there (.there U))) ⟨Γu, by walk_at "h_sb", eu hc ⟨_, List.mem_of_getElem? ha, rfl⟩⟩
  · rintro vl ys Γ' ⟨rfl, hys, hi, hyl⟩
    rw [← FT.len, List.take_length] at hys
    walk_at "h_go"
    refine ⟨_, _, _, fun i zs Γ' => Γ' = (vl, .list ys) :: (a1, .cell (some (.ref A.ru))) :: Γ ∧ ∃ ws : List Str, zs = strsOf ws ∧ (trees.take i).map wtold = ws.map some ∧ i ≤ ys.length ∧ ws.length = i, srcList I1.G, ⟨rfl, [], rfl, rfl, Nat.zero_le _, rfl⟩, ⟨fun i ys Γ' ⟨h1, ws, h2, h3, h4, h5⟩ => ⟨by subst h1; exact .here, by subst h2; simp [strsOf]; lia⟩, ?_⟩, ?_⟩
    · rintro i v zs Γ' hv ⟨rfl, ws, rfl, hws, hi', hwl⟩ c' it l' I' hs' hc'
      obtain ⟨a, ha, hav⟩ := map_get hys hv
      obtain ⟨w, hw⟩ := FT.mem (List.mem_of_getElem? ha)
      have hlt := (List.getElem?_eq_some_iff.mp hv).1
      cases hw with
      | text hs =>
        cases hav
        have := txts_len hs
        walk_at "h_go"
        exact ⟨_, .refl, rfl, _, (strs_snoc _ _).symm, map_snoc hws ha rfl, hlt, by simp [hwl]⟩
      | whole h0 h1 =>
        rename_i m
        cases hav
        have := figs_len m
        walk_at "h_go"
        refine C_shown_int I' (dle hD rfl) (by lia) (by lia) ?_
        walk_at "h_go"
        exact ⟨_, .refl, rfl, _, (strs_snoc _ _).symm, map_snoc hws ha rfl, hlt, by simp [hwl]⟩
      | fn hl => cases hav
    · rintro wl zs Γ' ⟨rfl, ws, rfl, hws, hi', hwl⟩
      have htl : trees.length = ys.length := (mO_some hys).1
      rw [← htl, List.take_length] at hws
      have hwb : ∀ x ∈ ws, x.length ≤ 10 := fun x hx => by
        obtain ⟨a, ha, e⟩ := (mO_some hws).2 x hx
        obtain ⟨v, hv⟩ := FT.mem ha
        exact wtold_len hv e
      have hws3 : ws.length ≤ 3 := by rw [← (mO_some hws).1, FT.len]; exact hn
      have hj := join_ok (sep := Str.ofString ",") hwb (by lia) (by lia) (by rw [sl_comma]; lia)
      have hj1 := hj.1
      have hj2 : (Txt.join (Str.ofString ",") ws).length ≤ 40 := Nat.le_trans hj.2 (by lia)
      walk_at "h_go"
      refine C_wrow I1 (dle hD rfl) R.push.push.push F.push.push.push hc (by lia) fun Γ' F' M => ?_
      walk_at "h_go"
      exact q hc ws hws _ F' M.n.n.n
end
section
variable {c : Cx} {D : Nat} {Γ Γ' Γu : Led} {Q : AV → Led → Prop} {E : EP} {W : Params} {po pg pd : Addr}
noncomputable abbrev pic : Str := Str.ofString "<&>"
theorem C_begins (I : In c (KF W) D) (hD : D ≤ 920) {n : Int} (h : n = 0 ∨ n = 1 ∨ n = 2) (q : Q (.bool false) Γ) : HC c (.ref 442) [.str pic, .int n] Γ Q E := by
  have hp : pic.length = 3 := by decide +kernel
  (refine' HC_fn (by assumption) fn_442 ?hx ?hD ?hbind ?hcell ?hloc ?hrev ?hρ ?hnod ?hco ?q; walk_at "h_in"; intro c1 I1 hs1 hc1); clear I
  rcases h with rfl | rfl | rfl <;> walk_at "h_go" <;> exact q
theorem C_piece0 (I : In c (KF W) D) (hD : D ≤ 900) (q : Q (.tup [.none, .int 1]) Γ) : HC c (.ref 477) [.str pic, .int 0] Γ Q E := by
  have hp : pic.length = 3 := by decide +kernel
  (refine' HC_fn (by assumption) fn_477 ?hx ?hD ?hbind ?hcell ?hloc ?hrev ?hρ ?hnod ?hco ?q; walk_at "h_in"; intro c1 I1 hs1 hc1); clear I
  walk_at "h_go"
  refine C_begins I1 (dle hD rfl) (by lia) ?_
  walk_at "h_go"
  refine HS_WhileN I1.G 0 ?_
  show HT _ _ _ _ _ _
  walk_at "h_go"
  exact q
theorem C_piece1 (I : In c (KF W) D) (hD : D ≤ 900) (q : Q (.tup [.tup [.str (Str.ofString "whole")], .int 2]) Γ) : HC c (.ref 477) [.str pic, .int 1] Γ Q E := by
  have hp : pic.length = 3 := by decide +kernel
  (refine' HC_fn (by assumption) fn_477 ?hx ?hD ?hbind ?hcell ?hloc ?hrev ?hρ ?hnod ?hco ?q; walk_at "h_in"; intro c1 I1 hs1 hc1); clear I
  walk_at "h_go"
  refine C_begins I1 (dle hD rfl) (by lia) ?_
  walk_at "h_go"
  exact q
theorem C_piece2 (I : In c (KF W) D) (hD : D ≤ 900) (q : Q (.tup [.none, .int 3]) Γ) : HC c (.ref 477) [.str pic, .int 2] Γ Q E := by
  have hp : pic.length = 3 := by decide +kernel
  (refine' HC_fn (by assumption) fn_477 ?hx ?hD ?hbind ?hcell ?hloc ?hrev ?hρ ?hnod ?hco ?q; walk_at "h_in"; intro c1 I1 hs1 hc1); clear I
  walk_at "h_go"
  refine C_begins I1 (dle hD rfl) (by lia) ?_
  walk_at "h_go"
  refine HS_WhileN I1.G 0 ?_
  show HT _ _ _ _ _ _
  walk_at "h_go"
  exact q
noncomputable abbrev pcs : List AV := [.tup [.str (Str.ofString "plain"), .str (Str.ofString "<")], .tup [.str (Str.ofString "whole")], .tup [.str (Str.ofString "plain"), .str (Str.ofString ">")]]
theorem C_pieces (I : In c (KF W) D) (hD : D ≤ 890) (q : ∀ r, Q (.ref r) ((r, .list pcs) :: Γ)) : HC c (.ref 470) [.str pic] Γ Q E := by
  have hp : pic.length = 3 := by decide +kernel
  have hl0 : (Str.ofString "").length = 0 := by decide +kernel
  have hi0 : (Txt.item pic (1 - 1)).length = 1 := by decide +kernel
  have hi2 : (Txt.item pic (3 - 1)).length = 1 := by decide +kernel
  refine HC_sub ?_
  (refine' HC_fn (by assumption) fn_470 ?hx ?hD ?hbind ?hcell ?hloc ?hrev ?hρ ?hnod ?hco ?q; walk_at "h_in"; intro c1 I1 hs1 hc1); clear I
  walk_at "h_go"
  intro fl
  walk_at "h_go"
  refine HS_WhileN I1.G 3 ?_
  show HT _ _ _ _ _ _
  walk_at "h_go"
  refine C_piece0 I1 (dle hD rfl) ?_
  walk_at "h_go"
  show HT _ _ _ _ _ _
  walk_at "h_go"
  refine C_piece1 I1 (dle hD rfl) ?_
  walk_at "h_go"
  intro a
  walk_at "h_go"
  show HT _ _ _ _ _ _
  walk_at "h_go"
  refine C_piece2 I1 (dle hD rfl) ?_
  walk_at "h_go"
  show HT _ _ _ _ _ _
  walk_at "h_go"
  intro b
  walk_at "h_go"
  intro r
  walk_at "h_go"
  have e1 : Str.ofString "" ++ Txt.item pic (1 - 1) = Str.ofString "<" := by decide +kernel
  have e3 : Str.ofString "" ++ Txt.item pic (3 - 1) = Str.ofString ">" := by decide +kernel
  rw [e1, e3]
  exact ⟨_, .cons (.trans (.trans .tail .tail) .tail), q r⟩
end
section
variable {c : Cx} {D : Nat} {Γ Γ' Γu : Led} {Q : AV → Led → Prop} {E : EP} {W : Params} {po pg pd : Addr}
theorem C_plain {x : Str} (I : In c (KF W) D) (hD : D ≤ 920) (q : Q (.bool true) Γ) : HC c (.ref 547) [.tup [.str (Str.ofString "plain"), .str x]] Γ Q E := by
  (refine' HC_fn (by assumption) fn_547 ?hx ?hD ?hbind ?hcell ?hloc ?hrev ?hρ ?hnod ?hco ?q; walk_at "h_in"; intro c1 I1 hs1 hc1); clear I
  walk_at "h_go" <;> exact q
theorem C_plain1 (I : In c (KF W) D) (hD : D ≤ 920) (q : Q (.bool false) Γ) : HC c (.ref 547) [.tup [.str (Str.ofString "whole")]] Γ Q E := by
  (refine' HC_fn (by assumption) fn_547 ?hx ?hD ?hbind ?hcell ?hloc ?hrev ?hρ ?hnod ?hco ?q; walk_at "h_in"; intro c1 I1 hs1 hc1); clear I
  walk_at "h_go" <;> exact q
theorem C_vby {x : Str} (I : In c (KF W) D) (hD : D ≤ 920) (q : Q (.str x) Γ) : HC c (.ref 540) [.tup [.str (Str.ofString "whole")], .str x] Γ Q E := by
  (refine' HC_fn (by assumption) fn_540 ?hx ?hD ?hbind ?hcell ?hloc ?hrev ?hρ ?hnod ?hco ?q; walk_at "h_in"; intro c1 I1 hs1 hc1); clear I
  walk_at "h_go"
  refine HC_isi_tup_cls I1 (by kernel_rfl) (by kernel_rfl) (by kernel_rfl) ?_
  walk_at "h_go"
  exact q
theorem C_vby_no {x : Int} (I : In c (KF W) D) (hD : D ≤ 920) (e : E "TM" Γ) : HC c (.ref 540) [.tup [.str (Str.ofString "whole")], .int x] Γ Q E := by
  (refine' HC_fn (by assumption) fn_540 ?hx ?hD ?hbind ?hcell ?hloc ?hrev ?hρ ?hnod ?hco ?q; walk_at "h_in"; intro c1 I1 hs1 hc1); clear I
  walk_at "h_go"
  refine HC_isi_tup_cls I1 (by kernel_rfl) (by kernel_rfl) (by kernel_rfl) ?_
  walk_at "h_go"
  exact e
noncomputable def ustep (f s : Str) : Str := ((f ++ Str.ofString "<") ++ s) ++ Str.ofString ">"
noncomputable def usT (ss : List Str) : Str := ss.foldl ustep (Str.ofString "")
theorem usT_snoc {vs : List AV} {i : Nat} {ss : List Str} {s : Str} (h : vs.take i = strsOf ss) (hs : vs[i]? = some (.str s)) : vs.take (i + 1) = strsOf (ss ++ [s]) ∧ usT (ss ++ [s]) = ustep (usT ss) s := by
  refine ⟨?_, ?_⟩
  · rw [List.take_add_one, h, hs]; simp [strsOf]
  · unfold usT; rw [List.foldl_append]; rfl
theorem C_using (I : In c (KF W) D) (hD : D ≤ 880) {vs : List AV} {vl : Addr} (lv : Lk vl Γ (.list vs)) (hn : 1 ≤ vs.length) (hn2 : vs.length ≤ 3) (hv : ∀ v ∈ vs, (∃ s, v = .str s ∧ s.length ≤ 5) ∨ ∃ n, v = .int n)
    (q : ∀ ss, vs = strsOf ss → Q (.str (usT ss)) Γ) (e : (∃ n, .int n ∈ vs) → E (Str.ofString "TM") Γ) : HC c (.ref 552) [.str pic, .ref vl] Γ Q E := by
  have hl0 : (Str.ofString "").length = 0 := by decide +kernel
  refine HC_sub (HC_subE ?_)
  (refine' HC_fn (by assumption) fn_552 ?hx ?hD ?hbind ?hcell ?hloc ?hrev ?hρ ?hnod ?hco ?q; walk_at "h_in"; intro c1 I1 hs1 hc1); clear I
  walk_at "h_go"
  refine C_pieces I1 (dle hD rfl) fun r => ?_
  walk_at "h_go"
  refine ⟨_, _, _, fun i ys Γ' => Γ' = (r, .list pcs) :: Γ ∧ i ≤ 3 ∧ ys = if i ≤ 1 then [] else [.tup [.str (Str.ofString "whole")]], srcList I1.G, ⟨rfl, by lia, rfl⟩, ⟨fun i ys Γ' ⟨h1, h2, h3⟩ => ⟨by subst h1; exact .here, by subst h3; split <;> simp⟩, ?_⟩, ?_⟩
  · rintro i v ys Γ' hv' ⟨rfl, hi, hys⟩ c' it l' I' hs' hc'
    have hi3 := (List.getElem?_eq_some_iff.mp hv').1
    have hi3 : i < 3 := hi3
    obtain rfl | rfl | rfl : i = 0 ∨ i = 1 ∨ i = 2 := by lia
    · cases hv'; subst hys
      walk_at "h_go"
      refine C_plain I' (dle hD rfl) ?_
      walk_at "h_go"
      exact ⟨_, .refl, rfl, by lia, rfl⟩
    · cases hv'; subst hys
      walk_at "h_go"
      refine C_plain1 I' (dle hD rfl) ?_
      walk_at "h_go"
      exact ⟨_, .refl, rfl, by lia, rfl⟩
    · cases hv'; subst hys
      walk_at "h_go"
      refine C_plain I' (dle hD rfl) ?_
      walk_at "h_go"
      exact ⟨_, .refl, rfl, by lia, rfl⟩
  · rintro vl' ys Γ' ⟨rfl, hi, hys⟩
    have hys : ys = [.tup [.str (Str.ofString "whole")]] := hys
    subst hys
    walk_at "h_go"
    refine HS_While I1.G (fun k ρ' Γ' => ∃ ss o, Γ' = (vl', .list [.tup [.str (Str.ofString "whole")]]) :: (r, .list pcs) :: Γ ∧ ρ' = [(Str.ofString "text", some (.str pic)), (Str.ofString "values", some (.ref vl)), (Str.ofString "pieces", some (.ref r)), (Str.ofString "found", some (.str (usT ss))), (Str.ofString "at", some (.int ss.length)), (Str.ofString "piece", o)] ∧ vs.take ss.length = strsOf ss ∧ k + ss.length = vs.length ∧ 1 ≤ k ∧ (usT ss).length ≤ 10 * ss.length) vs.length ⟨[], _, rfl, rfl, rfl, rfl, hn, by decide +kernel⟩ ?_
    rintro k ρ' Γ' ⟨ss, o, rfl, rfl, hss, hk, hk1, hfl⟩
    obtain ⟨v, hvi⟩ : ∃ v, vs[ss.length]? = some v := ⟨_, List.getElem?_eq_getElem (by lia)⟩
    rcases hv v (List.mem_of_getElem? hvi) with ⟨s, rfl, hs5⟩ | ⟨m, rfl⟩
    · have hf0 : (usT ss).length ≤ 1000 := by lia
      have hi1 : ((ss.length : Nat) : Int) < vs.length := by lia
      walk_at "h_go"
      refine HS_ForN I1.G (fun _ => rfl) (fun _ _ => rfl) ?_
      walk_at "h_go"
      refine ⟨pcs, _, _, srcList I1.G, ?_⟩
      refine fo_cons (.there .here) fun it => ?_
      walk_at "h_go"
      refine C_plain I1 (dle hD rfl) ?_
      walk_at "h_go"
      refine fo_cons (.there .here) fun it => ?_
      walk_at "h_go"
      refine C_plain1 I1 (dle hD rfl) ?_
      walk_at "h_go"
      refine C_vby I1 (dle hD rfl) ?_
      walk_at "h_go"
      refine fo_cons (.there .here) fun it => ?_
      walk_at "h_go"
      refine C_plain I1 (dle hD rfl) ?_
      walk_at "h_go"
      refine fo_nil (.there .here) ?_
      have hsn := usT_snoc hss hvi
      have hstep : usT ss ++ Str.ofString "<" ++ s ++ Str.ofString ">" = usT (ss ++ [s]) := hsn.2.symm
      have hlen2 : (usT (ss ++ [s])).length ≤ 10 * (ss ++ [s]).length := by rw [← hstep, List.length_append]; simp only [slen_append, sl_lt, sl_gt, List.length_cons, List.length_nil]; lia
      rw [hstep]
      walk_at "h_go"
      refine br_split (fun hb => ?_) fun hb => ?_
      · have hb : ((ss.length : Nat) : Int) + 1 = vs.length := by simpa using hb
        walk_at "h_go"
        refine ⟨Γ, by walk_at "h_sb", q (ss ++ [s]) ?_⟩
        rw [← hsn.1, List.take_of_length_le (by lia)]
      · have hb : ¬ ((ss.length : Nat) : Int) + 1 = vs.length := by simpa using hb
        walk_at "h_go"
        exact ⟨k - 1, _, by lia, .refl, ss ++ [s], _, rfl, by simp; rfl, by simpa using hsn.1, by simp; lia, by lia, hlen2⟩
    · have hf0 : (usT ss).length ≤ 1000 := by lia
      have hi1 : ((ss.length : Nat) : Int) < vs.length := by lia
      walk_at "h_go"
      refine HS_ForN I1.G (fun _ => rfl) (fun _ _ => rfl) ?_
      walk_at "h_go"
      refine ⟨pcs, _, _, srcList I1.G, ?_⟩
      refine fo_cons (.there .here) fun it => ?_
      walk_at "h_go"
      refine C_plain I1 (dle hD rfl) ?_
      walk_at "h_go"
      refine fo_cons (.there .here) fun it => ?_
      walk_at "h_go"
      refine C_plain1 I1 (dle hD rfl) ?_
      walk_at "h_go"
      refine C_vby_no I1 (dle hD rfl) ?_
      exact ⟨Γ, by walk_at "h_sb", e ⟨m, List.mem_of_getElem? hvi⟩⟩
end
section
variable {c : Cx} {D : Nat} {Γ Γ' Γu : Led} {Q : AV → Led → Prop} {E : EP} {W : Params} {po pg pd : Addr}
noncomputable def ufin (fl : Bool) (x : Str) : List Str × Str := if fl = true then ([], x) else ([x], Str.ofString "")
theorem usT_le {ss : List Str} : ∀ {f : Str}, (∀ s ∈ ss, s.length ≤ 5) → (ss.foldl ustep f).length ≤ f.length + 10 * ss.length := by
  induction ss with
  | nil => intro f _; simp
  | cons s ss ih =>
    intro f h
    have h1 := ih (f := ustep f s) fun x hx => h x (.tail _ hx)
    have h2 := h s (.head _)
    have h3 : (ustep f s).length = f.length + s.length + 2 := by unfold ustep; simp only [slen_append, sl_lt, sl_gt]; lia
    simp only [List.foldl_cons, List.length_cons]
    lia
theorem C_duse {n' : Nat} (I : In c (KF W) D) (hD : D ≤ 820) {A : Ad} {t : Str × Str} (R : RS A n' Γ) (F : FS A t Γ) {n : Int} {tl : Addr} {trees : List Tree} {vs : List AV} {fl : Bool} (h0 : 1 ≤ n) (h1 : n ≤ 4) (lt : Lk tl Γ (.list vs)) (FT : F2 (TR Γ) trees vs) (hn1 : 1 ≤ vs.length) (hn : vs.length ≤ 3) (U : Up A.aq (.lst (n' + 1)) Γ Γu)
    (hu : (unf (fget n t)).length ≤ 50000) (hz : t.1.length + t.2.length ≤ 1000000)
    (q : n = 1 ∨ n = 2 → ∀ ss : List Str, trees.map tval = ss.map (fun s => some (.str s)) → ∀ Γ', FS A (fput n (padd (ufin fl (unf (fget n t) ++ usT ss)) (unf (fget n t))) t) Γ' → Mo [A.fa, A.m1, A.m2] Γ Γ' → Q .none Γ')
    (e3 : n = 3 → E (Str.ofString "BM") Γ) (e4 : n = 4 → E (Str.ofString "BN") Γ) (eu : n = 1 ∨ n = 2 → (∃ a ∈ trees, tval a = none) → E (Str.ofString "UF") Γu) 
    (et : n = 1 ∨ n = 2 → (∀ a ∈ trees, tval a ≠ none) → (∃ a ∈ trees, ∃ m, a = .whole m) → E (Str.ofString "TM") Γ) :
    HC c (.ref 604) [.ref A.ru, .tup [.str (Str.ofString "USING"), chA n, .tup [.str (Str.ofString "text"), .str pic], .ref tl, .bool fl]] Γ Q E := by
  refine HC_subE ?_
  (refine' HC_fnc (by assumption) fn_604 ?hx ?hD ?hbind ?hcs ?hloc ?hxc ?hrev ?hρ ?hρl ?hnod ?hxa ?hco ?q; walk_at "h_inc"; intro c1 a1 I1 hs1 hc1); clear I
  walk_at "h_go"
  refine C_told I1 (dle hD rfl) R.push F.push h0 h1 (fun hc => ?_) (fun hc => ⟨Γ, .tail, e3 hc⟩) (fun hc => ⟨Γ, .tail, e4 hc⟩)
  have r1 := R.ru
  have r2 := R.rd
  walk_at "h_go"
  refine C_rworth I1 (dle hD rfl) R.push (.text _) ?_
  walk_at "h_go"
  refine C_text_of I1 (dle hD rfl) ?_
  walk_at "h_go"
  refine ⟨_, _, _, fun i ys Γ' => Γ' = (a1, .cell (some (.ref A.ru))) :: Γ ∧ (trees.take i).map tval = ys.map some ∧ i ≤ vs.length ∧ ys.length = i, srcList I1.G, ⟨rfl, rfl, Nat.zero_le _, rfl⟩, ⟨fun i ys Γ' ⟨h1, h2, h3, h4⟩ => ⟨by subst h1; exact .there lt, by lia⟩, ?_⟩, ?_⟩
  · rintro i v ys Γ' hv ⟨rfl, hys, hi, hyl⟩ c' it l' I' hs' hc'
    obtain ⟨a, ha, hr⟩ := FT.get hv
    have hlt := (List.getElem?_eq_some_iff.mp hv).1
    walk_at "h_go"
    cases hr with
    | text hs =>
      refine C_rworth I' (dle hD rfl) R.push.push.push (.text _) ?_
      walk_at "h_go"
      exact ⟨_, .refl, rfl, map_snoc hys ha rfl, hlt, by simp [hyl]⟩
    | whole h0 h1 =>
      refine C_rworth I' (dle hD rfl) R.push.push.push (.whole (by lia) (by lia)) ?_
      walk_at "h_go"
      exact ⟨_, .refl, rfl, map_snoc hys ha rfl, hlt, by simp [hyl]⟩
    | fn hl =>
      exact C_rworth_fn I' (dle hD rfl) R.push.push.push (.there (.there (.there hl))) (.there (.there (.there U))) ⟨Γu, by walk_at "h_sb", eu hc ⟨_, List.mem_of_getElem? ha, rfl⟩⟩
  · rintro vl ys Γ' ⟨rfl, hys, hi, hyl⟩
    rw [← FT.len, List.take_length] at hys
    have hy : ∀ v ∈ ys, (∃ s, v = .str s ∧ s.length ≤ 5) ∨ ∃ n, v = .int n := fun v hv => by
      obtain ⟨a, ha, e⟩ := (mO_some hys).2 v hv
      obtain ⟨w, hw⟩ := FT.mem ha
      cases hw with
      | text hs => cases e; exact .inl ⟨_, rfl, by have := txts_len hs; lia⟩
      | whole h0 h1 => cases e; exact .inr ⟨_, rfl⟩
      | fn hl => cases e
    have hti : (∃ m, AV.int m ∈ ys) → ∃ a ∈ trees, ∃ m, a = .whole m := fun ⟨m, hm⟩ => by
      obtain ⟨a, ha, e⟩ := (mO_some hys).2 _ hm
      refine ⟨a, ha, m, ?_⟩
      cases a <;> simp [tval] at e ⊢
      exact e
    have hnn : ∀ a ∈ trees, tval a ≠ none := fun a ha e => by
      have : tval a ∈ trees.map tval := List.mem_map_of_mem ha
      rw [hys, e] at this
      obtain ⟨b, _, hb⟩ := List.mem_map.mp this
      cases hb
    walk_at "h_go"
    refine C_using I1 (dle hD rfl) .here (by lia) (by lia) hy (fun ss hss => ?_) fun ht => ⟨Γ, by walk_at "h_sb", et hc hnn (hti ht)⟩
    have hsb : ∀ s ∈ ss, s.length ≤ 5 := fun s hs => by
      rcases hy (.str s) (by rw [hss]; exact List.mem_map_of_mem hs) with ⟨s', e, h⟩ | ⟨n, e⟩
      · cases e; exact h
      · cases e
    have hsl : ss.length ≤ 3 := by have := congrArg List.length hss; simp [strsOf] at this; lia
    have hul : (usT ss).length ≤ 40 := Nat.le_trans (usT_le hsb) (by simp only [sl_no]; lia)
    have hss' : trees.map tval = ss.map (fun s => some (.str s)) := by rw [hys, hss]; simp [strsOf]
    walk_at "h_go"
    refine C_fpage I1 (dle hD rfl) R.push.push F.push.push hc fun po pg pd => ?_
    walk_at "h_go"
    refine C_ptext I1 (dle hD rfl) (by lia) (by lia) ?_
    walk_at "h_go"
    have hxl : (unf (fget n t) ++ usT ss).length ≤ 60000 := by rw [slen_append]; lia
    cases fl with
    | true =>
      walk_at "h_go"
      have hsl : (padd (ufin true (unf (fget n t) ++ usT ss)) (unf (fget n t))).length ≤ 2000000 := Nat.le_trans (slice_len ..) (by show (pjoin [] ++ (unf (fget n t) ++ usT ss)).length ≤ _; rw [slen_append, show (pjoin []).length = 0 from rfl]; lia)
      refine C_wpage (l := []) I1 (dle hD rfl) R.push.push F.push.push hc (by simp) (fun x hx => nomatch hx) rfl (by show 0 ≤ _; lia) (by lia) (by lia) hz hsl fun Γ' F' M => ?_
      walk_at "h_go"
      exact q hc ss hss' _ F' M.n.n
    | false =>
      walk_at "h_go"
      refine C_end_row I1 (dle hD rfl) (by simp) ?_
      have hjj := join_ok (sep := Str.ofString "") (l := [unf (fget n t) ++ usT ss].map (· ++ Str.ofString "\n")) (B := 60001) (by
        intro x hx
        rw [List.mem_singleton.mp hx, slen_append, sl_row]; lia) (by simp) (by lia) (by rw [sl_no]; lia)
      have hpj : (pjoin [unf (fget n t) ++ usT ss]).length ≤ 400000 := Nat.le_trans hjj.2 (by simp)
      have hsl : (padd (ufin false (unf (fget n t) ++ usT ss)) (unf (fget n t))).length ≤ 2000000 := Nat.le_trans (slice_len ..) (by rw [slen_append]; show (pjoin [unf (fget n t) ++ usT ss]).length + (Str.ofString "").length ≤ _; rw [sl_no]; lia)
      walk_at "h_go"
      refine C_wpage (l := [unf (fget n t) ++ usT ss]) I1 (dle hD rfl) R.push.push F.push.push hc (by simp) (fun x hx => by rw [List.mem_singleton.mp hx]; lia) hjj.1 (by lia) (by rw [sl_no]; lia) (by lia) hz hsl fun Γ' F' M => ?_
      walk_at "h_go"
      exact q hc ss hss' _ F' M.n.n
end
section
variable {c : Cx} {D : Nat} {Γ Γ' Γu : Led} {Q : AV → Led → Prop} {E : EP} {W : Params} {po pg pd : Addr}
theorem C_lworth (I : In c (KF W) D) (hD : D ≤ 920) {k : Str} {w : AV} (h : Leaf k w) (q : Q w Γ) : HC c (.ref 1064) [.tup [.str k, w]] Γ Q E := by
  (refine' HC_fn (by assumption) fn_1064 ?hx ?hD ?hbind ?hcell ?hloc ?hrev ?hρ ?hnod ?hco ?q; walk_at "h_in"; intro c1 I1 hs1 hc1); clear I
  cases h <;> walk_at "h_go" <;> exact q
theorem C_lworth_fn (I : In c (KF W) D) (hD : D ≤ 920) {e' : Addr} (e : E (Str.ofString "UF") Γ) : HC c (.ref 1064) [.tup [.str (Str.ofString "fn"), .str (Str.ofString "FNZ"), .ref e']] Γ Q E := by
  (refine' HC_fn (by assumption) fn_1064 ?hx ?hD ?hbind ?hcell ?hloc ?hrev ?hρ ?hnod ?hco ?q; walk_at "h_in"; intro c1 I1 hs1 hc1); clear I
  walk_at "h_go"
  exact e
noncomputable def lav : Item → Option AV
  | .zone => some (.tup [.str (Str.ofString "zone"), .none])
  | .glue => some (.tup [.str (Str.ofString "glue"), .none])
  | .tab n => some (.tup [.str (Str.ofString "tab"), .int n])
  | .spc n => some (.tup [.str (Str.ofString "spc"), .int n])
  | .value t => (tval t).map fun v => .tup [.str (Str.ofString "value"), v]
theorem sp_snoc (n : Nat) : sp n ++ Str.ofString " " = sp (n + 1) := by
  have e : Str.ofString " " = ⟨#[32]⟩ := by decide +kernel
  rw [e]
  show (⟨(List.replicate n 32).toArray ++ #[32]⟩ : Str) = ⟨(List.replicate (n + 1) 32).toArray⟩
  rw [List.replicate_succ']
  apply congrArg; apply Array.ext'; simp
theorem str_assoc (a b d : Str) : a ++ b ++ d = a ++ (b ++ d) := by
  show (⟨(a.cps ++ b.cps) ++ d.cps⟩ : Str) = ⟨a.cps ++ (b.cps ++ d.cps)⟩
  rw [Array.append_assoc]
theorem str_nil' (a : Str) : a ++ Str.ofString "" = a := by
  have e : Str.ofString "" = ⟨#[]⟩ := by decide +kernel
  rw [e]
  show (⟨a.cps ++ #[]⟩ : Str) = a
  simp
noncomputable def Item.lim : Item → Prop
  | .tab n => 0 ≤ n ∧ n ≤ 257
  | .spc n => 0 ≤ n ∧ n ≤ 256
  | .value (.text s) => s.length ≤ 5
  | .value (.whole n) => 0 ≤ n ∧ n < 20
  | _ => True
theorem IR.lim {a : Item} {v : AV} (h : IR Γ a v) : a.lim := by
  cases h with
  | zone => trivial
  | glue => trivial
  | tab h0 h1 => exact ⟨h0, h1⟩
  | spc h0 h1 => exact ⟨h0, h1⟩
  | value h => cases h with
    | text h => exact txts_len h
    | whole h0 h1 => exact ⟨h0, h1⟩
    | fn => trivial
theorem lp_turn {l0 : List Str} {r0 : Str} {ps : List Part} {i m : Nat} {p : Part} {l l' : List Str} {r r' : Str} (hpi : ps[i]? = some p) (hrun : prun (ps.take i) (l0, r0) = some (l, r)) (hok : p.ok) (hl : l.length ≤ l0.length + i) (hr : r.length ≤ r0.length + 1000 * i) (hi : i < m) (hs : pstep p (l, r) = some (l', r')) :
    pends (ps.take (i + 1)) = p.ends ∧ prun (ps.take (i + 1)) (l0, r0) = some (l', r') ∧ l'.length ≤ l0.length + (i + 1) ∧ r'.length ≤ r0.length + 1000 * (i + 1) ∧ i + 1 ≤ m := by
  have hz := pstep_size hok hs
  exact ⟨pends_take hpi, by rw [prun_take hpi, hrun]; exact hs, by lia, by lia, hi⟩
theorem ljr_le {r : Str} {j k Z : Nat} (hr : r.length ≤ 60000) (h : j + k = Z) (hZ : Z ≤ 1000) : (r ++ sp j).length ≤ 70000 := by rw [slen_append, sp_len]; lia
theorem cat_1 {s : Str} (h : s.length ≤ 70000) : s.length + (Str.ofString " ").length ≤ sizeLine := by rw [sizeLine_eq, sl_blank]; lia
theorem tlt {n : Int} {l a j k : Nat} (h : j + k = (n - 1 - a).toNat) (hl : l = a + j) (hk : ¬ k = 0) : (l : Int) + 1 < n := by lia
theorem tge {n : Int} {l a j k : Nat} (h : j + k = (n - 1 - a).toNat) (hl : l = a + j) (hk : k = 0) (ha : ¬ n - 1 < a) : ¬ (l : Int) + 1 < n := by lia
theorem tlt0 {n : Int} {l j k : Nat} (h : j + k = (n - 1).toNat) (hl : l = j) (hk : ¬ k = 0) : (l : Int) + 1 < n := by lia
theorem tge0 {n : Int} {l j k : Nat} (h : j + k = (n - 1).toNat) (hl : l = j) (hk : k = 0) (ha : ¬ n < 1) : ¬ (l : Int) + 1 < n := by lia
theorem tz {n : Int} (h : ¬ 256 < n) : (n - 1).toNat ≤ 1000 := by lia
theorem tza {n : Int} {a : Nat} (h : ¬ 256 < n) : (n - 1 - a).toNat ≤ 1000 := by lia
theorem jz {j k Z : Nat} (h : j + k = Z) (hk : k = 0) : j = Z := by lia
theorem jn {j k Z : Nat} (h : j + k = Z) (hk : ¬ k = 0) : j ≠ Z := by lia
theorem zne {a j Z : Nat} (h : (a + Z) % 14 = 0) (hb : ¬ ((a : Int) + j) % 14 = 0) : j ≠ Z := fun e => hb (by rw [e]; exact congrArg Int.ofNat h)
theorem zeq {a j k Z : Nat} (hZ : Z ≤ 14) (h : (a + Z) % 14 = 0) (hj : 1 ≤ j) (hk : j + k = Z) (hb : ((a : Int) + j) % 14 = 0) : j = Z := by lia
theorem z1 {Z : Nat} (h : 1 ≤ Z) : 1 + (Z - 1) = Z := by lia
theorem zl {Z : Nat} (h : Z ≤ 14) : Z ≤ 1000 := by lia
theorem rb4 {a b i m : Nat} (h : a ≤ b + 1000 * i) (hi : i < m) (hm : m ≤ 4) (hb : b ≤ 50000) : a ≤ 60000 := by lia
theorem lb4 {a b i m : Nat} (h : a ≤ b + i) (hi : i < m) (hm : m ≤ 4) (hb : b ≤ 1000) : a ≤ 9000 := by lia
theorem catn {a b : Str} (ha : a.length ≤ 60000) (hb : b.length ≤ 1000) : a.length + b.length ≤ sizeLine := by rw [sizeLine_eq]; lia
noncomputable abbrev lpI (Γ : Led) (pl rw : Addr) (ps : List Part) (l0 : List Str) (r0 : Str) (m : Nat) : Nat → Loc → Led → Prop := fun i ρ' Γ' => ∃ l r o1 o2 o3, Γ' = (rw, .list (strsOf (l ++ [r]))) :: Γ ∧ ρ' = [(Str.ofString "rows", some (.ref rw)), (Str.ofString "parts", some (.ref pl)), (Str.ofString "is_ended", some (.bool (pends (ps.take i)))), (Str.ofString "kind", o1), (Str.ofString "value", o2), (Str.ofString "row", o3)] ∧ prun (ps.take i) (l0, r0) = some (l, r) ∧ l.length ≤ l0.length + i ∧ r.length ≤ r0.length + 1000 * i ∧ i ≤ m
theorem lp_end {pl rw it : Addr} {l0 : List Str} {r0 : Str} {ps : List Part} {i m : Nat} {p : Part} {l l' : List Str} {r r' : Str} {kd v : AV} {b : Bool} {QF : AF → Loc → Led → Prop} (hpi : ps[i]? = some p) (hrun : prun (ps.take i) (l0, r0) = some (l, r)) (hok : p.ok) (hl : l.length ≤ l0.length + i) (hr : r.length ≤ r0.length + 1000 * i) (hi : i < m) (hs : pstep p (l, r) = some (l', r')) (hb : b = p.ends) :
    Turn2 it (litr pl) (lpI Γ pl rw ps l0 r0 m) QF i .next [(Str.ofString "rows", some (.ref rw)), (Str.ofString "parts", some (.ref pl)), (Str.ofString "is_ended", some (.bool b)), (Str.ofString "kind", some kd), (Str.ofString "value", some v), (Str.ofString "row", some (.str r'))] ((it, litr pl (i + 1)) :: (rw, .list (strsOf l' ++ [.str r'])) :: Γ) := by
  obtain ⟨t1, t2, t3, t4, t5⟩ := lp_turn hpi hrun hok hl hr hi hs
  exact ⟨(rw, .list (strsOf (l' ++ [r']))) :: Γ, by rw [strs_snoc]; exact .refl, l', r', _, _, _, rfl, by rw [t1, hb], t2, t3, t4, t5⟩
noncomputable abbrev wI (Γ0 : Led) (rw pl : Addr) (b : Bool) (kd v : AV) (r : Str) (a N : Nat) : Nat → Loc → Led → Prop := fun k ρ' Γ' => ∃ j, Γ' = Γ0 ∧ ρ' = [(Str.ofString "rows", some (.ref rw)), (Str.ofString "parts", some (.ref pl)), (Str.ofString "is_ended", some (.bool b)), (Str.ofString "kind", some kd), (Str.ofString "value", some v), (Str.ofString "row", some (.str (r ++ sp j)))] ∧ a ≤ j ∧ j + k = N
theorem wI_next {Γ0 : Led} {rw pl : Addr} {b : Bool} {kd v : AV} {r : Str} {a N k j : Nat} {QF : AF → Loc → Led → Prop} (ha : a ≤ j) (hj : j + k = N) (h : j ≠ N) : Turn (wI Γ0 rw pl b kd v r a N) QF k .next [(Str.ofString "rows", some (.ref rw)), (Str.ofString "parts", some (.ref pl)), (Str.ofString "is_ended", some (.bool b)), (Str.ofString "kind", some kd), (Str.ofString "value", some v), (Str.ofString "row", some (.str (r ++ sp j ++ Str.ofString " ")))] Γ0 :=
  ⟨k - 1, _, by lia, .refl, j + 1, rfl, by rw [str_assoc, sp_snoc], by lia, by lia⟩
theorem C_lprinted (I : In c (KF W) D) (hD : D ≤ 900) {l0 : List Str} {r0 : Str} {items : List Item} {vs ks : List AV} {ps : List Part} {pl rw : Addr} (FI : F2 (IR Γ) items ks) (hv : items.map lav = vs.map some) (hp : items.map ipart = ps.map some)
    (hn : items.length ≤ 4) (hx : l0.length ≤ 1000) (hr : r0.length ≤ 50000) (lp : Lk pl Γ (.list vs))
    (q : ∀ l r, prun ps (l0, r0) = some (l, r) → ∀ rr, Q (.ref rr) ((rr, .list (strsOf ((pfin ps (l, r)).1 ++ [(pfin ps (l, r)).2]))) :: Γ)) (e : prun ps (l0, r0) = none → E (Str.ofString "FC") Γ) :
    HC c (.ref 1071) [.ref rw, .ref pl] ((rw, .list (strsOf (l0 ++ [r0]))) :: Γ) Q E := by
  refine HC_sub (HC_subE ?_)
  (refine' HC_fn (by assumption) fn_1071 ?hx ?hD ?hbind ?hcell ?hloc ?hrev ?hρ ?hnod ?hco ?q; walk_at "h_in"; intro c1 I1 hs1 hc1); clear I
  walk_at "h_go"
  refine HS_For I1.G (fun _ => rfl) ?_
  walk_at "h_go"
  refine ⟨_, _, _, lpI Γ pl rw ps l0 r0 items.length,
    srcList I1.G, ⟨l0, r0, none, none, none, rfl, rfl, rfl, by lia, by lia, by lia⟩, fun i ρ' Γ' ⟨l, r, o1, o2, o3, h, _⟩ => by subst h; exact .there lp, .inr ⟨⟨_, rfl⟩, _, _, _, rfl⟩, ?_, ?_⟩
  · rintro it i x ρ' Γ' hx' ⟨l, r, o1, o2, o3, rfl, rfl, hrun, hl', hr', hi⟩
    obtain ⟨a, hai, hax⟩ := map_get hv hx'
    obtain ⟨v', hir⟩ := FI.mem (List.mem_of_getElem? hai)
    have hlt := (List.getElem?_eq_some_iff.mp hai).1
    have hlim := hir.lim
    obtain ⟨p, hpi, hap⟩ : ∃ p, ps[i]? = some p ∧ ipart a = some p := by
      have h1 : (items.map ipart)[i]? = some (ipart a) := by rw [List.getElem?_map, hai]; rfl
      rw [hp, List.getElem?_map] at h1
      cases z : ps[i]? with
      | none => rw [z] at h1; cases h1
      | some p => rw [z] at h1; exact ⟨p, rfl, (Option.some.inj h1).symm⟩
    rw [strs_snoc]
    have kz : (Str.ofString "zone" == Str.ofString "value") = false := by decide +kernel
    have kg : (Str.ofString "glue" == Str.ofString "value") = false := by decide +kernel
    have kt : (Str.ofString "tab" == Str.ofString "value") = false := by decide +kernel
    have ks' : (Str.ofString "spc" == Str.ofString "value") = false := by decide +kernel
    have kv : (Str.ofString "value" == Str.ofString "value") = true := by decide +kernel
    have hi3 : i < 4 := Nat.lt_of_lt_of_le hlt hn
    have hrb : r.length ≤ 60000 := rb4 hr' hlt hn hr
    have hlb : l.length ≤ 9000 := lb4 hl' hlt hn hx
    have hlb' : (strsOf l).length ≤ 9000 := by simp [strsOf]; exact hlb
    have hok : p.ok := by
      cases a with
      | zone => cases hap; trivial
      | glue => cases hap; trivial
      | tab n => cases hap; have : 0 ≤ n ∧ n ≤ 257 := hlim; exact ⟨by lia, by lia⟩
      | spc n => cases hap; have : 0 ≤ n ∧ n ≤ 256 := hlim; exact ⟨by lia, by lia⟩
      | value t => cases t with
        | fn => cases hap
        | text s => cases hap; have : s.length ≤ 5 := hlim; show s.length ≤ 300; lia
        | whole n => cases hap; have := figs_len n; show (Str.ofString " " ++ figs n ++ Str.ofString " ").length ≤ 300; rw [slen_append, slen_append, sl_blank]; lia
    cases a with
    | zone =>
      cases hax; cases hap
      walk_at "h_go"
      · have hZ : ∃ Z : Nat, (zoneBy r.length).toNat = Z ∧ 1 ≤ Z ∧ Z ≤ 14 ∧ (r.length + Z) % 14 = 0 := by
          have h1 : (r.length : Int).fdiv 14 = r.length / 14 := Int.fdiv_eq_ediv_of_nonneg _ (by decide)
          refine ⟨_, rfl, ?_, ?_, ?_⟩ <;> unfold zoneBy <;> rw [h1] <;> lia
        obtain ⟨Z, hZe, hZ1, hZ2, hZ3⟩ := hZ
        have e1 : Str.ofString " " = sp 1 := by decide +kernel
        refine HS_While I1.G (wI ((it, litr pl (i + 1)) :: (rw, .list (strsOf l)) :: Γ) rw pl (Str.ofString "zone" == Str.ofString "value") (.str (Str.ofString "zone")) .none r 1 Z) (Z - 1) ⟨1, rfl, by rw [e1], Nat.le_refl _, z1 hZ1⟩ ?_
        rintro k ρ' Γ' ⟨j, rfl, rfl, hj1, hjk⟩
        have hlr : (r ++ sp j).length = r.length + j := by rw [slen_append, sp_len]
        have hlj := ljr_le hrb hjk (zl hZ2)
        have hlc := cat_1 hlj
        have hm : Int.fmod ((r ++ sp j).length : Int) 14 = ((r.length : Int) + j) % 14 := by rw [hlr, Int.fmod_eq_emod_of_nonneg _ (by decide)]; rfl
        walk_at "h_go"
        rw [hm]
        refine br_split (fun hb => ?_) fun hb => ?_
        · have hb : ¬ ((r.length : Int) + j) % 14 = 0 := by simpa using hb
          walk_at "h_go"
          exact wI_next hj1 hjk (zne hZ3 hb)
        · have hb : ((r.length : Int) + j) % 14 = 0 := by simpa using hb
          walk_at "h_go"
          have hjZ : j = Z := zeq hZ2 hZ3 hj1 hjk hb
          rw [hjZ]
          have hs : pstep .zone (l, r) = some (l, (r ++ sp Z)) := by rw [← hZe]; rfl
          exact lp_end hpi hrun hok hl' hr' hlt hs kz
    | glue =>
      cases hax; cases hap
      walk_at "h_go"
      have hs : pstep .glue (l, r) = some (l, r) := rfl
      exact lp_end hpi hrun hok hl' hr' hlt hs kg
    | tab n =>
      cases hax; cases hap
      have hn0 : 0 ≤ n ∧ n ≤ 257 := hlim
      have e1 : Str.ofString " " = sp 1 := by decide +kernel
      have no : n < 1 ∨ 256 < n → E (Str.ofString "FC") Γ := fun hb => e (prun_none (i := i + 1) (by rw [prun_take hpi, hrun]; show pstep (.tab n) (l, r) = none; simp only [pstep]; rw [if_pos hb]))
      by_cases hb : n < 1
      · walk_at "h_go"
        exact ⟨Γ, by walk_at "h_sb", no (.inl hb)⟩
      by_cases hb2 : 256 < n
      · walk_at "h_go"
        exact ⟨Γ, by walk_at "h_sb", no (.inr hb2)⟩
      by_cases hb3 : n - 1 < r.length
      · walk_at "h_go"
        refine HS_While I1.G (wI ((it, litr pl (i + 1)) :: (rw, .list (strsOf (l ++ [r]))) :: Γ) rw pl (Str.ofString "tab" == Str.ofString "value") (.str (Str.ofString "tab")) (.int n) (Str.ofString "") 0 (n - 1).toNat) (n - 1).toNat ⟨0, by rw [strs_snoc], by rw [show Str.ofString "" ++ sp 0 = Str.ofString "" by decide +kernel], Nat.le_refl _, by lia⟩ ?_
        rintro k ρ' Γ' ⟨j, rfl, rfl, hj1, hjk⟩
        have hlr : (Str.ofString "" ++ sp j).length = j := by rw [slen_append, sp_len, sl_no]; exact Nat.zero_add _
        have hlj := ljr_le (r := Str.ofString "") (by decide +kernel) hjk (tz hb2)
        have hlc := cat_1 hlj
        by_cases hk : k = 0
        · have ht := tge0 hjk hlr hk hb
          walk_at "h_go"
          have hjZ : j = (n - 1).toNat := jz hjk hk
          rw [hjZ]
          have hs : pstep (.tab n) (l, r) = some (l ++ [r], Str.ofString "" ++ sp (n - 1).toNat) := by simp only [pstep]; rw [if_neg (by lia), if_pos hb3]
          exact lp_end hpi hrun hok hl' hr' hlt hs kt
        · have ht := tlt0 hjk hlr hk
          walk_at "h_go"
          exact wI_next hj1 hjk (jn hjk hk)
      · walk_at "h_go"
        refine HS_While I1.G (wI ((it, litr pl (i + 1)) :: (rw, .list (strsOf l)) :: Γ) rw pl (Str.ofString "tab" == Str.ofString "value") (.str (Str.ofString "tab")) (.int n) r 0 (n - 1 - r.length).toNat) (n - 1 - r.length).toNat ⟨0, rfl, by rw [show sp 0 = Str.ofString "" by decide +kernel, str_nil'], Nat.le_refl _, by lia⟩ ?_
        rintro k ρ' Γ' ⟨j, rfl, rfl, hj1, hjk⟩
        have hlr : (r ++ sp j).length = r.length + j := by rw [slen_append, sp_len]
        have hlj := ljr_le hrb hjk (tza hb2)
        have hlc := cat_1 hlj
        by_cases hk : k = 0
        · have ht := tge hjk hlr hk hb3
          walk_at "h_go"
          have hjZ : j = (n - 1 - r.length).toNat := jz hjk hk
          rw [hjZ]
          have hs : pstep (.tab n) (l, r) = some (l, r ++ sp (n - 1 - r.length).toNat) := by simp only [pstep]; rw [if_neg (by lia), if_neg hb3]
          exact lp_end hpi hrun hok hl' hr' hlt hs kt
        · have ht := tlt hjk hlr hk
          walk_at "h_go"
          exact wI_next hj1 hjk (jn hjk hk)
    | spc n =>
      cases hax; cases hap
      have hn0 : 0 ≤ n ∧ n ≤ 256 := hlim
      by_cases hb : 255 < n
      · walk_at "h_go"
        exact ⟨Γ, by walk_at "h_sb", e (prun_none (i := i + 1) (by rw [prun_take hpi, hrun]; show pstep (.spc n) (l, r) = none; simp only [pstep]; rw [if_pos hb]))⟩
      · walk_at "h_go"
        have hs : pstep (.spc n) (l, r) = some (l, (r ++ sp n.toNat)) := by simp only [pstep]; rw [if_neg hb]
        exact lp_end hpi hrun hok hl' hr' hlt hs ks'
    | value t =>
      cases t with
      | fn => cases hax
      | text s =>
        cases hax; cases hap
        have hs5 : s.length ≤ 5 := hlim
        walk_at "h_go"
        have hs : pstep (.text s) (l, r) = some (l, (r ++ s)) := rfl
        exact lp_end hpi hrun hok hl' hr' hlt hs kv
      | whole n =>
        cases hax; cases hap
        have hn0 : 0 ≤ n ∧ n < 20 := hlim
        have hn1 := hn0.1
        have hn2 : n < 1000000 := by lia
        have hfs := figs_str hn0.1 hn0.2
        have hfl := figs_len n
        have hfl' : (Str.ofString (toString n)).length ≤ 3 := by rw [hfs]; lia
        walk_at "h_go"
        rw [hfs]
        have hs : pstep (.text (Str.ofString " " ++ figs n ++ Str.ofString " ")) (l, r) = some (l, (r ++ (Str.ofString " " ++ figs n ++ Str.ofString " "))) := rfl
        exact lp_end hpi hrun hok hl' hr' hlt hs kv
  · rintro ρ' Γ' ⟨l, r, o1, o2, o3, rfl, rfl, hrun, hl', hr', hi⟩
    have hpl : ps.length = vs.length := by have h1 := congrArg List.length hv; have h2 := congrArg List.length hp; simp at h1 h2; lia
    have hps : ps.take vs.length = ps := by rw [← hpl, List.take_length]
    rw [hps] at hrun
    have qq := q l r hrun
    rw [hps]
    have hln : (strsOf (l ++ [r])).length ≤ 9000 := by simp [strsOf]; lia
    cases hpe : pends ps with
    | true =>
      have ep : pfin ps (l, r) = (l ++ [r], Str.ofString "") := by unfold pfin; rw [hpe]; rfl
      rw [ep] at qq
      walk_at "h_go"
      intro a
      walk_at "h_go"
      intro b
      walk_at "h_go"
      refine ⟨_, ?_, qq b⟩
      rw [strs_snoc (l ++ [r])]
      exact .cons (.trans .tail .tail)
    | false =>
      have ep : pfin ps (l, r) = (l, r) := by unfold pfin; rw [hpe]; rfl
      rw [ep] at qq
      walk_at "h_go"
      exact ⟨_, .refl, qq rw⟩
end
section
variable {c : Cx} {D : Nat} {Γ Γ' Γu : Led} {Q : AV → Led → Prop} {E : EP} {W : Params} {po pg pd bk : Addr}
noncomputable abbrev Rw := List Str × Str
noncomputable abbrev rwl (w : Rw) : AO := .list (strsOf (w.1 ++ [w.2]))
structure BK (bk : Addr) (u : Rw × Rw) (Γ : Led) : Prop where
  ex : ∃ b1 b2, Lk bk Γ (.id [(1, .ref b1), (2, .ref b2)]) ∧ Lk b1 Γ (rwl u.1) ∧ Lk b2 Γ (rwl u.2)
noncomputable def bget (n : Int) (u : Rw × Rw) : Rw := if n = 1 then u.1 else u.2
noncomputable def bput (n : Int) (w : Rw) (u : Rw × Rw) : Rw × Rw := if n = 1 then (w, u.2) else (u.1, w)
theorem BK.push {u : Rw × Rw} {p : Addr × AO} (B : BK bk u Γ) : BK bk u (p :: Γ) := ⟨B.ex.imp fun _ ⟨b, h1, h2, h3⟩ => ⟨b, .there h1, .there h2, .there h3⟩⟩
theorem BK.at {u : Rw × Rw} (B : BK bk u Γ) {n : Int} (h : n = 1 ∨ n = 2) : ∃ bn kvs, Lk bk Γ (.id kvs) ∧ kvs.length = 2 ∧ Lk n kvs (.ref bn) ∧ Lk bn Γ (rwl (bget n u)) := by
  obtain ⟨b1, b2, lb, lb1, lb2⟩ := B.ex
  rcases h with rfl | rfl
  · exact ⟨b1, _, lb, rfl, .here, lb1⟩
  · exact ⟨b2, _, lb, rfl, .there .here, lb2⟩
theorem BK.put {u : Rw × Rw} {w : Rw} (B : BK bk u Γ) {n : Int} (h : n = 1 ∨ n = 2) (nd : (adr Γ).Nodup) {kvs kvs' : List (Int × AV)} {rr : Addr} (lb : Lk bk Γ (.id kvs)) (hu : Up n (.ref rr) kvs kvs') {Γ1 Γ2 : Led} (U : Up bk (.id kvs') Γ Γ1) (lr : Lk rr Γ2 (rwl w)) (tr : ∀ k o, Lk k Γ1 o → Lk k Γ2 o) : BK bk (bput n w u) Γ2 := by
  obtain ⟨b1, b2, lb', lb1, lb2⟩ := B.ex
  have e := Lk.inj nd lb lb'
  cases e
  rcases h with rfl | rfl
  · cases hu with
    | here => exact ⟨_, _, tr _ _ U.lk, lr, tr _ _ (U.oth nd lb lb2 (by simp))⟩
    | there h => exact absurd (show (1 : Int) ∈ [(2 : Int)] from h.key_mem) (by decide)
  · cases hu with
    | there h => cases h with
      | here => exact ⟨_, _, tr _ _ U.lk, tr _ _ (U.oth nd lb lb1 (by simp)), lr⟩
      | there h => cases h
theorem ipart_of {items : List Item} : ∀ {ys : List AV}, items.map lav = ys.map some → ∃ ps : List Part, items.map ipart = ps.map some := by
  induction items with
  | nil => intro ys _; exact ⟨[], rfl⟩
  | cons a l ih =>
    intro ys h
    cases ys with
    | nil => cases h
    | cons y ys =>
      rw [List.map_cons, List.map_cons] at h
      obtain ⟨h1, h2⟩ := List.cons.inj h
      obtain ⟨ps, hps⟩ := ih h2
      have : ∃ p, ipart a = some p := by
        cases a with
        | zone => exact ⟨_, rfl⟩
        | glue => exact ⟨_, rfl⟩
        | tab n => exact ⟨_, rfl⟩
        | spc n => exact ⟨_, rfl⟩
        | value t => cases t with
          | text s => exact ⟨_, rfl⟩
          | whole n => exact ⟨_, rfl⟩
          | fn => cases h1
      obtain ⟨p, hp⟩ := this
      exact ⟨p :: ps, by rw [List.map_cons, List.map_cons, hp, hps]⟩
theorem C_ldone_print (I : In c (KF W) D) (hD : D ≤ 820) {u : Rw × Rw} (B : BK bk u Γ) {n : Int} {il : Addr} {items : List Item} {vs : List AV} (h0 : 1 ≤ n) (h1 : n ≤ 4) (li : Lk il Γ (.list vs)) (FI : F2 (IR Γ) items vs) (hn : vs.length ≤ 4)
    (hx : (bget n u).1.length ≤ 1000) (hr : (bget n u).2.length ≤ 50000)
    (q : n = 1 ∨ n = 2 → ∀ (ps : List Part) l r, items.map ipart = ps.map some → prun ps (bget n u) = some (l, r) → ∀ Γ', BK bk (bput n (pfin ps (l, r)) u) Γ' → Mo [bk] Γ Γ' → Q .none Γ')
    (e3 : n = 3 → E (Str.ofString "BM") Γ) (e4 : n = 4 → E (Str.ofString "BN") Γ) (eu : n = 1 ∨ n = 2 → (∃ a ∈ items, ipart a = none) → E (Str.ofString "UF") Γ) (ef : n = 1 ∨ n = 2 → ∀ ps : List Part, items.map ipart = ps.map some → prun ps (bget n u) = none → E (Str.ofString "FC") Γ) :
    HC c (.ref 1076) [.ref bk, .tup [.str (Str.ofString "PRINT"), chA n, .ref il]] Γ Q E := by
  refine HC_nod fun nd => HC_subE ?_
  unfold chA
  (refine' HC_fn (by assumption) fn_1076 ?hx ?hD ?hbind ?hcell ?hloc ?hrev ?hρ ?hnod ?hco ?q; walk_at "h_in"; intro c1 I1 hs1 hc1); clear I
  by_cases hc3 : n = 3
  · walk_at "h_go"
    exact ⟨Γ, by walk_at "h_sb", e3 hc3⟩
  by_cases hc4 : n = 4
  · walk_at "h_go"
    exact ⟨Γ, by walk_at "h_sb", e4 hc4⟩
  have hc : n = 1 ∨ n = 2 := by lia
  obtain ⟨bn, kvs, lb, hkl, lk, lbn⟩ := B.at hc
  have hkl' : kvs.length ≤ 1000 := by lia
  have hrl : (strsOf ((bget n u).1 ++ [(bget n u).2])).length ≤ 9000 := by simp [strsOf]; lia
  walk_at "h_go"
  intro rw
  walk_at "h_go"
  refine ⟨vs, _, _, fun i ys Γ' => Γ' = (rw, rwl (bget n u)) :: Γ ∧ (items.take i).map lav = ys.map some ∧ i ≤ vs.length ∧ ys.length = i, srcList I1.G, ⟨rfl, rfl, Nat.zero_le _, rfl⟩, ⟨fun i ys Γ' ⟨h1, h2, h3, h4⟩ => ⟨by subst h1; exact .there li, by lia⟩, ?_⟩, ?_⟩
  · rintro i v ys Γ' hv ⟨rfl, hys, hi, hyl⟩ c' it l' I' hs' hc'
    obtain ⟨a, ha, hr⟩ := FI.get hv
    have hlt := (List.getElem?_eq_some_iff.mp hv).1
    cases hr with
    | zone =>
      walk_at "h_go"
      exact ⟨_, .refl, rfl, map_snoc hys ha rfl, hlt, by simp [hyl]⟩
    | glue =>
      walk_at "h_go"
      exact ⟨_, .refl, rfl, map_snoc hys ha rfl, hlt, by simp [hyl]⟩
    | tab h0 h1 =>
      walk_at "h_go"
      refine C_lworth I' (dle hD rfl) (.whole (by lia) (by lia)) ?_
      walk_at "h_go"
      exact ⟨_, .refl, rfl, map_snoc hys ha rfl, hlt, by simp [hyl]⟩
    | spc h0 h1 =>
      walk_at "h_go"
      refine C_lworth I' (dle hD rfl) (.whole (by lia) (by lia)) ?_
      walk_at "h_go"
      exact ⟨_, .refl, rfl, map_snoc hys ha rfl, hlt, by simp [hyl]⟩
    | value hr => cases hr with
      | text hs =>
        walk_at "h_go"
        refine C_lworth I' (dle hD rfl) (.text _) ?_
        walk_at "h_go"
        exact ⟨_, .refl, rfl, map_snoc hys ha rfl, hlt, by simp [hyl]⟩
      | whole h0 h1 =>
        walk_at "h_go"
        refine C_lworth I' (dle hD rfl) (.whole (by lia) (by lia)) ?_
        walk_at "h_go"
        exact ⟨_, .refl, rfl, map_snoc hys ha rfl, hlt, by simp [hyl]⟩
      | fn hl =>
        walk_at "h_go"
        refine C_lworth_fn I' (dle hD rfl) ?_
        exact ⟨Γ, by walk_at "h_sb", eu hc ⟨_, List.mem_of_getElem? ha, rfl⟩⟩
  · rintro pl ys Γ' ⟨rfl, hys, hi, hyl⟩
    rw [← FI.len, List.take_length] at hys
    obtain ⟨ps, hps⟩  := ipart_of hys
    walk_at "h_go"
    refine HC_perm .swap (C_lprinted I1 (dle hD rfl) (FI.imp fun _ _ h => h.tr fun _ _ => .there) hys hps (by rw [FI.len]; exact hn) hx hr .here (fun l r hlr rr => ?_) fun hno => ⟨Γ, by walk_at "h_sb", ef hc ps hps hno⟩)
    obtain ⟨kvs', hu⟩ := Up.ex lk (.ref rr)
    obtain ⟨Γ1, U1⟩ := Up.ex lb (.id kvs')
    walk_at "h_go"
    refine HSet_id (.there (.there lb)) (by lia) hu (.there (.there U1)) ?_
    walk_at "h_go"
    exact q hc ps l r hps hlr _ (B.put hc nd lb hu U1 .here fun _ _ h => .there (.there h)) ((Mo.up1 U1).trans (.new (.new .refl)))
end
section
variable {c : Cx} {D : Nat} {Γ Γ' Γu : Led} {Q : AV → Led → Prop} {E : EP} {W : Params} {po pg pd bk : Addr}
theorem C_ldone_write (I : In c (KF W) D) (hD : D ≤ 820) {u : Rw × Rw} (B : BK bk u Γ) {n : Int} {tl : Addr} {trees : List Tree} {vs : List AV} (h0 : 1 ≤ n) (h1 : n ≤ 4) (lt : Lk tl Γ (.list vs)) (FT : F2 (TR Γ) trees vs) (hn1 : 1 ≤ vs.length) (hn : vs.length ≤ 3)
    (hx : (bget n u).1.length ≤ 1000) (hr : (bget n u).2.length ≤ 50000)
    (q : n = 1 ∨ n = 2 → ∀ ws : List Str, trees.map wtold = ws.map some → ∀ Γ', BK bk (bput n ((bget n u).1 ++ [(bget n u).2 ++ Txt.join (Str.ofString ",") ws], Str.ofString "") u) Γ' → Mo [bk] Γ Γ' → Q .none Γ')
    (e3 : n = 3 → E (Str.ofString "BM") Γ) (e4 : n = 4 → E (Str.ofString "BN") Γ) (eu : n = 1 ∨ n = 2 → (∃ a ∈ trees, tval a = none) → E (Str.ofString "UF") Γ) :
    HC c (.ref 1076) [.ref bk, .tup [.str (Str.ofString "WRITE"), chA n, .ref tl]] Γ Q E := by
  refine HC_nod fun nd => HC_subE ?_
  unfold chA
  (refine' HC_fn (by assumption) fn_1076 ?hx ?hD ?hbind ?hcell ?hloc ?hrev ?hρ ?hnod ?hco ?q; walk_at "h_in"; intro c1 I1 hs1 hc1); clear I
  by_cases hc3 : n = 3
  · walk_at "h_go"
    exact ⟨Γ, by walk_at "h_sb", e3 hc3⟩
  by_cases hc4 : n = 4
  · walk_at "h_go"
    exact ⟨Γ, by walk_at "h_sb", e4 hc4⟩
  have hc : n = 1 ∨ n = 2 := by lia
  obtain ⟨bn, kvs, lb, hkl, lk, lbn⟩ := B.at hc
  have hkl' : kvs.length ≤ 1000 := by lia
  have hrl : (strsOf ((bget n u).1 ++ [(bget n u).2])).length ≤ 9000 := by simp [strsOf]; lia
  walk_at "h_go"
  intro rw
  walk_at "h_go"
  refine ⟨vs, _, _, fun i ys Γ' => Γ' = (rw, rwl (bget n u)) :: Γ ∧ (trees.take i).map tval = ys.map some ∧ i ≤ vs.length ∧ ys.length = i, srcList I1.G, ⟨rfl, rfl, Nat.zero_le _, rfl⟩, ⟨fun i ys Γ' ⟨h1, h2, h3, h4⟩ => ⟨by subst h1; exact .there lt, by lia⟩, ?_⟩, ?_⟩
  · rintro i v ys Γ' hv ⟨rfl, hys, hi, hyl⟩ c' it l' I' hs' hc'
    obtain ⟨a, ha, hr⟩ := FT.get hv
    have hlt := (List.getElem?_eq_some_iff.mp hv).1
    walk_at "h_go"
    cases hr with
    | text hs =>
      refine C_lworth I' (dle hD rfl) (.text _) ?_
      walk_at "h_go"
      exact ⟨_, .refl, rfl, map_snoc hys ha rfl, hlt, by simp [hyl]⟩
    | whole h0 h1 =>
      refine C_lworth I' (dle hD rfl) (.whole (by lia) (by lia)) ?_
      walk_at "h_go"
      exact ⟨_, .refl, rfl, map_snoc hys ha rfl, hlt, by simp [hyl]⟩
    | fn hl =>
      refine C_lworth_fn I' (dle hD rfl) ?_
      exact ⟨Γ, by walk_at "h_sb", eu hc ⟨_, List.mem_of_getElem? ha, rfl⟩⟩
  · rintro vl ys Γ' ⟨rfl, hys, hi, hyl⟩
    rw [← FT.len, List.take_length] at hys
    walk_at "h_go"
    refine ⟨ys, _, _, fun i zs Γ' => Γ' = (vl, .list ys) :: (rw, rwl (bget n u)) :: Γ ∧ ∃ ws : List Str, zs = strsOf ws ∧ (trees.take i).map wtold = ws.map some ∧ i ≤ ys.length ∧ ws.length = i, srcList I1.G, ⟨rfl, [], rfl, rfl, Nat.zero_le _, rfl⟩, ⟨fun i ys Γ' ⟨h1, ws, h2, h3, h4, h5⟩ => ⟨by subst h1; exact .here, by subst h2; simp [strsOf]; lia⟩, ?_⟩, ?_⟩
    · rintro i v zs Γ' hv ⟨rfl, ws, rfl, hws, hi', hwl⟩ c' it l' I' hs' hc'
      obtain ⟨a, ha, hav⟩ := map_get hys hv
      obtain ⟨w, hw⟩ := FT.mem (List.mem_of_getElem? ha)
      have hlt := (List.getElem?_eq_some_iff.mp hv).1
      cases hw with
      | text hs =>
        cases hav
        have := txts_len hs
        walk_at "h_go"
        exact ⟨_, .refl, rfl, _, (strs_snoc _ _).symm, map_snoc hws ha rfl, hlt, by simp [hwl]⟩
      | whole h0 h1 =>
        rename_i m
        cases hav
        have hm : m < 1000000 := by lia
        walk_at "h_go"
        rw [figs_str h0 h1]
        exact ⟨_, .refl, rfl, _, (strs_snoc _ _).symm, map_snoc hws ha (by show some _ = some _; rw [strip_figs h0 h1]), hlt, by simp [hwl]⟩
      | fn hl => cases hav
    · rintro wl zs Γ' ⟨rfl, ws, rfl, hws, hi', hwl⟩
      have htl : trees.length = ys.length := (mO_some hys).1
      rw [← htl, List.take_length] at hws
      have hwb : ∀ x ∈ ws, x.length ≤ 10 := fun x hx => by
        obtain ⟨a, ha, e⟩ := (mO_some hws).2 x hx
        obtain ⟨v, hv⟩ := FT.mem ha
        exact wtold_len hv e
      have hws3 : ws.length ≤ 3 := by rw [← (mO_some hws).1, FT.len]; exact hn
      have hj := join_ok (sep := Str.ofString ",") hwb (by lia) (by lia) (by rw [sl_comma]; lia)
      have hj1 := hj.1
      have hj2 : (Txt.join (Str.ofString ",") ws).length ≤ 40 := Nat.le_trans hj.2 (by lia)
      have hsl : (strsOf (bget n u).1).length ≤ 9000 := by simp [strsOf]; lia
      walk_at "h_go"
      rw [show rwl (bget n u) = .list (strsOf (bget n u).1 ++ [.str (bget n u).2]) from congrArg AO.list (strs_snoc _ _)]
      walk_at "h_go"
      intro xa
      walk_at "h_go"
      intro rr
      obtain ⟨kvs', hu⟩ := Up.ex lk (.ref rr)
      obtain ⟨Γ1, U1⟩ := Up.ex lb (.id kvs')
      walk_at "h_go"
      refine HSet_id (.there (.there (.there (.there (.there lb))))) (by lia) hu (.there (.there (.there (.there (.there U1))))) ?_
      walk_at "h_go"
      refine q hc ws hws _ (B.put hc nd lb hu U1 ?_ fun _ _ h => .there (.there (.there (.there (.there h))))) ((Mo.up1 U1).trans (.new (.new (.new (.new (.new .refl))))))
      unfold rwl
      dsimp only
      rw [strs_snoc, strs_snoc]
      exact .here
end
section
variable {c : Cx} {D : Nat} {Γ Γ' Γu : Led} {Q : AV → Led → Prop} {E : EP} {W : Params} {po pg pd bk : Addr}
noncomputable def lbr (s : Str) : Str := Str.ofString "<" ++ s ++ Str.ofString ">"
noncomputable def lfin (fl : Bool) (l : List Str) (x : Str) : Rw := if fl = true then (l, x) else (l ++ [x], Str.ofString "")
theorem C_ldone_using (I : In c (KF W) D) (hD : D ≤ 820) {u : Rw × Rw} (B : BK bk u Γ) {n : Int} {tl : Addr} {trees : List Tree} {vs : List AV} {fl : Bool} (h0 : 1 ≤ n) (h1 : n ≤ 4) (lt : Lk tl Γ (.list vs)) (FT : F2 (TR Γ) trees vs) (hn1 : 1 ≤ vs.length) (hn : vs.length ≤ 3)
    (hx : (bget n u).1.length ≤ 1000) (hr : (bget n u).2.length ≤ 50000)
    (q : n = 1 ∨ n = 2 → ∀ ss : List Str, trees.map tval = ss.map (fun s => some (.str s)) → ∀ Γ', BK bk (bput n (lfin fl (bget n u).1 ((bget n u).2 ++ Txt.join (Str.ofString "") (ss.map lbr))) u) Γ' → Mo [bk] Γ Γ' → Q .none Γ')
    (e3 : n = 3 → E (Str.ofString "BM") Γ) (e4 : n = 4 → E (Str.ofString "BN") Γ) (eu : n = 1 ∨ n = 2 → (∃ a ∈ trees, tval a = none) → E (Str.ofString "UF") Γ)
    (et : n = 1 ∨ n = 2 → (∀ a ∈ trees, tval a ≠ none) → (∃ a ∈ trees, ∃ m, a = .whole m) → E (Str.ofString "TM") Γ) :
    HC c (.ref 1076) [.ref bk, .tup [.str (Str.ofString "USING"), chA n, .tup [.str (Str.ofString "text"), .str pic], .ref tl, .bool fl]] Γ Q E := by
  refine HC_nod fun nd => HC_subE ?_
  unfold chA
  (refine' HC_fn (by assumption) fn_1076 ?hx ?hD ?hbind ?hcell ?hloc ?hrev ?hρ ?hnod ?hco ?q; walk_at "h_in"; intro c1 I1 hs1 hc1); clear I
  by_cases hc3 : n = 3
  · walk_at "h_go"
    exact ⟨Γ, by walk_at "h_sb", e3 hc3⟩
  by_cases hc4 : n = 4
  · walk_at "h_go"
    exact ⟨Γ, by walk_at "h_sb", e4 hc4⟩
  have hc : n = 1 ∨ n = 2 := by lia
  obtain ⟨bn, kvs, lb, hkl, lk, lbn⟩ := B.at hc
  have hkl' : kvs.length ≤ 1000 := by lia
  have hrl : (strsOf ((bget n u).1 ++ [(bget n u).2])).length ≤ 9000 := by simp [strsOf]; lia
  walk_at "h_go"
  intro rw
  walk_at "h_go"
  refine ⟨vs, _, _, fun i ys Γ' => Γ' = (rw, rwl (bget n u)) :: Γ ∧ (trees.take i).map tval = ys.map some ∧ i ≤ vs.length ∧ ys.length = i, srcList I1.G, ⟨rfl, rfl, Nat.zero_le _, rfl⟩, ⟨fun i ys Γ' ⟨h1, h2, h3, h4⟩ => ⟨by subst h1; exact .there lt, by lia⟩, ?_⟩, ?_⟩
  · rintro i v ys Γ' hv ⟨rfl, hys, hi, hyl⟩ c' it l' I' hs' hc'
    obtain ⟨a, ha, hr⟩ := FT.get hv
    have hlt := (List.getElem?_eq_some_iff.mp hv).1
    walk_at "h_go"
    cases hr with
    | text hs =>
      refine C_lworth I' (dle hD rfl) (.text _) ?_
      walk_at "h_go"
      exact ⟨_, .refl, rfl, map_snoc hys ha rfl, hlt, by simp [hyl]⟩
    | whole h0 h1 =>
      refine C_lworth I' (dle hD rfl) (.whole (by lia) (by lia)) ?_
      walk_at "h_go"
      exact ⟨_, .refl, rfl, map_snoc hys ha rfl, hlt, by simp [hyl]⟩
    | fn hl =>
      refine C_lworth_fn I' (dle hD rfl) ?_
      exact ⟨Γ, by walk_at "h_sb", eu hc ⟨_, List.mem_of_getElem? ha, rfl⟩⟩
  · rintro vl ys Γ' ⟨rfl, hys, hi, hyl⟩
    rw [← FT.len, List.take_length] at hys
    have hy : ∀ v ∈ ys, (∃ s, v = .str s ∧ s.length ≤ 5) ∨ ∃ n, v = .int n := fun v hv => by
      obtain ⟨a, ha, e⟩ := (mO_some hys).2 v hv
      obtain ⟨w, hw⟩ := FT.mem ha
      cases hw with
      | text hs => cases e; exact .inl ⟨_, rfl, by have := txts_len hs; lia⟩
      | whole h0 h1 => cases e; exact .inr ⟨_, rfl⟩
      | fn hl => cases e
    have hti : (∃ m, AV.int m ∈ ys) → ∃ a ∈ trees, ∃ m, a = .whole m := fun ⟨m, hm⟩ => by
      obtain ⟨a, ha, e⟩ := (mO_some hys).2 _ hm
      refine ⟨a, ha, m, ?_⟩
      cases a <;> simp [tval] at e ⊢
      exact e
    have hnn : ∀ a ∈ trees, tval a ≠ none := fun a ha e => by
      have : tval a ∈ trees.map tval := List.mem_map_of_mem ha
      rw [hys, e] at this
      obtain ⟨b, _, hb⟩ := List.mem_map.mp this
      cases hb
    walk_at "h_go"
    refine ⟨ys, _, _, fun i zs Γ' => Γ' = (vl, .list ys) :: (rw, rwl (bget n u)) :: Γ ∧ (zs = [] → ∃ ws, ys.take i = strsOf ws) ∧ (zs ≠ [] → ∃ m, AV.int m ∈ ys) ∧ i ≤ ys.length ∧ zs.length ≤ i, srcList I1.G, ⟨rfl, fun _ => ⟨[], rfl⟩, fun h => absurd rfl h, Nat.zero_le _, Nat.le_refl _⟩, ⟨fun i zs Γ' ⟨h1, h2, h3, h4, h5⟩ => ⟨by subst h1; exact .here, by lia⟩, ?_⟩, ?_⟩
    · rintro i v zs Γ' hv ⟨rfl, hz1, hz2, hi', hzl⟩ c' it l' I' hs' hc'
      have hlt := (List.getElem?_eq_some_iff.mp hv).1
      rcases hy v (List.mem_of_getElem? hv) with ⟨s, rfl, hs5⟩ | ⟨m, rfl⟩
      · walk_at "h_go"
        exact ⟨_, .refl, rfl, fun h => by obtain ⟨ws, hws⟩ := hz1 h; exact ⟨ws ++ [s], by rw [List.take_add_one, hv, hws]; simp [strsOf]⟩, hz2, hlt, by lia⟩
      · walk_at "h_go"
        exact ⟨_, .refl, rfl, fun h => absurd h (by simp), fun _ => ⟨m, List.mem_of_getElem? hv⟩, hlt, by simp; lia⟩
    · rintro zl zs Γ' ⟨rfl, hz1, hz2, hi', hzl⟩
      rw [List.take_length] at hz1
      walk_at "h_go"
      intro el
      walk_at "h_go"
      by_cases hz : zs = []
      · subst hz
        obtain ⟨ss, hss⟩ := hz1 rfl
        refine HCmp_ne_lists I1 (dle hD rfl) (.there .here) .here .nil ?_
        walk_at "h_go"
        have hsb : ∀ s ∈ ss, s.length ≤ 5 := fun s hs => by
          rcases hy (.str s) (by rw [hss]; exact List.mem_map_of_mem hs) with ⟨s', e, h⟩ | ⟨n, e⟩
          · cases e; exact h
          · cases e
        have hsl3 : ss.length = ys.length := by rw [hss]; simp [strsOf]
        have hss' : trees.map tval = ss.map (fun s => some (.str s)) := by rw [hys, hss]; simp [strsOf]
        refine ⟨ys, _, _, fun i zs Γ' => Γ' = (el, .list []) :: (zl, .list []) :: (vl, .list ys) :: (rw, rwl (bget n u)) :: Γ ∧ zs = strsOf ((ss.take i).map lbr) ∧ i ≤ ys.length, srcList I1.G, ⟨rfl, rfl, Nat.zero_le _⟩, ⟨fun i zs Γ' ⟨h1, h2, h3⟩ => ⟨by subst h1; exact .there (.there .here), by subst h2; simp [strsOf]; lia⟩, ?_⟩, ?_⟩
        · rintro i v zs Γ' hv ⟨rfl, rfl, hi'⟩ c' it l' I' hs' hc'
          have hlt := (List.getElem?_eq_some_iff.mp hv).1
          obtain ⟨x, hx, rfl⟩ : ∃ x, ss[i]? = some x ∧ AV.str x = v := by rw [hss] at hv; unfold strsOf at hv; rw [List.getElem?_map] at hv; cases z : ss[i]? with | none => rw [z] at hv; cases hv | some x => rw [z] at hv; exact ⟨x, rfl, Option.some.inj hv⟩
          have hxl := hsb x (List.mem_of_getElem? hx)
          walk_at "h_go"
          refine ⟨_, .refl, rfl, ?_, hlt⟩
          rw [List.take_add_one, hx]; simp [strsOf, lbr]
        · rintro tl' zs Γ' ⟨rfl, rfl, hi'⟩
          rw [← hsl3, List.take_length]
          have hj := join_ok (sep := Str.ofString "") (l := ss.map lbr) (B := 10) (by
            intro x hx
            obtain ⟨y, hy, rfl⟩ := List.mem_map.mp hx
            have := hsb y hy
            unfold lbr
            simp only [slen_append, sl_lt, sl_gt]; lia) (by simp; lia) (by lia) (by rw [sl_no]; lia)
          have hj1 := hj.1
          have hj2 : (Txt.join (Str.ofString "") (ss.map lbr)).length ≤ 40 := Nat.le_trans hj.2 (by simp; lia)
          have hsl : (strsOf (bget n u).1).length ≤ 9000 := by simp [strsOf]; lia
          walk_at "h_go"
          rw [show rwl (bget n u) = .list (strsOf (bget n u).1 ++ [.str (bget n u).2]) from congrArg AO.list (strs_snoc _ _)]
          cases fl with
          | true =>
            obtain ⟨kvs', hu⟩ := Up.ex lk (.ref rw)
            obtain ⟨Γ1, U1⟩ := Up.ex lb (.id kvs')
            walk_at "h_go"
            refine HSet_id (.there (.there (.there (.there (.there lb))))) (by lia) hu (.there (.there (.there (.there (.there U1))))) ?_
            walk_at "h_go"
            refine q hc ss hss' _ (B.put hc nd lb hu U1 ?_ fun _ _ h => .there (.there (.there (.there (.there h))))) ((Mo.up1 U1).trans (.new (.new (.new (.new (.new .refl))))))
            unfold rwl lfin
            simp only [if_pos]
            rw [strs_snoc]
            exact .there (.there (.there (.there .here)))
          | false =>
            walk_at "h_go"
            intro xa
            walk_at "h_go"
            intro rr
            obtain ⟨kvs', hu⟩ := Up.ex lk (.ref rr)
            obtain ⟨Γ1, U1⟩ := Up.ex lb (.id kvs')
            walk_at "h_go"
            refine HSet_id (.there (.there (.there (.there (.there (.there (.there lb))))))) (by lia) hu (.there (.there (.there (.there (.there (.there (.there U1))))))) ?_
            walk_at "h_go"
            refine q hc ss hss' _ (B.put hc nd lb hu U1 ?_ fun _ _ h => .there (.there (.there (.there (.there (.there (.there h))))))) ((Mo.up1 U1).trans (.new (.new (.new (.new (.new (.new (.new .refl))))))))
            unfold rwl lfin
            rw [if_neg (by decide)]
            dsimp only
            rw [strs_snoc, strs_snoc]
            exact .here
      · refine HCmp_ne_lens I1 (dle hD rfl) (.there .here) .here (by cases zs with | nil => exact absurd rfl hz | cons a l => simp) ?_
        walk_at "h_go"
        exact ⟨Γ, by walk_at "h_sb", et hc hnn (hti (hz2 hz))⟩
end
section
variable {c : Cx} {D : Nat} {Γ Γ' Γu : Led} {Q : AV → Led → Prop} {E : EP} {W : Params} {po pg pd bk : Addr}
theorem C_put_print (I : In c (KF W) D) (hD : D ≤ 780) {ru : Addr} {x y : AV} (q : ∀ c', In c' (KF W) (D + 1) → HC c' (.ref 599) [.ref ru, .tup [.str (Str.ofString "PRINT"), x, y]] Γ (fun _ Γ' => Q .none Γ') E) :
    HC c (.ref 1090) [.ref ru, .tup [.str (Str.ofString "PRINT"), x, y]] Γ Q E := by
  (refine' HC_fn (by assumption) fn_1090 ?hx ?hD ?hbind ?hcell ?hloc ?hrev ?hρ ?hnod ?hco ?q; walk_at "h_in"; intro c1 I1 hs1 hc1); clear I
  walk_at "h_go"
  refine HC_mono (q c1 I1) fun v Γ' h => ?_
  walk_at "h_go"
  exact h
theorem C_put_write (I : In c (KF W) D) (hD : D ≤ 780) {ru : Addr} {x y : AV} (q : ∀ c', In c' (KF W) (D + 1) → HC c' (.ref 609) [.ref ru, .tup [.str (Str.ofString "WRITE"), x, y]] Γ (fun _ Γ' => Q .none Γ') E) :
    HC c (.ref 1090) [.ref ru, .tup [.str (Str.ofString "WRITE"), x, y]] Γ Q E := by
  (refine' HC_fn (by assumption) fn_1090 ?hx ?hD ?hbind ?hcell ?hloc ?hrev ?hρ ?hnod ?hco ?q; walk_at "h_in"; intro c1 I1 hs1 hc1); clear I
  walk_at "h_go"
  refine HC_mono (q c1 I1) fun v Γ' h => ?_
  walk_at "h_go"
  exact h
theorem C_put_using (I : In c (KF W) D) (hD : D ≤ 780) {ru : Addr} {x y z w : AV} (q : ∀ c', In c' (KF W) (D + 1) → HC c' (.ref 604) [.ref ru, .tup [.str (Str.ofString "USING"), x, y, z, w]] Γ (fun _ Γ' => Q .none Γ') E) :
    HC c (.ref 1090) [.ref ru, .tup [.str (Str.ofString "USING"), x, y, z, w]] Γ Q E := by
  (refine' HC_fn (by assumption) fn_1090 ?hx ?hD ?hbind ?hcell ?hloc ?hrev ?hρ ?hnod ?hco ?q; walk_at "h_in"; intro c1 I1 hs1 hc1); clear I
  walk_at "h_go"
  refine HC_mono (q c1 I1) fun v Γ' h => ?_
  walk_at "h_go"
  exact h
theorem C_code (I : In c (KF W) D) (hD : D ≤ 780) {fa : Addr} (hk : ∀ c' : Cx, In c' (KF W) (D + 1) → KeepOk c' (.ref fa) Γ)
    (q : ∀ c', In c' (KF W) (D + 1) → HC c' (.ref fa) [] Γ (fun v Γ' => v.plain = true ∧ Q (.str (Str.ofString "")) Γ') (fun k Γ' => Q (.str k) Γ')) :
    HC c (.ref 1083) [.ref fa] Γ Q E := by
  (refine' HC_fn (by assumption) fn_1083 ?hx ?hD ?hbind ?hcell ?hloc ?hrev ?hρ ?hnod ?hco ?q; walk_at "h_in"; intro c1 I1 hs1 hc1); clear I
  walk_at "h_go"
  refine HS_Try I1 exI (by kernel_rfl) hs1 (by decide +kernel) (by kernel_rfl) (by decide +kernel) (by decide +kernel) ?_ ?_ ?_ ?_
  · unfold interactive; rw [hs1]; rfl
  · rfl
  · intro A Q E' s h
    exact Attribute_any_ h rfl
  · walk_at "h_go"
    refine ⟨hk c1 I1, HC_mono (q c1 I1) fun v Γ' h => ?_⟩
    refine ⟨h.1, ?_⟩
    have h2 := h.2
    walk_at "h_go"
    exact h2
end
/-! the plain law: rows and texts -/
noncomputable abbrev cl (x : Str) : List Nat := x.cps.toList
theorem cl_inj {a b : Str} (h : cl a = cl b) : a = b := by
  cases a; cases b; exact congrArg Str.mk (Array.toList_inj.mp h)
theorem cl_app (a b : Str) : cl (a ++ b) = cl a ++ cl b := by
  show (a.cps ++ b.cps).toList = _
  rw [Array.toList_append]
theorem cl_len (a : Str) : (cl a).length = a.length := Array.length_toList
theorem cl_no : cl (Str.ofString "") = [] := by decide +kernel
theorem cl_row : cl (Str.ofString "\n") = [10] := by decide +kernel
noncomputable def lj (l : List Str) : List Nat := (l.map fun x => cl x ++ [10]).flatten
theorem lj_nil : lj [] = [] := rfl
theorem lj_cons (x : Str) (l : List Str) : lj (x :: l) = cl x ++ 10 :: lj l := by simp [lj]
theorem lj_app (l m : List Str) : lj (l ++ m) = lj l ++ lj m := by simp [lj]
theorem lj_snoc (l : List Str) (x : Str) : lj (l ++ [x]) = lj l ++ cl x ++ [10] := by simp [lj]
theorem cl_join_no (l : List Str) : cl (Txt.join (Str.ofString "") l) = (l.map cl).flatten := by
  show cl (Builtin.Str.glued _ l) = _
  rw [StrLaws.glued_eq_join]
  induction l with
  | nil => exact cl_no
  | cons x r ih =>
    cases r with
    | nil => simp [Str.join]
    | cons y r => simp only [Str.join]; rw [cl_app, cl_app, ih, cl_no]; simp
theorem cl_pjoin (l : List Str) : cl (pjoin l) = lj l := by
  unfold pjoin lj
  rw [cl_join_no, List.map_map]
  congr 1
  exact List.map_congr_left fun x _ => by show cl (x ++ _) = _; rw [cl_app, cl_row]
theorem cl_join_row (l : List Str) (r : Str) : cl (Txt.join (Str.ofString "\n") (l ++ [r])) = lj l ++ cl r := by
  show cl (Builtin.Str.glued _ (l ++ [r])) = _
  rw [StrLaws.glued_eq_join]
  induction l with
  | nil => simp [Str.join, lj]
  | cons x l ih =>
    rw [lj_cons]
    cases l with
    | nil => show cl (x ++ _ ++ Str.join _ [r]) = _; rw [cl_app, cl_app, cl_row]; simp [Str.join, lj]
    | cons y l => show cl (x ++ _ ++ Str.join _ ((y :: l) ++ [r])) = _; rw [cl_app, cl_app, ih, cl_row]; simp
theorem range_pick {α : Type} (l : List α) : ∀ (k n : Nat), k + n = l.length → (((List.range n).map fun i => k + i).filterMap (l[·]?)) = l.drop k := by
  intro k n
  induction n generalizing k with
  | zero => intro h; rw [List.drop_of_length_le (by lia)]; rfl
  | succ n ih =>
    intro h
    have hk : k < l.length := by lia
    rw [List.range_succ_eq_map, List.map_cons, List.map_map, List.filterMap_cons, List.drop_eq_getElem_cons hk]
    simp only [Nat.add_zero]
    rw [List.getElem?_eq_getElem hk]
    dsimp only
    have := ih (k + 1) (by lia)
    rw [← this]
    congr 1
    refine congrArg _ (List.map_congr_left fun i _ => ?_)
    show k + (i + 1) = k + 1 + i
    lia
theorem cl_slice (x : Str) (k : Nat) (hk : k ≤ x.length) : cl (Txt.slice x (some (k : Int)) none) = (cl x).drop k := by
  have hi : Builtin.Str.strSliceIndices (some (k : Int)) none 1 x.length = (List.range (x.length - k)).map fun i => k + i := by
    have h1 : ¬ ((k : Int) < 0) := by lia
    have e1 : max (0 : Int) (min (k : Int) (x.length : Int)) = k := by lia
    have h := StrLaws.strSliceIndices_plain (a := k) (b := x.length) (len := x.length) hk (Nat.le_refl _)
    rw [← h]
    unfold Builtin.Str.strSliceIndices
    have h2 : ¬ ((x.length : Int) < 0) := by lia
    have e2 : max (0 : Int) (min (x.length : Int) (x.length : Int)) = x.length := by lia
    simp only [show ((1 : Int) > 0) = True from by simp, if_true, h2, if_false, e2]
  unfold Txt.slice
  rw [hi]
  split
  · rename_i h
    have h : ((1 : Int) == 1 && ((List.range (x.length - k)).map fun i => k + i).length == x.length) = true := h
    simp only [List.length_map, List.length_range, Bool.and_eq_true, beq_iff_eq] at h
    have : k = 0 ∨ x.length = 0 := by lia
    rcases this with rfl | h0
    · rfl
    · have : cl x = [] := List.eq_nil_of_length_eq_zero (by rw [cl_len]; exact h0)
      show cl x = _
      rw [this]; simp
  · show List.filterMap _ _ = _
    have := range_pick (cl x) k (x.length - k) (by rw [cl_len]; lia)
    rw [← this]
    congr 1
    funext i
    simp [cl]
theorem sub_row (x : Str) (i : Nat) : StrLaws.At x (Str.ofString "\n") x.length i ↔ (cl x)[i]? = some 10 := by
  have e : Str.ofString "\n" = ⟨#[10]⟩ := by decide +kernel
  rw [e]
  exact StrLaws.subAt_one x 10 i
noncomputable def nn (x : Str) : Prop := 10 ∉ cl x
theorem unf_eq {t r : Str} {P : List Nat} (h : cl t = P ++ cl r) (hP : P = [] ∨ ∃ P', P = P' ++ [10]) (hr : nn r) : unf t = r := by
  have hl := congrArg List.length h
  rw [cl_len, List.length_append, cl_len] at hl
  have key : Txt.rfind t (Str.ofString "\n") + 1 = (P.length : Int) := by
    unfold Txt.rfind
    rcases StrLaws.last_spec t (Str.ofString "\n") with ⟨e, hn⟩ | ⟨i, e, hi, hk⟩
    · rw [e]
      rcases hP with rfl | ⟨P', rfl⟩
      · rfl
      · refine absurd ((sub_row t P'.length).mpr ?_) (hn _)
        rw [h, List.append_assoc]; simp
    · rw [e]
      have hi := (sub_row t i).mp hi
      rw [h] at hi
      have hip : i < P.length := by
        rcases Nat.lt_or_ge i P.length with q | q
        · exact q
        · rw [List.getElem?_append_right q] at hi
          exact absurd (List.mem_of_getElem? hi) hr
      rcases hP with rfl | ⟨P', rfl⟩
      · exact absurd hip (Nat.not_lt_zero _)
      · have : ¬ i < P'.length := fun q => hk P'.length q ((sub_row t P'.length).mpr (by rw [h, List.append_assoc]; simp))
        simp at hip ⊢
        lia
  apply cl_inj
  unfold unf
  rw [key, cl_slice _ _ (by lia), h]
  exact List.drop_left
/-- a text and its rows -/
structure Ok (w : Rw) (t : Str) : Prop where
  eq : cl t = lj w.1 ++ cl w.2
  nl : ∀ x ∈ w.1, nn x
  nr : nn w.2
theorem lj_end : ∀ (l : List Str), lj l = [] ∨ ∃ P', lj l = P' ++ [10] := fun l => by
  rcases List.eq_nil_or_concat l with rfl | ⟨l', x, rfl⟩
  · exact .inl rfl
  · exact .inr ⟨lj l' ++ cl x, by rw [List.concat_eq_append]; exact lj_snoc l' x⟩
theorem Ok.unf {w : Rw} {t : Str} (k : Ok w t) : unf t = w.2 := unf_eq k.eq (lj_end _) k.nr
theorem Ok.join {w : Rw} {t : Str} (k : Ok w t) : Txt.join (Str.ofString "\n") (w.1 ++ [w.2]) = t := cl_inj ((cl_join_row _ _).trans k.eq.symm)
theorem nn_app {a b : Str} (ha : nn a) (hb : nn b) : nn (a ++ b) := by unfold nn; rw [cl_app]; exact fun m => (List.mem_append.mp m).elim ha hb
theorem nn_no : nn (Str.ofString "") := by unfold nn; rw [cl_no]; exact List.not_mem_nil
theorem nn_sp (n : Nat) : nn (sp n) := fun m => by
  have := List.eq_of_mem_replicate (show 10 ∈ List.replicate n 32 from m)
  cases this
noncomputable def Part.nn : Part → Prop
  | .text s => Mine.nn s
  | _ => True
theorem pstep_ok {p : Part} (hp : p.nn) {l l' : List Str} {r r' : Str} (h : pstep p (l, r) = some (l', r')) (hl : ∀ x ∈ l, nn x) (hr : nn r) : (∀ x ∈ l', nn x) ∧ nn r' ∧ ∃ z, lj l' ++ cl r' = (lj l ++ cl r) ++ z := by
  cases p with
  | text s => cases h; exact ⟨hl, nn_app hr hp, cl s, by rw [cl_app]; simp⟩
  | zone => cases h; exact ⟨hl, nn_app hr (nn_sp _), _, by rw [cl_app, ← List.append_assoc]⟩
  | glue => cases h; exact ⟨hl, hr, [], by simp⟩
  | tab n =>
    simp only [pstep] at h
    split at h
    · cases h
    · split at h
      · cases h
        refine ⟨fun x hx => ?_, nn_app nn_no (nn_sp _), [10] ++ cl (Str.ofString "" ++ sp (n - 1).toNat), by rw [lj_snoc]; simp⟩
        rcases List.mem_append.mp hx with m | m
        · exact hl x m
        · rw [List.mem_singleton.mp m]; exact hr
      · cases h; exact ⟨hl, nn_app hr (nn_sp _), _, by rw [cl_app, ← List.append_assoc]⟩
  | spc n =>
    simp only [pstep] at h
    split at h
    · cases h
    · cases h; exact ⟨hl, nn_app hr (nn_sp _), _, by rw [cl_app, ← List.append_assoc]⟩
theorem pstep_under (L : List Str) (p : Part) (l : List Str) (r : Str) : pstep p (L ++ l, r) = (pstep p (l, r)).map fun x => (L ++ x.1, x.2) := by
  cases p with
  | text s => rfl
  | zone => rfl
  | glue => rfl
  | tab n =>
    simp only [pstep]
    split
    · rfl
    · split
      · simp
      · rfl
  | spc n =>
    simp only [pstep]
    split <;> rfl
theorem prun_cons (p : Part) (ps : List Part) (s : List Str × Str) : prun (p :: ps) s = (pstep p s).bind (prun ps) := rfl
theorem prun_ok : ∀ {ps : List Part} {l l' : List Str} {r r' : Str}, (∀ p ∈ ps, p.nn) → prun ps (l, r) = some (l', r') → (∀ x ∈ l, nn x) → nn r → (∀ x ∈ l', nn x) ∧ nn r' ∧ ∃ z, lj l' ++ cl r' = (lj l ++ cl r) ++ z
  | [], l, l', r, r', _, h, hl, hr => by cases h; exact ⟨hl, hr, [], by simp⟩
  | p :: ps, l, l', r, r', hp, h, hl, hr => by
    rw [prun_cons] at h
    cases e : pstep p (l, r) with
    | none => rw [e] at h; cases h
    | some m =>
      rw [e] at h
      obtain ⟨l1, r1⟩ := m
      obtain ⟨h1, h2, z1, h3⟩ := pstep_ok (hp p (.head _)) e hl hr
      obtain ⟨h4, h5, z2, h6⟩ := prun_ok (fun q hq => hp q (.tail _ hq)) h h1 h2
      exact ⟨h4, h5, z1 ++ z2, by rw [h6, h3]; simp⟩
theorem prun_under (L : List Str) : ∀ (ps : List Part) (l : List Str) (r : Str), prun ps (L ++ l, r) = (prun ps (l, r)).map fun x => (L ++ x.1, x.2)
  | [], l, r => rfl
  | p :: ps, l, r => by
    rw [prun_cons, prun_cons, pstep_under]
    cases e : pstep p (l, r) with
    | none => rfl
    | some m => exact prun_under L ps m.1 m.2
theorem pfin_ok {ps : List Part} {l : List Str} {r : Str} (hl : ∀ x ∈ l, nn x) (hr : nn r) : (∀ x ∈ (pfin ps (l, r)).1, nn x) ∧ nn (pfin ps (l, r)).2 ∧ ∃ z, lj (pfin ps (l, r)).1 ++ cl (pfin ps (l, r)).2 = (lj l ++ cl r) ++ z := by
  unfold pfin
  split
  · refine ⟨fun x hx => ?_, nn_no, [10], by show lj (l ++ [r]) ++ cl _ = _; rw [lj_snoc, cl_no]; simp⟩
    rcases List.mem_append.mp hx with m | m
    · exact hl x m
    · rw [List.mem_singleton.mp m]; exact hr
  · exact ⟨hl, hr, [], by simp⟩
theorem pfin_under (L : List Str) (ps : List Part) (l : List Str) (r : Str) : pfin ps (L ++ l, r) = (L ++ (pfin ps (l, r)).1, (pfin ps (l, r)).2) := by
  unfold pfin
  split
  · simp
  · rfl
theorem padd_eq {l : List Str × Str} {u : Str} {z : List Nat} (h : lj l.1 ++ cl l.2 = cl u ++ z) : cl (padd l u) = z := by
  unfold padd
  have hc : cl (pjoin l.1 ++ l.2) = cl u ++ z := by rw [cl_app, cl_pjoin]; exact h
  have hl := congrArg List.length hc
  rw [cl_len, List.length_append, cl_len] at hl
  rw [cl_slice _ _ (by lia), hc, ← cl_len u]
  exact List.drop_left
/-- what is added to a file makes its rows longer by just that -/
theorem Ok.add {L : List Str} {u : Str} {t : Str} (k : Ok (L, u) t) {l : List Str × Str} {z : List Nat} (h : lj l.1 ++ cl l.2 = cl u ++ z) (hl : ∀ x ∈ l.1, nn x) (hr : nn l.2) : Ok (L ++ l.1, l.2) (t ++ padd l u) where
  eq := by
    rw [cl_app, padd_eq h, k.eq, lj_app, List.append_assoc, List.append_assoc, h]
  nl x hx := (List.mem_append.mp hx).elim (k.nl x) (hl x)
  nr := hr
theorem Ok.print {w : Rw} {t : Str} (k : Ok w t) {ps : List Part} (hp : ∀ p ∈ ps, p.nn) {l : List Str} {r : Str} (h : prun ps ([], w.2) = some (l, r)) :
    prun ps w = some (w.1 ++ l, r) ∧ Ok (pfin ps (w.1 ++ l, r)) (t ++ padd (pfin ps (l, r)) w.2) := by
  obtain ⟨h1, h2, z, h3⟩ := prun_ok hp h (fun x hx => nomatch hx) k.nr
  obtain ⟨h4, h5, z2, h6⟩ := pfin_ok (ps := ps) h1 h2
  refine ⟨?_, ?_⟩
  · have := prun_under w.1 ps [] w.2
    rw [List.append_nil, h] at this
    exact this
  · rw [pfin_under]
    exact k.add (z := z ++ z2) (by rw [h6, h3]; simp [lj_nil]) h4 h5
theorem prun_no {w : Rw} {ps : List Part} : prun ps w = none ↔ prun ps ([], w.2) = none := by
  have := prun_under w.1 ps [] w.2
  rw [List.append_nil] at this
  rw [show w = (w.1, w.2) from rfl, this]
  cases prun ps ([], w.2) <;> simp
theorem Ok.write {w : Rw} {t : Str} (k : Ok w t) {x : Str} (hx : nn x) : Ok (w.1 ++ [w.2 ++ x], Str.ofString "") (t ++ (x ++ Str.ofString "\n")) where
  eq := by rw [cl_app, cl_app, cl_row, k.eq, lj_snoc, cl_app, cl_no]; simp
  nl y hy := by
    rcases List.mem_append.mp hy with m | m
    · exact k.nl y m
    · rw [List.mem_singleton.mp m]; exact nn_app k.nr hx
  nr := nn_no
theorem cl_usT (ss : List Str) : ∀ f : Str, cl (ss.foldl ustep f) = cl f ++ (ss.map fun s => cl (lbr s)).flatten := by
  induction ss with
  | nil => intro f; simp
  | cons s ss ih =>
    intro f
    rw [List.foldl_cons, ih, List.map_cons, List.flatten_cons]
    unfold ustep lbr
    simp only [cl_app, List.append_assoc]
theorem us_eq (ss : List Str) : usT ss = Txt.join (Str.ofString "") (ss.map lbr) := cl_inj (by
  unfold usT
  rw [cl_usT, cl_join_no, cl_no, List.map_map]; rfl)
theorem nn_us {ss : List Str} (h : ∀ s ∈ ss, nn s) : nn (usT ss) := by
  rw [us_eq]
  unfold nn
  rw [cl_join_no]
  intro m
  obtain ⟨l, hl, hm⟩ := List.mem_flatten.mp m
  rw [List.map_map] at hl
  obtain ⟨s, hs, rfl⟩ := List.mem_map.mp hl
  have : cl (lbr s) = 60 :: cl s ++ [62] := by
    unfold lbr
    rw [cl_app, cl_app, show cl (Str.ofString "<") = [60] by decide +kernel, show cl (Str.ofString ">") = [62] by decide +kernel]; rfl
  have hm : 10 ∈ cl (lbr s) := hm
  rw [this] at hm
  simp at hm
  exact h s hs (by simpa [cl] using hm)
theorem Ok.using {w : Rw} {t : Str} (k : Ok w t) {ss : List Str} (hs : ∀ s ∈ ss, nn s) (fl : Bool) : Ok (lfin fl w.1 (w.2 ++ Txt.join (Str.ofString "") (ss.map lbr))) (t ++ padd (ufin fl (w.2 ++ usT ss)) w.2) := by
  rw [← us_eq]
  have hu := nn_us hs
  cases fl with
  | true =>
    have := k.add (l := ([], w.2 ++ usT ss)) (z := cl (usT ss)) (by simp [lj_nil, cl_app]) (fun x hx => nomatch hx) (nn_app k.nr hu)
    rw [List.append_nil] at this
    exact this
  | false => exact k.add (l := ([w.2 ++ usT ss], Str.ofString "")) (z := cl (usT ss) ++ [10]) (by rw [cl_no]; simp [lj, cl_app]) (fun x hx => by rw [List.mem_singleton.mp hx]; exact nn_app k.nr hu) nn_no
theorem txts_nn {s : Str} (h : s ∈ txts) : nn s := by
  have : ∀ s ∈ txts, 10 ∉ cl s := by decide +kernel
  exact this s h
theorem figs_nn {n : Int} (h0 : 0 ≤ n) (h1 : n < 20) : nn (figs n) := small (P := fun n => 10 ∉ cl (figs n)) (by decide +kernel) h0 h1
theorem nn_blank : nn (Str.ofString " ") := by have : 10 ∉ cl (Str.ofString " ") := by decide +kernel
                                               exact this
theorem nn_quote : nn (Str.ofString "\"") := by have : 10 ∉ cl (Str.ofString "\"") := by decide +kernel
                                                exact this
theorem nn_comma : nn (Str.ofString ",") := by have : 10 ∉ cl (Str.ofString ",") := by decide +kernel
                                               exact this
theorem ipart_nn {Γ : Led} {a : Item} {v : AV} {p : Part} (h : IR Γ a v) (e : ipart a = some p) : p.nn := by
  cases h with
  | zone => cases e; trivial
  | glue => cases e; trivial
  | tab h0 h1 => cases e; trivial
  | spc h0 h1 => cases e; trivial
  | value h => cases h with
    | text h => cases e; exact txts_nn h
    | whole h0 h1 => cases e; exact nn_app (nn_app nn_blank (figs_nn h0 h1)) nn_blank
    | fn => cases e
theorem wtold_nn {Γ : Led} {t : Tree} {v : AV} {s : Str} (h : TR Γ t v) (e : wtold t = some s) : nn s := by
  cases h with
  | text h => cases e; exact nn_app (nn_app nn_quote (txts_nn h)) nn_quote
  | whole h0 h1 => cases e; rw [strip_figs h0 h1]; exact figs_nn h0 h1
  | fn => cases e
theorem nn_join {sep : Str} (hs : nn sep) {l : List Str} (h : ∀ x ∈ l, nn x) : nn (Txt.join sep l) := by
  show nn (Builtin.Str.glued sep l)
  rw [StrLaws.glued_eq_join]
  induction l with
  | nil => exact nn_no
  | cons x l ih =>
    cases l with
    | nil => exact h x (.head _)
    | cons y l => exact nn_app (nn_app (h x (.head _)) hs) (ih fun z hz => h z (.tail _ hz))
/-! sizes -/
structure Sz (k : Nat) (w : Rw) : Prop where
  rows : w.1.length ≤ 1 + 5 * k
  row : ∀ x ∈ w.1, x.length ≤ 10 + 4100 * k
  last : w.2.length ≤ 10 + 4100 * k
theorem Sz.up {k : Nat} {w : Rw} (z : Sz k w) : Sz (k + 1) w := ⟨by have := z.rows; lia, fun x hx => by have := z.row x hx; lia, by have := z.last; lia⟩
theorem Sz.snoc {k : Nat} {w : Rw} (z : Sz k w) {y r : Str} (hy : y.length ≤ 10 + 4100 * (k + 1)) (hr : r.length ≤ 10 + 4100 * (k + 1)) : Sz (k + 1) (w.1 ++ [y], r) := ⟨by have := z.rows; simp; lia, fun x hx => by
  rcases List.mem_append.mp hx with m | m
  · have := z.row x m; lia
  · rw [List.mem_singleton.mp m]; exact hy, hr⟩
theorem Sz.print {k : Nat} {w : Rw} (z : Sz k w) {ps : List Part} (hp : ∀ p ∈ ps, p.ok) (hn : ps.length ≤ 4) {l : List Str} {r : Str} (h : prun ps w = some (l, r)) : Sz (k + 1) (pfin ps (l, r)) := by
  obtain ⟨h1, h2, h3⟩ := prun_size hp (B := 10 + 4100 * (k + 1)) (l := w.1) (r := w.2) h (fun x hx => by have := z.row x hx; lia) (by have := z.last; lia)
  have hr := z.rows
  have hl := z.last
  unfold pfin
  split
  · refine ⟨by show (l ++ [r]).length ≤ _; simp; lia, fun x hx => ?_, by show (Str.ofString "").length ≤ _; rw [sl_no]; lia⟩
    rcases List.mem_append.mp hx with m | m
    · exact h2 x m
    · rw [List.mem_singleton.mp m]; show r.length ≤ _; lia
  · exact ⟨by show l.length ≤ _; lia, h2, by show r.length ≤ _; lia⟩
theorem lj_le {B : Nat} : ∀ {l : List Str}, (∀ x ∈ l, x.length ≤ B) → (lj l).length ≤ l.length * (B + 1)
  | [], _ => by simp [lj]
  | x :: l, h => by
    have h1 := lj_le fun y hy => h y (.tail _ hy)
    have h2 := h x (.head _)
    rw [lj_cons, List.length_append, List.length_cons, cl_len, List.length_cons, Nat.succ_mul]
    lia
theorem Sz.text {k : Nat} {w : Rw} {t : Str} (z : Sz k w) (o : Ok w t) (hk : k ≤ 4) : t.length ≤ 450000 := by
  have h := congrArg List.length o.eq
  rw [cl_len, List.length_append, cl_len] at h
  have h1 := lj_le (B := 16410) fun x hx => by have := z.row x hx; lia
  have h2 := z.last
  have h3 := z.rows
  have h4 : w.1.length * 16411 ≤ 21 * 16411 := Nat.mul_le_mul_right _ (by lia)
  lia
/-- both files -/
structure Rel (k : Nat) (u : Rw × Rw) (t : Str × Str) : Prop where
  o1 : Ok u.1 t.1
  o2 : Ok u.2 t.2
  z1 : Sz k u.1
  z2 : Sz k u.2
theorem Rel.up {k : Nat} {u : Rw × Rw} {t : Str × Str} (r : Rel k u t) : Rel (k + 1) u t := ⟨r.o1, r.o2, r.z1.up, r.z2.up⟩
theorem Rel.ok {k : Nat} {u : Rw × Rw} {t : Str × Str} (r : Rel k u t) (n : Int) : Ok (bget n u) (fget n t) := by
  unfold bget fget
  split
  · exact r.o1
  · exact r.o2
theorem Rel.sz {k : Nat} {u : Rw × Rw} {t : Str × Str} (r : Rel k u t) (n : Int) : Sz k (bget n u) := by
  unfold bget
  split
  · exact r.z1
  · exact r.z2
theorem Rel.put {k : Nat} {u : Rw × Rw} {t : Str × Str} (r : Rel k u t) (n : Int) {w : Rw} {x : Str} (o : Ok w (fget n t ++ x)) (z : Sz (k + 1) w) : Rel (k + 1) (bput n w u) (fput n x t) := by
  unfold bput fput
  unfold fget at o
  split
  · rename_i h
    rw [if_pos h] at o
    exact ⟨o, r.o2, z, r.z2.up⟩
  · rename_i h
    rw [if_neg h] at o
    exact ⟨r.o1, o, r.z1.up, z⟩
theorem Rel.size {k : Nat} {u : Rw × Rw} {t : Str × Str} (r : Rel k u t) (hk : k ≤ 4) : t.1.length + t.2.length ≤ 1000000 := by
  have h1 := r.z1.text r.o1 hk
  have h2 := r.z2.text r.o2 hk
  lia
theorem Rel.j1 {k : Nat} {u : Rw × Rw} {t : Str × Str} (r : Rel k u t) : Txt.join (Str.ofString "\n") (u.1.1 ++ [u.1.2]) = t.1 := r.o1.join
theorem Rel.j2 {k : Nat} {u : Rw × Rw} {t : Str × Str} (r : Rel k u t) : Txt.join (Str.ofString "\n") (u.2.1 ++ [u.2.2]) = t.2 := r.o2.join
theorem Rel.jok {k : Nat} {u : Rw × Rw} {t : Str × Str} (r : Rel k u t) (hk : k ≤ 4) : JoinOk (Str.ofString "\n") (u.1.1 ++ [u.1.2]) = true ∧ JoinOk (Str.ofString "\n") (u.2.1 ++ [u.2.2]) = true := by
  have key : ∀ w : Rw, Sz k w → JoinOk (Str.ofString "\n") (w.1 ++ [w.2]) = true := fun w z => (join_ok (B := 17000) (fun x hx => by
    rcases List.mem_append.mp hx with m | m
    · have := z.row x m; lia
    · rw [List.mem_singleton.mp m]; have := z.last; lia) (by have := z.rows; simp; lia) (by lia) (by rw [sl_row]; lia)).1
  exact ⟨key _ r.z1, key _ r.z2⟩
/-! what an order brings about -/
noncomputable def allS {α : Type} : List (Option α) → Option (List α)
  | [] => some []
  | none :: _ => none
  | some a :: r => (allS r).map (a :: ·)
theorem allS_some {α : Type} : ∀ {ps : List α}, allS (ps.map some) = some ps
  | [] => rfl
  | a :: r => by show (allS (r.map some)).map (a :: ·) = _; rw [allS_some]; rfl
theorem allS_none {α : Type} : ∀ {l : List (Option α)}, none ∈ l → allS l = none
  | none :: r, _ => rfl
  | some a :: r, h => by
    show (allS r).map (a :: ·) = _
    rw [allS_none ((List.mem_cons.mp h).resolve_left (fun e => nomatch e))]; rfl
/-- what a work's code is worked out from -/
noncomputable abbrev Cd (Q : AV → Led → Prop) : AV → Led → Prop := fun v Γ' => v.plain = true ∧ Q (.str (Str.ofString "")) Γ'
noncomputable abbrev Ce (Q : AV → Led → Prop) : EP := fun k Γ' => Q (.str k) Γ'
structure Res where
  code : Str
  book : Rw × Rw
  file : Str × Str
noncomputable def strS : AV → Option Str
  | .str s => some s
  | _ => none
noncomputable def pres (n : Int) (ps : List Part) (u : Rw × Rw) (t : Str × Str) : Res := match prun ps ([], (bget n u).2) with
  | none => ⟨Str.ofString "FC", u, t⟩
  | some (l, r) => ⟨Str.ofString "", bput n (pfin ps ((bget n u).1 ++ l, r)) u, fput n (padd (pfin ps (l, r)) (bget n u).2) t⟩
noncomputable def wres (n : Int) (ws : List Str) (u : Rw × Rw) (t : Str × Str) : Res :=
  ⟨Str.ofString "", bput n ((bget n u).1 ++ [(bget n u).2 ++ Txt.join (Str.ofString ",") ws], Str.ofString "") u, fput n (Txt.join (Str.ofString ",") ws ++ Str.ofString "\n") t⟩
noncomputable def ures (n : Int) (fl : Bool) (vs : List AV) (u : Rw × Rw) (t : Str × Str) : Res := match allS (vs.map strS) with
  | none => ⟨Str.ofString "TM", u, t⟩
  | some ss => ⟨Str.ofString "", bput n (lfin fl (bget n u).1 ((bget n u).2 ++ Txt.join (Str.ofString "") (ss.map lbr))) u, fput n (padd (ufin fl ((bget n u).2 ++ usT ss)) (bget n u).2) t⟩
noncomputable def Order.ch : Order → Int
  | .print n _ => n
  | .write n _ => n
  | .using n _ _ => n
noncomputable def Order.at (o : Order) (u : Rw × Rw) (t : Str × Str) : Res :=
  if o.ch = 3 then ⟨Str.ofString "BM", u, t⟩ else if o.ch = 4 then ⟨Str.ofString "BN", u, t⟩ else match o with
    | .print n l => match allS (l.map ipart) with | none => ⟨Str.ofString "UF", u, t⟩ | some ps => pres n ps u t
    | .write n l => match allS (l.map wtold) with | none => ⟨Str.ofString "UF", u, t⟩ | some ws => wres n ws u t
    | .using n l fl => match allS (l.map tval) with | none => ⟨Str.ofString "UF", u, t⟩ | some vs => ures n fl vs u t
theorem tval_w {l : List Tree} : none ∈ l.map tval → none ∈ l.map wtold := fun h => by
  obtain ⟨a, ha, e⟩ := List.mem_map.mp h
  refine List.mem_map.mpr ⟨a, ha, ?_⟩
  cases a with
  | fn => rfl
  | _ => cases e
theorem strs_S (ss : List Str) : allS ((strsOf ss).map strS) = some ss := by
  have : (strsOf ss).map strS = ss.map some := by unfold strsOf; rw [List.map_map]; rfl
  rw [this, allS_some]
theorem at3 {o : Order} {u : Rw × Rw} {t : Str × Str} (h : o.ch = 3) : o.at u t = ⟨Str.ofString "BM", u, t⟩ := by unfold Order.at; rw [if_pos h]
theorem at4' {o : Order} {u : Rw × Rw} {t : Str × Str} (h : o.ch = 4) : o.at u t = ⟨Str.ofString "BN", u, t⟩ := by unfold Order.at; rw [if_neg (by lia), if_pos h]
theorem at_print {n : Int} {l : List Item} {u : Rw × Rw} {t : Str × Str} (h : n = 1 ∨ n = 2) : (Order.print n l).at u t = match allS (l.map ipart) with | none => ⟨Str.ofString "UF", u, t⟩ | some ps => pres n ps u t := by
  unfold Order.at; rw [if_neg (by show ¬ n = 3; lia), if_neg (by show ¬ n = 4; lia)]
theorem at_write {n : Int} {l : List Tree} {u : Rw × Rw} {t : Str × Str} (h : n = 1 ∨ n = 2) : (Order.write n l).at u t = match allS (l.map wtold) with | none => ⟨Str.ofString "UF", u, t⟩ | some ws => wres n ws u t := by
  unfold Order.at; rw [if_neg (by show ¬ n = 3; lia), if_neg (by show ¬ n = 4; lia)]
theorem at_using {n : Int} {l : List Tree} {fl : Bool} {u : Rw × Rw} {t : Str × Str} (h : n = 1 ∨ n = 2) : (Order.using n l fl).at u t = match allS (l.map tval) with | none => ⟨Str.ofString "UF", u, t⟩ | some vs => ures n fl vs u t := by
  unfold Order.at; rw [if_neg (by show ¬ n = 3; lia), if_neg (by show ¬ n = 4; lia)]
theorem mem_none {α β : Type} {f : α → Option β} {l : List α} (h : ∃ a ∈ l, f a = none) : none ∈ l.map f := let ⟨a, ha, e⟩ := h; List.mem_map.mpr ⟨a, ha, e⟩
theorem ures_tm {n : Int} {fl : Bool} {l : List Tree} {u : Rw × Rw} {t : Str × Str} (hno : ∀ a ∈ l, tval a ≠ none) (htm : ∃ a ∈ l, ∃ m, a = .whole m) : (match allS (l.map tval) with | none => (⟨Str.ofString "UF", u, t⟩ : Res) | some vs => ures n fl vs u t) = ⟨Str.ofString "TM", u, t⟩ := by
  have key : ∀ l : List Tree, (∀ a ∈ l, tval a ≠ none) → ∃ vs : List AV, l.map tval = vs.map some ∧ ((∃ a ∈ l, ∃ m, a = .whole m) → none ∈ vs.map strS) := by
    intro l
    induction l with
    | nil => intro _; exact ⟨[], rfl, fun ⟨a, ha, _⟩ => nomatch ha⟩
    | cons a l ih =>
      intro h
      obtain ⟨vs, h1, h2⟩ := ih fun b hb => h b (.tail _ hb)
      cases a with
      | fn => exact absurd rfl (h _ (.head _))
      | text s => exact ⟨.str s :: vs, by rw [List.map_cons, h1]; rfl, fun ⟨b, hb, m, e⟩ => by
          rcases List.mem_cons.mp hb with rfl | hb
          · cases e
          · exact .tail _ (h2 ⟨b, hb, m, e⟩)⟩
      | whole n => exact ⟨.int n :: vs, by rw [List.map_cons, h1]; rfl, fun _ => .head _⟩
  obtain ⟨vs, h1, h2⟩ := key l hno
  rw [h1, allS_some]
  dsimp only
  unfold ures
  rw [allS_none (h2 htm)]
section
variable {c : Cx} {D : Nat} {Γ : Led} {Q : AV → Led → Prop} {E : EP} {W : Params} {A : Ad} {bk : Addr}
theorem C_done (I : In c (KF W) D) (hD : D ≤ 820) {u : Rw × Rw} {t : Str × Str} {k : Nat} (B : BK bk u Γ) (R : Rel k u t) (hk : k ≤ 4) {o : Order} {v : AV} (O : OrdR Γ o v) (q : ∀ Γ', BK bk (o.at u t).book Γ' → Mo [bk] Γ Γ' → Q (.str (o.at u t).code) Γ') :
    HC c (.ref 1076) [.ref bk, v] Γ (Cd Q) (Ce Q) := by
  have hb := fun n => (R.sz n).rows
  have hl := fun n => (R.sz n).last
  cases O with
  | print h0 h1 l F hn =>
    rename_i n items vs a
    have hb := hb n
    have hl := hl n
    refine C_ldone_print I hD B h0 h1 l F hn (by lia) (by lia) (fun hc ps l r hps hr Γ' B' M => ⟨rfl, ?_⟩) (fun hc => ?_) (fun hc => ?_) (fun hc hno => ?_) fun hc ps hps hno => ?_
    · have e := at_print (l := items) (u := u) (t := t) hc
      have hr' := prun_under (bget n u).1 ps [] (bget n u).2
      rw [List.append_nil, hr] at hr'
      rw [hps, allS_some] at e
      dsimp only at e
      unfold pres at e
      cases z : prun ps ([], (bget n u).2) with
      | none => rw [z] at hr'; cases hr'
      | some m =>
        obtain ⟨l', r'⟩ := m
        rw [z] at hr' e
        cases hr'
        have qq := q Γ' (by rw [e]; exact B') M
        rw [e] at qq
        exact qq
    · have e := at3 (o := .print n items) (u := u) (t := t) hc
      have qq := q Γ (by rw [e]; exact B) .refl
      rw [e] at qq; exact qq
    · have e := at4' (o := .print n items) (u := u) (t := t) hc
      have qq := q Γ (by rw [e]; exact B) .refl
      rw [e] at qq; exact qq
    · have e := at_print (l := items) (u := u) (t := t) hc
      rw [allS_none (mem_none hno)] at e
      have qq := q Γ (by rw [e]; exact B) .refl
      rw [e] at qq; exact qq
    · have e := at_print (l := items) (u := u) (t := t) hc
      rw [hps, allS_some] at e
      dsimp only at e
      unfold pres at e
      rw [prun_no.mp hno] at e
      have qq := q Γ (by rw [e]; exact B) .refl
      rw [e] at qq; exact qq
  | write h0 h1 l F hn1 hn =>
    rename_i n trees vs a
    have hb := hb n
    have hl := hl n
    refine C_ldone_write I hD B h0 h1 l F hn1 hn (by lia) (by lia) (fun hc ws hws Γ' B' M => ⟨rfl, ?_⟩) (fun hc => ?_) (fun hc => ?_) (fun hc hno => ?_)
    · have e := at_write (l := trees) (u := u) (t := t) hc
      rw [hws, allS_some] at e
      have qq := q Γ' (by rw [e]; exact B') M
      rw [e] at qq; exact qq
    · have e := at3 (o := .write n trees) (u := u) (t := t) hc
      have qq := q Γ (by rw [e]; exact B) .refl
      rw [e] at qq; exact qq
    · have e := at4' (o := .write n trees) (u := u) (t := t) hc
      have qq := q Γ (by rw [e]; exact B) .refl
      rw [e] at qq; exact qq
    · have e := at_write (l := trees) (u := u) (t := t) hc
      rw [allS_none (tval_w (mem_none hno))] at e
      have qq := q Γ (by rw [e]; exact B) .refl
      rw [e] at qq; exact qq
  | «using» h0 h1 l F hn1 hn =>
    rename_i n trees vs a fl
    have hb := hb n
    have hl := hl n
    refine C_ldone_using I hD B h0 h1 l F hn1 hn (by lia) (by lia) (fun hc ss hss Γ' B' M => ⟨rfl, ?_⟩) (fun hc => ?_) (fun hc => ?_) (fun hc hno => ?_) (fun hc hno htm => ?_)
    · have e := at_using (l := trees) (fl := fl) (u := u) (t := t) hc
      rw [hss, show ss.map (fun s => some (AV.str s)) = (strsOf ss).map some by unfold strsOf; rw [List.map_map]; rfl, allS_some] at e
      dsimp only at e
      unfold ures at e
      rw [strs_S] at e
      have qq := q Γ' (by rw [e]; exact B') M
      rw [e] at qq; exact qq
    · have e := at3 (o := .using n trees fl) (u := u) (t := t) hc
      have qq := q Γ (by rw [e]; exact B) .refl
      rw [e] at qq; exact qq
    · have e := at4' (o := .using n trees fl) (u := u) (t := t) hc
      have qq := q Γ (by rw [e]; exact B) .refl
      rw [e] at qq; exact qq
    · have e := at_using (l := trees) (fl := fl) (u := u) (t := t) hc
      rw [allS_none (mem_none hno)] at e
      have qq := q Γ (by rw [e]; exact B) .refl
      rw [e] at qq; exact qq
    · have e := at_using (l := trees) (fl := fl) (u := u) (t := t) hc
      have ex := ures_tm (n := n) (fl := fl) (u := u) (t := t) hno htm
      rw [ex] at e
      have qq := q Γ (by rw [e]; exact B) .refl
      rw [e] at qq; exact qq
end
/-! entries that stand -/
noncomputable def AO.kd : AO → Nat
  | .sd es => 100 + es.length
  | .id es => 1000 + es.length
  | .inst _ _ => 1
  | .cell _ => 2
  | .fn _ => 3
  | .obj _ => 4
  | .any _ => 5
  | .lst _ => 6
  | .list _ => 7
  | .wlist [] => 8
  | .wlist (_ :: _) => 9
  | .ide _ _ => 10
theorem nmem {x : Nat} {ks : List Nat} (h : ks.contains x = false) : x ∉ ks := by simpa using h
noncomputable def Tr (ks : List Nat) (Γ Γ' : Led) : Prop := ∀ k o, o.kd ∉ ks → Lk k Γ o → Lk k Γ' o
theorem Tr.refl {Γ : Led} : Tr [] Γ Γ := fun _ _ _ l => l
theorem Tr.push {ks : List Nat} {Γ Γ' : Led} {p : Addr × AO} (t : Tr ks Γ Γ') : Tr ks Γ (p :: Γ') := fun k o h l => .there (t k o h l)
theorem Tr.trans {ks js : List Nat} {Γ Γ₁ Γ₂ : Led} (a : Tr ks Γ Γ₁) (b : Tr js Γ₁ Γ₂) : Tr (ks ++ js) Γ Γ₂ := fun k o h l => b k o (fun m => h (List.mem_append.mpr (.inr m))) (a k o (fun m => h (List.mem_append.mpr (.inl m))) l)
theorem Tr.of {ks : List Nat} {X : List Addr} {Γ Γ' : Led} (nd : (adr Γ).Nodup) (M : Mo X Γ Γ') (h : ∀ x ∈ X, ∃ o, Lk x Γ o ∧ o.kd ∈ ks) : Tr ks Γ Γ' := fun k o hk l => M.lk (fun m => by
  obtain ⟨o', l', h'⟩ := h k m
  have := Lk.inj nd l l'
  subst this; exact hk h') l
section
variable {Γ Γ' : Led} {A : Ad} {ks : List Nat} {bk : Addr}
theorem RS.tr {n : Nat} (t : Tr ks Γ Γ') (R : RS A n Γ) (h : (ks.any fun k => k == 1 || k == 107 || k == 128 || k == 100 || k == 6) = false) : RS A n Γ' := by
  have k : ∀ j, (j == 1 || j == 107 || j == 128 || j == 100 || j == 6) = true → j ∉ ks := fun j hj m => by rw [List.any_eq_false] at h; exact h j m hj
  exact ⟨t _ _ (k _ rfl) R.ru, t _ _ (k _ rfl) R.rd, t _ _ (k _ rfl) R.wo, t _ _ (k _ rfl) R.wd, t _ _ (k _ rfl) R.fn, t _ _ (k _ rfl) R.an, t _ _ (k _ rfl) R.aq, R.hn⟩
theorem RS.asked {n : Nat} (nd : (adr Γ).Nodup) (R : RS A n Γ) (hn : n + 1 ≤ 9000) (U : Up A.aq (.lst (n + 1)) Γ Γ') : RS A (n + 1) Γ' := by
  have t : Tr [6] Γ Γ' := .of nd (.up1 U) fun x hx => by rw [List.mem_singleton.mp hx]; exact ⟨_, R.aq, .head _⟩
  exact ⟨t _ _ (by exact nmem rfl) R.ru, t _ _ (by exact nmem rfl) R.rd, t _ _ (by exact nmem rfl) R.wo, t _ _ (by exact nmem rfl) R.wd, t _ _ (by decide) R.fn, t _ _ (by decide) R.an, U.lk, hn⟩
theorem FS.tr {x : Str × Str} (t : Tr ks Γ Γ') (F : FS A x Γ) (h : (ks.any fun k => k == 103 || k == 1003 || k == 106) = false) : FS A x Γ' := by
  have k : ∀ j, (j == 103 || j == 1003 || j == 106) = true → j ∉ ks := fun j hj m => by rw [List.any_eq_false] at h; exact h j m hj
  exact ⟨t _ _ (k _ rfl) F.fa, t _ _ (k _ rfl) F.oa, t _ _ (k _ rfl) F.m1, t _ _ (k _ rfl) F.m2, t _ _ (k _ rfl) F.m3, F.z⟩
theorem BK.tr {u : Rw × Rw} (t : Tr ks Γ Γ') (B : BK bk u Γ) (h : (ks.any fun k => k == 1002 || k == 7) = false) : BK bk u Γ' := by
  have k : ∀ j, (j == 1002 || j == 7) = true → j ∉ ks := fun j hj m => by rw [List.any_eq_false] at h; exact h j m hj
  obtain ⟨b1, b2, h1, h2, h3⟩ := B.ex
  exact ⟨b1, b2, t _ _ (k _ rfl) h1, t _ _ (k _ rfl) h2, t _ _ (k _ rfl) h3⟩
theorem FS.mo {x : Str × Str} (nd : (adr Γ).Nodup) (F : FS A x Γ) (M : Mo [A.fa, A.m1, A.m2] Γ Γ') : Tr [103, 106] Γ Γ' := .of nd M fun y hy => by
  simp only [List.mem_cons, List.mem_nil_iff, or_false] at hy
  rcases hy with rfl | rfl | rfl
  · exact ⟨_, F.fa, .head _⟩
  · exact ⟨_, F.m1, .tail _ (.head _)⟩
  · exact ⟨_, F.m2, .tail _ (.head _)⟩
theorem RS.mo {n : Nat} (nd : (adr Γ).Nodup) (R : RS A n Γ) (M : Mo [A.aq] Γ Γ') : Tr [6] Γ Γ' := .of nd M fun y hy => by
  rw [List.mem_singleton.mp hy]; exact ⟨_, R.aq, .head _⟩
theorem BK.mo {u : Rw × Rw} (nd : (adr Γ).Nodup) (B : BK bk u Γ) (M : Mo [bk] Γ Γ') : Tr [1002] Γ Γ' := .of nd M fun y hy => by
  obtain ⟨b1, b2, h1, h2, h3⟩ := B.ex
  rw [List.mem_singleton.mp hy]; exact ⟨_, h1, .head _⟩
theorem Tp.mo {ta la : Addr} {xs : List Int} (nd : (adr Γ).Nodup) (T : Tp ta la xs Γ) (M : Mo [ta] Γ Γ') : Tr [9] Γ Γ' := .of nd M fun y hy => by
  obtain ⟨_, _, k, _, lt⟩ := T
  rw [List.mem_singleton.mp hy]; exact ⟨_, lt, .head _⟩
theorem Tr.wl {l : List AV} {k : Addr} (t : Tr ks Γ Γ') (h : (ks.any fun k => k == 8 || k == 9) = false) (x : Lk k Γ (.wlist l)) : Lk k Γ' (.wlist l) := t _ _ (fun m => by
  rw [List.any_eq_false] at h
  exact h _ m (by cases l <;> rfl)) x
theorem Tp.trk {ta la : Addr} {xs : List Int} (t : Tr ks Γ Γ') (h : (ks.any fun k => k == 8 || k == 9) = false) (T : Tp ta la xs Γ) : Tp ta la xs Γ' := T.tr fun _ _ => t.wl h
theorem OrdR.trk {o : Order} {v : AV} (t : Tr ks Γ Γ') (h : (ks.any fun k => k == 8 || k == 9) = false) (h7 : 7 ∉ ks) (O : OrdR Γ o v) : OrdR Γ' o v := by
  cases O with
  | print a b l F n => exact .print a b (t _ _ h7 l) (F.imp fun _ _ x => x.tr fun _ _ => t.wl h) n
  | write a b l F n m => exact .write a b (t _ _ h7 l) (F.imp fun _ _ x => x.tr fun _ _ => t.wl h) n m
  | «using» a b l F n m => exact .using a b (t _ _ h7 l) (F.imp fun _ _ x => x.tr fun _ _ => t.wl h) n m
end
section
variable {c : Cx} {D : Nat} {Γ : Led} {Q : AV → Led → Prop} {E : EP} {W : Params} {A : Ad} {bk : Addr}
theorem C_put (I : In c (KF W) D) (hD : D ≤ 780) {u : Rw × Rw} {t : Str × Str} {k n' : Nat} (S : RS A n' Γ) (hn' : n' + 1 ≤ 9000) (F : FS A t Γ) (R : Rel k u t) (hk : k ≤ 4) {o : Order} {v : AV} (O : OrdR Γ o v)
    (q : ∀ m Γ', m ≤ n' + 1 → RS A m Γ' → FS A (o.at u t).file Γ' → Tr [103, 106, 6] Γ Γ' → Q (.str (o.at u t).code) Γ') :
    HC c (.ref 1090) [.ref A.ru, v] Γ (Cd Q) (Ce Q) := by
  refine HC_nod fun nd => ?_
  obtain ⟨Γu, U⟩ := Up.ex S.aq (.lst (n' + 1))
  have hl := fun n => (R.sz n).last
  have hu : ∀ n, (unf (fget n t)).length ≤ 50000 := fun n => by rw [(R.ok n).unf]; have := hl n; lia
  have hz := R.size hk
  have un := fun n => (R.ok n).unf
  have same : (o.at u t).file = t → Q (.str (o.at u t).code) Γ := fun e => q n' Γ (by lia) S (by rw [e]; exact F) (fun _ _ _ l => l)
  have tu := S.mo nd (.up1 U)
  have ask : (o.at u t).file = t → Q (.str (o.at u t).code) Γu := fun e => q (n' + 1) Γu (Nat.le_refl _) (S.asked nd hn' U) (by rw [e]; exact F.tr tu rfl) (fun _ _ h l => tu _ _ (fun m => h (by rw [List.mem_singleton.mp m]; simp)) l)
  have wr : ∀ Γ', FS A (o.at u t).file Γ' → Mo [A.fa, A.m1, A.m2] Γ Γ' → Q (.str (o.at u t).code) Γ' := fun Γ' F' M => by
    have tr := F.mo nd M
    exact q n' Γ' (by lia) (S.tr tr rfl) F' (fun _ _ h l => tr _ _ (fun m => h (by simp at m; rcases m with e | e <;> rw [e] <;> simp)) l)
  cases O with
  | print h0 h1 l Fi hn =>
    rename_i n items vs a
    refine C_put_print I hD fun c' I' => C_print I' (by lia) S F h0 h1 l Fi hn U (hu n) hz (fun hc ps l r hps hr Γ' F' M => ⟨rfl, ?_⟩) (fun hc => ?_) (fun hc => ?_) (fun hc hno => ?_) fun hc ps hps hno => ?_
    · have e := at_print (l := items) (u := u) (t := t) hc
      rw [un n] at hr F'
      rw [hps, allS_some] at e
      dsimp only at e
      unfold pres at e
      rw [hr] at e
      have qq := wr Γ' (by rw [e]; exact F') M
      rw [e] at qq
      exact qq
    · have e := at3 (o := .print n items) (u := u) (t := t) hc
      have qq := same (by rw [e])
      rw [e] at qq; exact qq
    · have e := at4' (o := .print n items) (u := u) (t := t) hc
      have qq := same (by rw [e])
      rw [e] at qq; exact qq
    · have e := at_print (l := items) (u := u) (t := t) hc
      rw [allS_none (mem_none hno)] at e
      have qq := ask (by rw [e])
      rw [e] at qq; exact qq
    · have e := at_print (l := items) (u := u) (t := t) hc
      rw [un n] at hno
      rw [hps, allS_some] at e
      dsimp only at e
      unfold pres at e
      rw [hno] at e
      have qq := same (by rw [e])
      rw [e] at qq; exact qq
  | write h0 h1 l Fi hn1 hn =>
    rename_i n trees vs a
    refine C_put_write I hD fun c' I' => C_write I' (by lia) S F h0 h1 l Fi hn U hz (fun hc ws hws Γ' F' M => ⟨rfl, ?_⟩) (fun hc => ?_) (fun hc => ?_) (fun hc hno => ?_)
    · have e := at_write (l := trees) (u := u) (t := t) hc
      rw [hws, allS_some] at e
      have qq := wr Γ' (by rw [e]; exact F') M
      rw [e] at qq; exact qq
    · have e := at3 (o := .write n trees) (u := u) (t := t) hc
      have qq := same (by rw [e])
      rw [e] at qq; exact qq
    · have e := at4' (o := .write n trees) (u := u) (t := t) hc
      have qq := same (by rw [e])
      rw [e] at qq; exact qq
    · have e := at_write (l := trees) (u := u) (t := t) hc
      rw [allS_none (tval_w (mem_none hno))] at e
      have qq := ask (by rw [e])
      rw [e] at qq; exact qq
  | «using» h0 h1 l Fi hn1 hn =>
    rename_i n trees vs a fl
    refine C_put_using I hD fun c' I' => C_duse I' (by lia) S F h0 h1 l Fi hn1 hn U (hu n) hz (fun hc ss hss Γ' F' M => ⟨rfl, ?_⟩) (fun hc => ?_) (fun hc => ?_) (fun hc hno => ?_) (fun hc hno htm => ?_)
    · have e := at_using (l := trees) (fl := fl) (u := u) (t := t) hc
      rw [un n] at F'
      rw [hss, show ss.map (fun s => some (AV.str s)) = (strsOf ss).map some by unfold strsOf; rw [List.map_map]; rfl, allS_some] at e
      dsimp only at e
      unfold ures at e
      rw [strs_S] at e
      have qq := wr Γ' (by rw [e]; exact F') M
      rw [e] at qq; exact qq
    · have e := at3 (o := .using n trees fl) (u := u) (t := t) hc
      have qq := same (by rw [e])
      rw [e] at qq; exact qq
    · have e := at4' (o := .using n trees fl) (u := u) (t := t) hc
      have qq := same (by rw [e])
      rw [e] at qq; exact qq
    · have e := at_using (l := trees) (fl := fl) (u := u) (t := t) hc
      rw [allS_none (mem_none hno)] at e
      have qq := ask (by rw [e])
      rw [e] at qq; exact qq
    · have e := at_using (l := trees) (fl := fl) (u := u) (t := t) hc
      have ex := ures_tm (n := n) (fl := fl) (u := u) (t := t) hno htm
      rw [ex] at e
      have qq := same (by rw [e])
      rw [e] at qq; exact qq
end
/-! files and rows stay alike -/
theorem allS_inv {α : Type} : ∀ {l : List (Option α)} {ps : List α}, allS l = some ps → l = ps.map some
  | [], ps, h => by cases h; rfl
  | none :: r, ps, h => by cases h
  | some a :: r, ps, h => by
    have h : (allS r).map (a :: ·) = some ps := h
    cases z : allS r with
    | none => rw [z] at h; cases h
    | some qs => rw [z] at h; cases h; rw [allS_inv z]; rfl
theorem Rel.at {Γ : Led} {k : Nat} {u : Rw × Rw} {t : Str × Str} {o : Order} {v : AV} (R : Rel k u t) (O : OrdR Γ o v) : Rel (k + 1) (o.at u t).book (o.at u t).file := by
  by_cases h3 : o.ch = 3
  · rw [at3 h3]; exact R.up
  by_cases h4 : o.ch = 4
  · rw [at4' h4]; exact R.up
  cases O with
  | print h0 h1 l F hn =>
    rename_i n items vs a
    have h3 : ¬ n = 3 := h3
    have h4 : ¬ n = 4 := h4
    rw [at_print (by lia)]
    cases z : allS (items.map ipart) with
    | none => exact R.up
    | some ps =>
      have hps := allS_inv z
      have hok : ∀ p ∈ ps, p.ok ∧ p.nn := fun p hp => by
        obtain ⟨a, ha, e⟩ := (mO_some hps).2 p hp
        obtain ⟨v, hv⟩ := F.mem ha
        exact ⟨ipart_ok hv e, ipart_nn hv e⟩
      have hlen : ps.length ≤ 4 := by rw [← (mO_some hps).1, F.len]; exact hn
      show Rel (k + 1) (pres n ps u t).book (pres n ps u t).file
      unfold pres
      cases zz : prun ps ([], (bget n u).2) with
      | none => exact R.up
      | some m =>
        obtain ⟨l', r⟩ := m
        obtain ⟨e1, e2⟩ := (R.ok n).print (fun p hp => (hok p hp).2) zz
        exact R.put n e2 ((R.sz n).print (fun p hp => (hok p hp).1) hlen e1)
  | write h0 h1 l F hn1 hn =>
    rename_i n trees vs a
    have h3 : ¬ n = 3 := h3
    have h4 : ¬ n = 4 := h4
    rw [at_write (by lia)]
    cases z : allS (trees.map wtold) with
    | none => exact R.up
    | some ws =>
      have hws := allS_inv z
      have hok : ∀ s ∈ ws, s.length ≤ 10 ∧ nn s := fun s hs => by
        obtain ⟨a, ha, e⟩ := (mO_some hws).2 s hs
        obtain ⟨v, hv⟩ := F.mem ha
        exact ⟨wtold_len hv e, wtold_nn hv e⟩
      have hlen : ws.length ≤ 3 := by rw [← (mO_some hws).1, F.len]; exact hn
      have hj := (join_ok (sep := Str.ofString ",") (fun s hs => (hok s hs).1) (by lia) (by lia) (by rw [sl_comma]; lia)).2
      have hz := (R.sz n).last
      exact R.put n ((R.ok n).write (nn_join nn_comma fun s hs => (hok s hs).2)) ((R.sz n).snoc (by rw [slen_append]; lia) (by rw [sl_no]; lia))
  | «using» h0 h1 l F hn1 hn =>
    rename_i n trees vs a fl
    have h3 : ¬ n = 3 := h3
    have h4 : ¬ n = 4 := h4
    rw [at_using (by lia)]
    cases z : allS (trees.map tval) with
    | none => exact R.up
    | some ys =>
      show Rel (k + 1) (ures n fl ys u t).book (ures n fl ys u t).file
      unfold ures
      cases zz : allS (ys.map strS) with
      | none => exact R.up
      | some ss =>
        have h1 := allS_inv z
        have h2 := allS_inv zz
        have hok : ∀ s ∈ ss, s ∈ txts := fun s hs => by
          have : some s ∈ ys.map strS := by rw [h2]; exact List.mem_map_of_mem hs
          obtain ⟨y, hy, e⟩ := List.mem_map.mp this
          obtain ⟨a, ha, e'⟩ := (mO_some h1).2 y hy
          obtain ⟨v, hv⟩ := F.mem ha
          cases hv with
          | text h => cases e'; cases e; exact h
          | whole _ _ => cases e'; cases e
          | fn _ => cases e'
        have hlen : ss.length ≤ 3 := by
          have e1 := congrArg List.length h2
          have e2 := congrArg List.length h1
          rw [List.length_map, List.length_map] at e1 e2
          rw [← e1, ← e2, F.len]; exact hn
        have hul : (usT ss).length ≤ 40 := Nat.le_trans (usT_le fun s hs => txts_len (hok s hs)) (by simp only [sl_no]; lia)
        have hz := (R.sz n).last
        refine R.put n ((R.ok n).using (fun s hs => txts_nn (hok s hs)) fl) ?_
        rw [← us_eq]
        cases fl with
        | true => exact ⟨by have := (R.sz n).rows; show (bget n u).1.length ≤ _; lia, fun x hx => by have := (R.sz n).row x hx; lia, by show ((bget n u).2 ++ usT ss).length ≤ _; rw [slen_append]; lia⟩
        | false => exact (R.sz n).snoc (by rw [slen_append]; lia) (by rw [sl_no]; lia)
/-! the law's own body -/
noncomputable def forOf : Fx → Option (List Stmt)
  | .mk _ b _ => b.findSome? fun s => match s with | .For _ _ b _ _ => some b | _ => none
  | .no => none
noncomputable def scOf : Fx → Scope
  | .mk _ _ sc => sc
  | .no => default
noncomputable def restOf : Fx → Option (List Stmt)
  | .mk _ (_ :: _ :: _ :: _ :: _ :: _ :: _ :: r) _ => some r
  | _ => none
noncomputable def lawRest : List Stmt := (restOf (fX (tS 161))).getD []
noncomputable def lawFor : List Stmt := (forOf (fX (tS 161))).getD []
noncomputable def lawSc : Scope := scOf (fX (tS 161))
noncomputable abbrev noA : Arguments := { posonlyargs := [], args := [], vararg := none, kwonlyargs := [], kw_defaults := [], kwarg := none, defaults := [] }
theorem clos2 {scope : Scope} {e : Env} {x y : Str} {a b : Addr} {r : List (Str × NameKind)} (h : scope.names = (x, .free) :: (y, .free) :: r) (hr : (r.all fun p => p.2 != .free) = true) (hx : e.cells.lookup x = some a) (hy : e.cells.lookup y = some b) : closureFor scope e = pure [(y, b), (x, a)] := by
  unfold closureFor
  have hcx : cellOf e x = pure a := by unfold cellOf; rw [hx]
  have hcy : cellOf e y = pure b := by unfold cellOf; rw [hy]
  have := clos_go (e := e) r [(y, b), (x, a)] hr
  have k2 : (forIn ((x, NameKind.free) :: (y, NameKind.free) :: r) ([] : List (Str × Addr)) fun (p : Str × NameKind) (cs : List (Str × Addr)) => if (p.2 == .free) = true then (do let a ← cellOf e p.1; pure (ForInStep.yield ((p.1, a) :: cs))) else (pure (ForInStep.yield cs) : Sem _)) = pure [(y, b), (x, a)] := by
    rw [List.forIn_cons]
    have e1 : (NameKind.free == NameKind.free) = true := rfl
    simp only [e1, if_true, hcx, pure_bind]
    rw [List.forIn_cons]
    simp only [e1, if_true, hcy, pure_bind]
    exact this
  rw [h]
  simpa using congrArg (· >>= fun cs => pure cs) k2
theorem Wk.upl {a : Addr} {l : List AV} {o : AO} {Γ Γ' : Led} (U : Up a o Γ Γ') : (∀ {Γ₁ Γ₂ : Led}, Wk Γ₁ Γ₂ → Wk ((a, .list l) :: Γ₁) ((a, o) :: Γ₂)) → (adr Γ).Nodup → Lk a Γ (.list l) → Wk Γ Γ' := by
  induction U with
  | here =>
    intro k nd h
    cases h with
    | here => exact k .refl
    | there h => exact absurd (List.mem_map_of_mem (f := (·.1)) h.mem) (List.nodup_cons.mp nd).1
  | there U ih =>
    intro k nd h
    cases h with
    | here => exact absurd U.key_mem (List.nodup_cons.mp nd).1
    | there h => exact .keep (ih k (List.nodup_cons.mp nd).2 h)
section
variable {c : Cx} {D : Nat} {ρ : Loc} {Γ : Led} {Q : AV → Led → Prop} {E : EP} {W : Params}
theorem HB_nod2 {b : List Stmt} {QF : AF → Loc → Led → Prop} (q : (adr Γ).Nodup → HB c b ρ Γ QF E) : HB c b ρ Γ QF E := fun s S => q S.C.nod s S
theorem HB_wl {b : List Stmt} {QF : AF → Loc → Led → Prop} {a : Addr} {l : List AV} {Γ' : Led} (h : Lk a Γ (.list l)) (U : Up a (.wlist l) Γ Γ') (q : HB c b ρ Γ' QF E) : HB c b ρ Γ QF E := HB_nod2 fun nd => HB_wk (Wk.upl U (fun w => .wl w) nd h) q
theorem HB_ls {b : List Stmt} {QF : AF → Loc → Led → Prop} {a : Addr} {l : List AV} {Γ' : Led} {n : Nat} (h : Lk a Γ (.list l)) (hn : l.length ≤ n) (U : Up a (.lst n) Γ Γ') (q : HB c b ρ Γ' QF E) : HB c b ρ Γ QF E := HB_nod2 fun nd => HB_wk (Wk.upl U (fun w => .ls hn w) nd h) q
theorem HE_nod' {es : List Expr} {Q : List AV → Led → Prop} (q : (adr Γ).Nodup → HEs c es ρ Γ Q E) : HEs c es ρ Γ Q E := fun s pos S => q S.C.nod s pos S
/-- the code that a small function ends with -/
theorem HE_lawcode {P : Addr → Prop} (I : In c (KF W) D) (hD : D ≤ 770) (hs : c.env.scope = lawSc) (hcode : c.env.code = .ref 1094) {l : List (Pos × Addr)} {body : Expr} {scope : Scope} {pos pn pc : Pos} {clos : List (Str × Addr)}
    (hP : Lk 1092 Γ (tabO l)) (hc : ∀ p ∈ l, Lk p.2 Γ (codeO (c.env.qual ++ "<lambda>")) ∧ P p.2) (hl : codeAmong pos (triples l) = none ∨ ∃ c', (pos, c') ∈ l ∧ codeAmong pos (triples l) = some (.ref c'))
    (hcl : closureFor scope c.env = pure clos) (hcell : (scope.names.all fun x => x.2 != .cell && x.2 != .local) = true) (hco : (!scope.isCoroutine && !scope.isGenerator && scope.kind == .function) = true) (hPn : ∀ c', c' ∉ adr Γ → P c')
    (k : ∀ (p : Addr × AO) l' Γ', (l' = l ∧ (∃ c', (pos, c') ∈ l) ∨ ∃ c', l' = l ++ [(pos, c')] ∧ codeAmong pos (triples l) = none) → Lk 1092 Γ' (tabO l') → (∀ p ∈ l', Lk p.2 Γ' (codeO (c.env.qual ++ "<lambda>")) ∧ P p.2) → Tr [4] Γ Γ' → ∀ c', In c' (KF W) (D + 1 + 1) → c'.env.scope = scope → c'.env.cells = clos →
      HE c' body [] (p :: Γ') (Cd Q) (Ce Q)) :
    HE c (.Call (.Name (Str.ofString "_law_code") pn) [.Lambda noA body scope pos] [] pc) ρ Γ Q E := by
  refine HE_Call rfl rfl (hGlobal I hs (by decide +kernel) (by decide +kernel) gl__law_code rfl ?_)
  refine HE_nod' fun nd => HEs_cons rfl ?_
  rcases hl with hnf | ⟨c', hm, hf⟩
  · have hU : ∀ c', ∃ Γn, Up 1092 (tabO (l ++ [(pos, c')])) Γ Γn := fun c' => Up.ex hP _
    refine HE_Lambda1 I hcode (by kernel_rfl) hP hnf rfl hcl (Γn := fun c' => (hU c').choose) (fun c' => (hU c').choose_spec) fun f c' pm ctv => HEs_nil ⟨keepK I (keep_fn fn_1083), ?_⟩
    generalize hΓ : (hU c').choose = Γn
    have U : Up 1092 (tabO (l ++ [(pos, c')])) Γ Γn := hΓ ▸ (hU c').choose_spec
    have tr : Tr [4] Γ Γn := .of nd (.up1 U) fun x hx => by rw [List.mem_singleton.mp hx]; exact ⟨_, hP, .head _⟩
    refine HC_nod fun nd2 => C_code I (by lia) (fun c'' I'' => keepF .here) fun c'' I'' => HC_lam I'' (by show _ < 1000; lia) .here (.there .here) (fun fd e1 e2 e3 => by obtain ⟨⟩ := fd; dsimp only at e1 e2 e3; subst e1 e2 e3; rfl) hcell hco fun c3 I3 h1 h2 => ?_
    have hn : c' ∉ adr Γ := fun m => (List.nodup_cons.mp (List.nodup_cons.mp nd2).2).1 (by show c' ∈ adr Γn; rw [adr, U.keys]; exact m)
    refine k _ (l ++ [(pos, c')]) ((c', codeO (c.env.qual ++ "<lambda>")) :: Γn) (.inr ⟨c', rfl, hnf⟩) (.there U.lk) (fun p hp => ?_) tr.push c3 I3 h1 h2
    rcases List.mem_append.mp hp with m | m
    · exact ⟨.there (tr _ _ (by intro h; cases h with | tail _ h => cases h) (hc p m).1), (hc p m).2⟩
    · rw [List.mem_singleton.mp m]; exact ⟨.here, hPn _ hn⟩
  · refine HE_Lambda2 I hcode (by kernel_rfl) hP hf rfl hcl fun f pm ctv => HEs_nil ⟨keepK I (keep_fn fn_1083), ?_⟩
    refine C_code I (by lia) (fun c'' I'' => keepF .here) fun c'' I'' => HC_lam I'' (by show _ < 1000; lia) .here (.there (hc _ hm).1) (fun fd e1 e2 e3 => by obtain ⟨⟩ := fd; dsimp only at e1 e2 e3; subst e1 e2 e3; rfl) hcell hco fun c3 I3 h1 h2 => ?_
    exact k _ l Γ (.inl ⟨rfl, _, hm⟩) hP hc (fun _ _ _ l => l) c3 I3 h1 h2
end
noncomputable abbrev pos1 : Pos := ⟨942, 24, 942, 54⟩
noncomputable abbrev pos2 : Pos := ⟨943, 21, 943, 49⟩
structure TI (c1 : Cx) (A : Ad) (ta la bk a1 a2 a3 : Addr) (xs : List Int) (P : Addr → Prop) (k : Nat) (Γ : Led) : Prop where
  run : ∃ n, n ≤ k ∧ RS A n Γ
  dat : ∃ u t, BK bk u Γ ∧ FS A t Γ ∧ Rel k u t
  tp : Tp ta la xs Γ
  k1 : Lk a1 Γ (.cell (some (.ref bk)))
  k2 : ∃ o, Lk a2 Γ (.cell o)
  k3 : Lk a3 Γ (.cell (some (.ref A.ru)))
  tb : ∃ l, (l = [] ∨ ∃ x y, l = [(pos1, x), (pos2, y)]) ∧ Lk 1092 Γ (tabO l) ∧ ∀ p ∈ l, Lk p.2 Γ (codeO (c1.env.qual ++ "<lambda>")) ∧ P p.2
  ou : Lk A.ou Γ (.list [])
theorem TI.push {c1 : Cx} {A : Ad} {ta la bk a1 a2 a3 : Addr} {xs : List Int} {P : Addr → Prop} {k : Nat} {Γ : Led} {p : Addr × AO} (T : TI c1 A ta la bk a1 a2 a3 xs P k Γ) : TI c1 A ta la bk a1 a2 a3 xs P k (p :: Γ) :=
  ⟨T.run.imp fun _ h => ⟨h.1, h.2.push⟩, T.dat.imp fun _ h => h.imp fun _ h => ⟨h.1.push, h.2.1.push, h.2.2⟩, T.tp.push, .there T.k1, T.k2.imp fun _ h => .there h, .there T.k3, T.tb.imp fun _ h => ⟨h.1, .there h.2.1, fun p hp => ⟨.there (h.2.2 p hp).1, (h.2.2 p hp).2⟩⟩, .there T.ou⟩
theorem HB_lit {c : Cx} {ρ : Loc} {Γ : Led} {QF : AF → Loc → Led → Prop} {E : EP} {o : Option (List Stmt)} {b : List Stmt} (h : o = some b) (q : HB c b ρ Γ QF E) : HB c (o.getD []) ρ Γ QF E := by rw [h]; exact q
noncomputable abbrev rhoL (sa ta wo : Addr) (o1 o2 o3 : Option AV) : Loc := [(Str.ofString "script", some (.ref sa)), (Str.ofString "tape", some (.ref ta)), (Str.ofString "world", some (.ref wo)), (Str.ofString "turn", o1), (Str.ofString "due", o2), (Str.ofString "texts", o3)]
theorem TI.trk {c1 : Cx} {A : Ad} {ta la bk a1 a2 a3 : Addr} {xs : List Int} {P : Addr → Prop} {k : Nat} {Γ Γ' : Led} (t : Tr [9] Γ Γ') (tp : Tp ta la xs Γ') (T : TI c1 A ta la bk a1 a2 a3 xs P k Γ) : TI c1 A ta la bk a1 a2 a3 xs P k Γ' :=
  ⟨T.run.imp fun _ h => ⟨h.1, h.2.tr t rfl⟩, T.dat.imp fun _ h => h.imp fun _ h => ⟨h.1.tr t rfl, h.2.1.tr t rfl, h.2.2⟩, tp, t _ _ (by exact nmem rfl) T.k1, T.k2.imp fun _ h => t _ _ (by exact nmem rfl) h, t _ _ (by exact nmem rfl) T.k3, T.tb.imp fun _ h => ⟨h.1, t _ _ (by exact nmem rfl) h.2.1, fun p hp => ⟨t _ _ (by exact nmem rfl) (h.2.2 p hp).1, (h.2.2 p hp).2⟩⟩, t _ _ (by exact nmem rfl) T.ou⟩
theorem Lk.split {it : Addr} {o : AO} {Γ : Led} (l : Lk it Γ o) : ∃ Γ'', Sb ((it, o) :: Γ'') Γ ∧ ∀ k o', k ≠ it → Lk k Γ o' → Lk k Γ'' o' := by
  induction l with
  | here => exact ⟨_, .refl, fun k o' hk l => by cases l with
    | here => exact absurd rfl hk
    | there l => exact l⟩
  | there l ih =>
    obtain ⟨Γ'', h1, h2⟩ := ih
    exact ⟨_ :: Γ'', Sb.swap.trans (Sb.cons h1), fun k o' hk l => by cases l with
      | here => exact .here
      | there l => exact .there (h2 k o' hk l)⟩
/-- the iterator is taken out -/
theorem TI.out {c1 : Cx} {A : Ad} {ta la bk a1 a2 a3 it rr : Addr} {xs : List Int} {k : Nat} {Γ Γ' : Led} {oi orr : AO} (nd : (adr Γ).Nodup) (h5 : oi.kd = 5) (li : Lk it Γ oi) (hs : ∀ k o', k ≠ it → Lk k Γ o' → Lk k Γ' o') (T : TI c1 A ta la bk a1 a2 a3 xs (fun a => ∀ p ∈ [(it, oi), (rr, orr)], a ≠ p.1) k Γ) : TI c1 A ta la bk a1 a2 a3 xs (· ≠ rr) k Γ' := by
  have t : Tr [5] Γ Γ' := fun k o hk l => hs k o (fun e => hk (by subst e; rw [Lk.inj nd l li, h5]; exact .head _)) l
  exact ⟨T.run.imp fun _ h => ⟨h.1, h.2.tr t rfl⟩, T.dat.imp fun _ h => h.imp fun _ h => ⟨h.1.tr t rfl, h.2.1.tr t rfl, h.2.2⟩, T.tp.trk t rfl, t _ _ (by exact nmem rfl) T.k1, T.k2.imp fun _ h => t _ _ (by exact nmem rfl) h, t _ _ (by exact nmem rfl) T.k3, T.tb.imp fun _ h => ⟨h.1, t _ _ (by exact nmem rfl) h.2.1, fun p hp => ⟨hs _ _ ((h.2.2 p hp).2 _ (.head _)) (h.2.2 p hp).1, (h.2.2 p hp).2 _ (.tail _ (.head _))⟩⟩, t _ _ (by exact nmem rfl) T.ou⟩
theorem rel0 : Rel 0 (([], Str.ofString ""), ([Str.ofString "ab"], Str.ofString "cd")) (Str.ofString "", Str.ofString "ab\ncd") := by
  have h1 : cl (Str.ofString "") = lj [] ++ cl (Str.ofString "") := rfl
  have h2 : cl (Str.ofString "ab\ncd") = lj [Str.ofString "ab"] ++ cl (Str.ofString "cd") := by decide +kernel
  have h3 : 10 ∉ cl (Str.ofString "ab") := by decide +kernel
  have h4 : 10 ∉ cl (Str.ofString "cd") := by decide +kernel
  have l1 : (Str.ofString "ab").length = 2 := by decide +kernel
  have l2 : (Str.ofString "cd").length = 2 := by decide +kernel
  have l3 := sl_no
  exact ⟨⟨h1, fun x hx => (nomatch hx), nn_no⟩, ⟨h2, fun x hx => by rw [List.mem_singleton.mp hx]; exact h3, h4⟩, ⟨by simp, fun x hx => (nomatch hx), by show (Str.ofString "").length ≤ _; lia⟩, ⟨by simp, fun x hx => by rw [List.mem_singleton.mp hx]; lia, by show (Str.ofString "cd").length ≤ _; lia⟩⟩
section
variable {c1 : Cx} {D : Nat} {Γ : Led} {QF : AF → Loc → Led → Prop} {E : EP} {W : Params} {A : Ad} {ta la bk a1 a2 a3 sa : Addr} {xs : List Int}
theorem C_turn (I1 : In c1 (KF W) D) (hD : D ≤ 750) (hs1 : c1.env.scope = lawSc) (hc1 : c1.env.cells = [(Str.ofString "run", a3), (Str.ofString "order", a2), (Str.ofString "book", a1)]) (hcode : c1.env.code = .ref 1094) (n21 : a2 ≠ a1) (n23 : a2 ≠ a3) {k : Nat} (hk : k ≤ 3) {Xs : List (Addr × AO)} (hi : ∀ p ∈ Xs, p.2.kd = 5 ∧ Lk p.1 Γ p.2)
    (T : TI c1 A ta la bk a1 a2 a3 xs (fun a => ∀ p ∈ Xs, a ≠ p.1) k Γ) {o1 o2 o3 : Option AV} (q : ∀ Γ' o2 o3, (adr Γ').Nodup → (∀ p ∈ Xs, Lk p.1 Γ' p.2) → TI c1 A ta la bk a1 a2 a3 xs (fun a => ∀ p ∈ Xs, a ≠ p.1) (k + 1) Γ' → QF .next (rhoL sa ta A.wo o1 o2 o3) Γ') : HB c1 lawFor (rhoL sa ta A.wo o1 o2 o3) Γ QF E := by
  obtain ⟨⟨n, hn, R⟩, ⟨u, t, B, F, rel⟩, tp, lc1, ⟨oo, lc2⟩, lc3, ⟨l, hsh, hP, hc⟩, lou⟩ := T
  have hcn : ([(Str.ofString "run", a3), (Str.ofString "order", a2), (Str.ofString "book", a1)].map (·.1)).Nodup := nodupOf (by kernel_rfl)
  have hli : ∀ {ks : List Nat} {Γ' : Led}, 5 ∉ ks → Tr ks Γ Γ' → ∀ p ∈ Xs, Lk p.1 Γ' p.2 := fun h t p hp => t _ _ (by rw [(hi p hp).1]; exact h) (hi p hp).2
  refine HB_nod fun nd => ?_
  show HB c1 ((forOf (fX (tS 161))).getD []) _ _ _ _
  refine HB_lit rfl ?_
  refine HB_cons (HS_AssignC (old := none) I1 hs1 hc1 (by decide +kernel) (.there .here) hcn rfl ?_)
  walk_at "h_go"
  refine C_order I1 (nle hD rfl) tp fun o v Γ1 O M1 tp1 => ?_
  have t1 : Tr [9] Γ Γ1 := tp.mo nd M1
  have lc2' : Lk a2 Γ1 (.cell oo) := t1 _ _ (by exact nmem rfl) lc2
  obtain ⟨Γ2, U2⟩ := Up.ex lc2' (.cell (some v))
  refine asg_cell lc2' U2 ?_
  refine nx_next (HB_cons (hAssign I1 hs1 (by decide +kernel) rfl ?_))
  refine HE_nod fun nd2 => ?_
  have nd1 : (adr Γ1).Nodup := by have := nd2; rw [adr, U2.keys] at this; exact this
  have t2 : Tr [2] Γ1 Γ2 := .of nd1 (.up1 U2) fun x hx => by rw [List.mem_singleton.mp hx]; exact ⟨_, lc2', .head _⟩
  have t12 : Tr [9, 2] Γ Γ2 := t1.trans t2
  have lc1a : Lk a1 Γ2 (.cell (some (.ref bk))) := U2.other n21.symm (t1 _ _ (by exact nmem rfl) lc1)
  have lc3a : Lk a3 Γ2 (.cell (some (.ref A.ru))) := U2.other n23.symm (t1 _ _ (by exact nmem rfl) lc3)
  have lc2a := U2.lk
  have Oa : OrdR Γ2 o v := O.trk t2 rfl (by exact nmem rfl)
  have tpa := tp1.trk t2 rfl
  have hk4 : k ≤ 4 := by lia
  have cb : c1.env.cells.lookup (Str.ofString "book") = some a1 := by rw [hc1]; exact Lk.lookup (.there (.there .here)) hcn
  have co : c1.env.cells.lookup (Str.ofString "order") = some a2 := by rw [hc1]; exact Lk.lookup (.there .here) hcn
  have cr : c1.env.cells.lookup (Str.ofString "run") = some a3 := by rw [hc1]; exact Lk.lookup .here hcn
  have lia := hli (by simp) t12
  refine HE_lawcode (l := l) (P := fun a => ∀ p ∈ Xs, a ≠ p.1) I1 (nle hD rfl) hs1 hcode (t12 _ _ (by exact nmem rfl) hP) (fun p hp => ⟨t12 _ _ (by exact nmem rfl) (hc p hp).1, (hc p hp).2⟩) ?_ (clos2 rfl rfl cb co) rfl rfl (fun c' hn p hp e => by subst e; exact hn (List.mem_map_of_mem (lia p hp).mem)) ?_
  · rcases hsh with rfl | ⟨x, y, rfl⟩
    · exact .inl rfl
    · exact .inr ⟨x, .head _, rfl⟩
  intro p l' Γ3 hl' hP3 hc3 t3 c3 I3 hs3 hcs3
  have lc1b : Lk a1 Γ3 (.cell (some (.ref bk))) := t3 _ _ (by exact nmem rfl) lc1a
  have lc2b : Lk a2 Γ3 (.cell (some v)) := t3 _ _ (by exact nmem rfl) lc2a
  have t13 := t12.trans t3
  have Bb : BK bk u Γ3 := B.tr t13 rfl
  have Ob : OrdR Γ3 o v := Oa.trk t3 rfl (by exact nmem rfl)
  walk_at "h_go"
  refine HC_nod fun nd3 => C_done I3 (by lia) Bb.push rel hk4 (Ob.trk (Tr.push Tr.refl) rfl (by exact nmem rfl)) fun Γ4 B4 M4 => ?_
  have t4 : Tr [1002] (p :: Γ3) Γ4 := Bb.push.mo nd3 M4
  have t34 : Tr ([4] ++ [1002]) Γ2 Γ4 := t3.trans fun k o h l => t4 k o h (.there l)
  have t14 := t12.trans t34
  refine sto (by walk_at "h_lk") (nx_next (HB_cons (HS_If (HT_Compare rfl ?_))))
  have lc1d : Lk a1 Γ4 (.cell (some (.ref bk))) := t34 _ _ (by exact nmem rfl) lc1a
  have lc2d : Lk a2 Γ4 (.cell (some v)) := t34 _ _ (by exact nmem rfl) lc2a
  have lc3d : Lk a3 Γ4 (.cell (some (.ref A.ru))) := t34 _ _ (by exact nmem rfl) lc3a
  have lid := hli (by simp) t14
  have hP4 : Lk 1092 Γ4 (tabO l') := t4 _ _ (by exact nmem rfl) (.there hP3)
  have hc4 : ∀ p ∈ l', Lk p.2 Γ4 (codeO (c1.env.qual ++ "<lambda>")) ∧ ∀ q ∈ Xs, p.2 ≠ q.1 := fun p hp => ⟨t4 _ _ (by exact nmem rfl) (.there (hc3 p hp).1), (hc3 p hp).2⟩
  refine HE_lawcode (l := l') (P := fun a => ∀ p ∈ Xs, a ≠ p.1) I1 (nle hD rfl) hs1 hcode hP4 hc4 ?_ (clos2 rfl rfl co cr) rfl rfl (fun c' hn p hp e => by subst e; exact hn (List.mem_map_of_mem (lid p hp).mem)) ?_
  · rcases hsh with rfl | ⟨x, y, rfl⟩
    · rcases hl' with ⟨rfl, z, hz⟩ | ⟨x, rfl, _⟩
      · cases hz
      · exact .inl rfl
    · rcases hl' with ⟨rfl, _⟩ | ⟨x, rfl, h⟩
      · exact .inr ⟨y, .tail _ (.head _), rfl⟩
      · cases h
  intro p2 l2 Γ5 hl2 hP5 hc5 t5 c5 I5 hs5 hcs5
  have lc2e : Lk a2 Γ5 (.cell (some v)) := t5 _ _ (by exact nmem rfl) lc2d
  have lc3e : Lk a3 Γ5 (.cell (some (.ref A.ru))) := t5 _ _ (by exact nmem rfl) lc3d
  have t15 := t14.trans t5
  have Oe : OrdR Γ5 o v := Oa.trk (t34.trans t5) rfl (by exact nmem rfl)
  walk_at "h_go"
  refine C_put I5 (by lia) (R.tr t15 rfl).push (by lia) (F.tr t15 rfl).push rel hk4 (Oe.trk (Tr.push Tr.refl) rfl (by exact nmem rfl)) fun m Γ6 hm R6 F6 t6 => ?_
  walk_at "h_go"
  refine br_bf (by simp) ?_
  have rel' := rel.at Oe
  have t56 : Tr [103, 106, 6] Γ5 Γ6 := fun k o h l => t6 k o h (.there l)
  have t16 := t15.trans t56
  have lc1f : Lk a1 Γ6 (.cell (some (.ref bk))) := (t5.trans t56) _ _ (by exact nmem rfl) lc1d
  have B6 : BK bk (o.at u t).book Γ6 := B4.tr (t5.trans t56) rfl
  have hsh2 : l2 = [] ∨ ∃ x y, l2 = [(pos1, x), (pos2, y)] := by
    rcases hsh with rfl | ⟨x, y, rfl⟩
    · rcases hl' with ⟨rfl, z, hz⟩ | ⟨x, rfl, _⟩
      · cases hz
      · rcases hl2 with ⟨rfl, z, hz⟩ | ⟨y, rfl, _⟩
        · rcases hz with _ | ⟨_, hz⟩
          cases hz
        · exact .inr ⟨x, y, rfl⟩
    · rcases hl' with ⟨rfl, _⟩ | ⟨x, rfl, h⟩
      · rcases hl2 with ⟨rfl, _⟩ | ⟨y, rfl, h⟩
        · exact .inr ⟨_, _, rfl⟩
        · cases h
      · cases h
  have T6 : TI c1 A ta la bk a1 a2 a3 xs (fun a => ∀ p ∈ Xs, a ≠ p.1) (k + 1) Γ6 := ⟨⟨m, by lia, R6⟩, ⟨_, _, B6, F6, rel'⟩, tpa.trk (t34.trans (t5.trans t56)) rfl, lc1f, ⟨_, t56 _ _ (by exact nmem rfl) lc2e⟩, t56 _ _ (by exact nmem rfl) lc3e,
    ⟨l2, hsh2, t56 _ _ (by exact nmem rfl) hP5, fun p hp => ⟨t56 _ _ (by exact nmem rfl) (hc5 p hp).1, (hc5 p hp).2⟩⟩, t16 _ _ (by exact nmem rfl) lou⟩
  have li6 := hli (by simp) t16
  obtain ⟨j1, j2⟩ := rel'.jok (by lia)
  have e1 := rel'.j1
  have e2 := rel'.j2
  have z1 := rel'.z1.text rel'.o1 (by lia)
  have z2 := rel'.z2.text rel'.o2 (by lia)
  have r1 := R6.wo
  have r2 := R6.wd
  obtain ⟨f1, f2, f3, f4, f5, f6⟩ := F6
  generalize (o.at u t).book = u' at *
  generalize (o.at u t).file = t' at *
  obtain ⟨b1, b2, lb, lb1, lb2⟩ := B6.ex
  walk_at "h_go"
  refine ⟨[.int 1, .int 2], _, _, fun i ys Γ' => Γ' = Γ6 ∧ ys = ([AV.str t'.1, AV.str t'.2]).take i ∧ i ≤ 2, srcTup I1.G, ⟨rfl, rfl, by lia⟩, ⟨fun i ys Γ' h => ⟨trivial, by rw [h.2.1]; simp; lia⟩, ?_⟩, ?_⟩
  · rintro i v ys Γ' hv ⟨rfl, rfl, hi2⟩ c' it' l' I' hs' hc'
    cases i with
    | zero =>
      cases hv
      walk_at "h_go"
      rw [e1]
      exact ⟨_, .refl, rfl, rfl, by lia⟩
    | succ i =>
      cases i with
      | zero =>
        cases hv
        walk_at "h_go"
        rw [e2]
        exact ⟨_, .refl, rfl, rfl, by lia⟩
      | succ i => simp at hv
  · rintro tl ys Γ' ⟨rfl, hys, _⟩
    have hys : ys = [AV.str t'.1, AV.str t'.2] := hys
    subst hys
    walk_at "h_go"
    intro x1
    walk_at "h_go"
    intro x2
    walk_at "h_go"
    intro x3
    walk_at "h_go"
    refine HCmp_ne_lists I1 (nle hD rfl) (by walk_at "h_lk") (ys := [.str t'.1, .str t'.2, .str (Str.ofString "1\n")]) .here (.cons (.str _ _) (.cons (.str _ _) (.cons (.str _ _) .nil))) ?_
    walk_at "h_go"
    refine br_bt (by simp) ?_
    walk_at "h_go"
    intro x4
    walk_at "h_go"
    intro x5
    walk_at "h_go"
    refine HCmp_ne_lists I1 (nle hD rfl) (by walk_at "h_lk") .here (.cons (.int _ _) (.cons (.int _ _) (.cons (.int _ _) .nil))) ?_
    walk_at "h_go"
    refine br_bt (by simp) (HB_nod fun nd9 => ?_)
    walk_at "h_go"
    exact q _ _ _ nd9 (fun p hp => .there (.there (.there (.there (.there (.there (li6 p hp))))))) T6.push.push.push.push.push.push
end
theorem Lk.adr {k : Addr} {o : AO} {Γ : Led} (l : Lk k Γ o) : k ∈ adr Γ := List.mem_map_of_mem (f := (·.1)) l.mem
section
variable {c1 : Cx} {D : Nat} {Γ : Led} {Q : AV → Led → Prop} {E : EP} {W : Params} {B : Ad} {ta la bk a1 a2 a3 sa : Addr} {zs : List Int}
theorem law_open {b : List Stmt} {ρ : Loc} {QF : AF → Loc → Led → Prop} {b1 b2 : Addr} (R : RS B 0 Γ) (f1 : Lk B.fa Γ (.sd (fE (Str.ofString "") (Str.ofString "ab\ncd")))) (f2 : Lk B.oa Γ (.id (oE B))) (f3 : Lk B.m1 Γ (.sd (mE (Str.ofString "O") (Str.ofString "OUT") 0))) (f4 : Lk B.m2 Γ (.sd (mE (Str.ofString "A") (Str.ofString "LOG") (Str.ofString "ab\ncd").length))) (f5 : Lk B.m3 Γ (.sd (mE (Str.ofString "I") (Str.ofString "IN") 0))) (tp : Tp ta la zs Γ) (lb : Lk bk Γ (.id [(1, .ref b1), (2, .ref b2)])) (lb1 : Lk b1 Γ (.list [.str (Str.ofString "")])) (lb2 : Lk b2 Γ (.list [.str (Str.ofString "ab"), .str (Str.ofString "cd")]))
    (l1 : Lk a1 Γ (.cell (some (.ref bk)))) (l2 : Lk a2 Γ (.cell none)) (l3 : Lk a3 Γ (.cell (some (.ref B.ru)))) (lt : Lk 1092 Γ (tabO [])) (lo : Lk B.ou Γ (.list [])) (q : (∀ P, TI c1 B ta la bk a1 a2 a3 zs P 0 Γ) → HB c1 b ρ Γ QF E) : HB c1 b ρ Γ QF E :=
  q fun P => ⟨⟨0, Nat.le_refl 0, R⟩, ⟨(([], Str.ofString ""), ([Str.ofString "ab"], Str.ofString "cd")), (Str.ofString "", Str.ofString "ab\ncd"), ⟨b1, b2, lb, lb1, lb2⟩, ⟨f1, f2, by rw [show ((Str.ofString "", Str.ofString "ab\ncd") : Str × Str).1 = Str.ofString "" from rfl, sl_no]; exact f3, f4, f5, by decide +kernel⟩, rel0⟩, tp, l1, ⟨_, l2⟩, l3, ⟨[], .inl rfl, lt, fun p hp => nomatch hp⟩, lo⟩
theorem C_rest (I1 : In c1 (KF W) D) (hD : D ≤ 750) (hs1 : c1.env.scope = lawSc) (hc1 : c1.env.cells = [(Str.ofString "run", a3), (Str.ofString "order", a2), (Str.ofString "book", a1)]) (hcode : c1.env.code = .ref 1094) (n21 : a2 ≠ a1) (n23 : a2 ≠ a3)
    (T : ∀ P, TI c1 B ta la bk a1 a2 a3 zs P 0 Γ) (q : ∀ Γ', (∃ l, Lk 1092 Γ' (tabO l)) → Q (.bool true) Γ') : HB c1 lawRest (rhoL sa ta B.wo none none none) Γ (Ret Q) E := by
  show HB c1 ((restOf (fX (tS 161))).getD []) _ _ _ _
  refine HB_lit rfl ?_
  refine HB_nod fun nd => HB_cons (HS_For I1.G (fun _ => rfl) ?_)
  have tp := (T fun _ => True).tp
  walk_at "h_go"
  refine C_next I1 (nle hD rfl) (by decide) tp fun r Γ1 M1 tp1 h0 h1 => ?_
  have t1 : Tr [9] Γ Γ1 := tp.mo nd M1
  obtain ⟨n, rfl⟩ := Int.eq_ofNat_of_zero_le h0
  have e1 : (1 : Int) + (n : Int) = ((n + 1 : Nat) : Int) := by lia
  walk_at "h_go"
  rw [e1]
  walk_at "h_go"
  intro rr
  refine ⟨_, _, _, fun k ρ' Γ' => ∃ o1 o2 o3, ρ' = rhoL sa ta B.wo o1 o2 o3 ∧ Lk rr Γ' (rngO (n + 1 : Nat)) ∧ TI c1 B ta la bk a1 a2 a3 zs (· ≠ rr) k Γ' ∧ k ≤ n + 1, srcRange I1.G (by lia), ⟨none, none, none, rfl, .here, ((T _).trk t1 tp1).push, Nat.zero_le _⟩, fun k ρ' Γ' ⟨_, _, _, _, h, _⟩ => h, .inl fun _ _ => rfl, ?_, ?_⟩
  · rintro it k x ρ' Γ' hx ⟨o1, o2, o3, rfl, lr, T', hk⟩
    refine HAsg_Name I1 hs1 (by decide +kernel) (sto (by walk_at "h_lk") ?_)
    refine HB_nod fun nd' => ?_
    have hne : rr ≠ it := fun e => (List.nodup_cons.mp nd').1 (show it ∈ adr Γ' from e ▸ lr.adr)
    have hkn : k < n + 1 := by have := (List.getElem?_eq_some_iff.mp hx).1; simpa [upTo] using this
    have T2 : TI c1 B ta la bk a1 a2 a3 zs (fun a => ∀ p ∈ [(it, ritr (n + 1) (k + 1)), (rr, rngO (n + 1 : Nat))], a ≠ p.1) k ((it, ritr (n + 1) (k + 1)) :: Γ') := by
      have T3 := T'.push (p := (it, ritr (n + 1) (k + 1)))
      refine ⟨T3.run, T3.dat, T3.tp, T3.k1, T3.k2, T3.k3, ?_, T3.ou⟩
      obtain ⟨l, h1, h2, h3⟩ := T'.tb
      refine ⟨l, h1, .there h2, fun p hp => ⟨.there (h3 p hp).1, fun q hq => ?_⟩⟩
      rcases List.mem_cons.mp hq with rfl | hq
      · exact fun e => (List.nodup_cons.mp nd').1 (show it ∈ adr Γ' from (show p.2 = it from e) ▸ (h3 p hp).1.adr)
      · rw [List.mem_singleton.mp hq]; exact (h3 p hp).2
    refine C_turn (Xs := [(it, ritr (n + 1) (k + 1)), (rr, rngO (n + 1 : Nat))]) I1 hD hs1 hc1 hcode n21 n23 (k := k) (by lia) (fun p hp => ?_) T2 fun Γ2 p2 p3 nd9 hX T9 => ?_
    · rcases List.mem_cons.mp hp with rfl | hp
      · exact ⟨rfl, .here⟩
      · rw [List.mem_singleton.mp hp]; exact ⟨rfl, .there lr⟩
    · obtain ⟨Γ3, hsb, hs⟩ := Lk.split (hX _ (.head _))
      exact ⟨Γ3, hsb, _, _, _, rfl, hs _ _ hne (hX _ (.tail _ (.head _))), T9.out nd9 rfl (hX _ (.head _)) hs, hkn⟩
  · rintro ρ' Γ' ⟨o1, o2, o3, rfl, lr, T', hk⟩
    have T'' := T'
    obtain ⟨⟨m, hm, R⟩, _, _, _, _, _, _, ou⟩ := T'
    have w1 := R.wo
    have w2 := R.wd
    walk_at "h_go"
    intro el
    refine HCmp_eq_lists I1 (nle hD rfl) (.there ou) .here .nil ?_
    walk_at "h_go"
    show Q (.bool _) _
    rw [show (Str.ofString "" == Str.ofString "") = true by decide +kernel]
    exact q _ (T''.tb.imp fun _ h => .there h.2.1)
end
section
variable {c : Cx} {D : Nat} {Γ Γ' Γu : Led} {Q : AV → Led → Prop} {E : EP} {W : Params} {po pg pd bk : Addr}
theorem C_control (I : In c (KF W) D) (hD : D ≤ 930) {m : Int} (q : ∀ cp co cd, Q (.ref co) ((cp, .list []) :: (co, .inst 787 cd) :: (cd, .sd [(Str.ofString "pile", .ref cp), (Str.ofString "most", .int m), (Str.ofString "failed_at", .int (-1))]) :: Γ)) : HC c (.ref 787) [.int m] Γ Q E := by
  refine HC_new I mk_787 in_787 (type_fn fn_784) fun c' pg pd I' => ?_
  (refine' HCc_fn (by assumption) fn_784 ?hx ?hD ?hbind ?hcell ?hloc ?hrev ?hρ ?hnod ?hco ?q; walk_at "h_in"; intro c1 I1 hs1 hc1)
  walk_at "h_go"
  intro po
  walk_at "h_go"
  exact ⟨rfl, q _ _ _⟩
end
section
variable {c : Cx} {D : Nat} {Γ Γ' Γu : Led} {Q : AV → Led → Prop} {E : EP} {W : Params} {po pg pd bk : Addr}
theorem C_world (I : In c (KF W) D) (hD : D ≤ 930) (q : ∀ A : Ad, Q (.ref A.wo) ((A.n8, .list []) :: (A.n7, .list []) :: (A.n6, .list []) :: (A.n5, .sd []) :: (A.oa, .id []) :: (A.fa, .sd []) :: (A.n4, .list []) :: (A.ou, .list []) :: (A.fn, .sd []) :: (A.n3, .sd []) :: (A.n2, .sd []) :: (A.n1, .sd []) :: (A.wo, .inst 816 A.wd) :: (A.wd, .sd (wdE A)) :: Γ)) : HC c (.ref 816) [] Γ Q E := by
  refine HC_new I mk_816 in_816 (type_fn fn_813) fun c' wo wd I' => ?_
  refine' HCc_dflt (as' := [.ref wo, .int 16, .int 9, .int 2000, .int 20, .int 2000]) I' fn_813 ?hx ?hD ?hbind ?hcell ?hloc ?hrev ?hρ ?hnod ?hco ?q
  case hx => exact rfl
  case hD => show _ + 1 < 1000; lia
  case hbind =>
    intro fd e1 e2 e3 s vs X hvs
    obtain ⟨⟩ := fd; dsimp only at e1 e2 e3; subst e1 e2 e3
    obtain ⟨v, rfl, hv⟩ := hvs.one
    exact ⟨[v, .int 16 1317, .int 9 1318, .int 2000 1319, .int 20 1320, .int 2000 1321], .cons hv (.cons (.int ..) (.cons (.int ..) (.cons (.int ..) (.cons (.int ..) (.cons (.int ..) .nil))))), binds_K (T := 806) X rfl (o := g806) (by kernel_rfl) (show g806.data = .seq #[.int 16 1317, .int 9 1318, .int 2000 1319, .int 20 1320, .int 2000 1321] 0 from rfl) rfl rfl⟩
  case hcell => decide +kernel
  case hloc => decide +kernel
  case hrev => decide +kernel
  case hρ => walk_at "h_locs"
  case hnod => exact nodupOf (by kernel_rfl)
  case hco => decide +kernel
  intro c1 o fd I1 hs1 hc1 hf1 hcd1 ho hdata hps hA s S
  refine own_of_HB hA ?_ S
  walk_at "h_go"
  refine HE_Dict0 fun n1 => ?_
  walk_at "h_go"
  refine HE_Dict0 fun n2 => ?_
  walk_at "h_go"
  refine HE_Dict0 fun n3 => ?_
  walk_at "h_go"
  refine HE_Dict0 fun fn => ?_
  walk_at "h_go"
  intro ou
  walk_at "h_go"
  intro n4
  walk_at "h_go"
  refine HE_Dict0 fun fa => ?_
  walk_at "h_go"
  refine HE_Dict0i fun oa => ?_
  walk_at "h_go"
  refine HE_Dict0 fun n5 => ?_
  walk_at "h_go"
  intro n6
  walk_at "h_go"
  intro n7
  walk_at "h_go"
  intro n8
  walk_at "h_go"
  exact ⟨rfl, q { ru := 0, rd := 0, co := 0, wo := wo, wd := wd, fn := fn, an := 0, aq := 0, ou := ou, fa := fa, oa := oa, m1 := 0, m2 := 0, m3 := 0, n1 := n1, n2 := n2, n3 := n3, n4 := n4, n5 := n5, n6 := n6, n7 := n7, n8 := n8 }⟩
end
section
variable {c : Cx} {D : Nat} {Γ Γ' Γu : Led} {Q : AV → Led → Prop} {E : EP} {W : Params} {po pg pd bk : Addr}
theorem C_newrun (I : In c (KF W) D) (hD : D ≤ 900) {A : Ad} {an : Addr} (l1 : Lk A.wo Γ (.inst 816 A.wd)) (l2 : Lk A.wd Γ (.sd (wdE A))) (q : ∀ ru rd co cp cd aq, Q (.ref ru) ((aq, .list []) :: (cp, .list []) :: (co, .inst 787 cd) :: (cd, .sd [(Str.ofString "pile", .ref cp), (Str.ofString "most", .int 20), (Str.ofString "failed_at", .int (-1))]) :: (ru, .inst 1020 rd) :: (rd, .sd (rdE { A with ru := ru, rd := rd, co := co, an := an, aq := aq })) :: Γ)) : HC c (.ref 1020) [.ref A.wo, .none, .ref an] Γ Q E := by
  refine HC_new I mk_1020 in_1020 (type_fn fn_921) fun c' ru rd I' => ?_
  (refine' HCc_fn (by assumption) fn_921 ?hx ?hD ?hbind ?hcell ?hloc ?hrev ?hρ ?hnod ?hco ?q; walk_at "h_in"; intro c1 I1 hs1 hc1)
  walk_at "h_go"
  refine C_control I1 (by lia) fun cp co cd => ?_
  walk_at "h_go"
  intro aq
  walk_at "h_go"
  exact ⟨rfl, q ru rd co cp cd aq⟩
end
section
variable {c : Cx} {D : Nat} {Γ Γ' Γu : Led} {Q : AV → Led → Prop} {E : EP} {W : Params} {po pg pd bk : Addr}
theorem C_name (I : In c (KF W) D) (hD : D ≤ 900) {x : Str} (hx : x = Str.ofString "OUT" ∨ x = Str.ofString "LOG" ∨ x = Str.ofString "IN") (q : Q (.str x) Γ) : HC c (.ref 274) [.str x] Γ Q E := by
  have hl : x.length ≤ 3 ∧ 1 ≤ x.length := by rcases hx with rfl | rfl | rfl <;> decide +kernel
  have hl1 := hl.1
  have hl2 := hl.2
  refine HC_sub ?_
  (refine' HC_fn (by assumption) fn_274 ?hx ?hD ?hbind ?hcell ?hloc ?hrev ?hρ ?hnod ?hco ?q; walk_at "h_in"; intro c1 I1 hs1 hc1); clear I
  walk_at "h_go"
  have ha : x.cps.all (· < 128) = true := by rcases hx with rfl | rfl | rfl <;> decide +kernel
  have hc : x.cps.all (fun k => 33 ≤ k && k ≤ 126) = true := by rcases hx with rfl | rfl | rfl <;> decide +kernel
  have hg : ∀ (i : Nat) (v : AV), (signs x)[i]? = some v → ∃ k : Nat, v = AV.str ⟨#[k]⟩ ∧ 33 ≤ k ∧ k ≤ 126 := by
    intro i v hv
    unfold signs at hv
    obtain ⟨k, hk, rfl⟩ := List.mem_map.mp (List.mem_of_getElem? hv)
    have := Array.all_eq_true_iff_forall_mem.mp hc k (by simpa using hk)
    simp at this
    exact ⟨k, rfl, this.1, this.2⟩
  refine ⟨signs x, _, _, fun i ys Γ' => Γ' = Γ ∧ ys = [], srcStr I1.G ha, ⟨rfl, rfl⟩, ⟨fun i ys Γ' h => ⟨trivial, by rw [h.2]; decide⟩, ?_⟩, ?_⟩
  · rintro i v ys Γ' hv ⟨rfl, rfl⟩ c' it l' I' hs' hc'
    obtain ⟨k, rfl, hk1, hk2⟩ := hg i v hv
    walk_at "h_go"
    exact ⟨_, .refl, rfl, rfl⟩
  · rintro l ys Γ' ⟨rfl, rfl⟩
    walk_at "h_go"
    intro el
    walk_at "h_go"
    refine HCmp_ne_lists I1 (dle hD rfl) (.there .here) .here .nil ?_
    walk_at "h_go"
    exact ⟨Γ', by walk_at "h_sb", q⟩
end
section
variable {c : Cx} {D : Nat} {Γ Γ' Γu : Led} {Q : AV → Led → Prop} {E : EP} {W : Params} {po pg pd bk : Addr}
theorem Up.back {k : Addr} {a b : AO} {Γ Γ' : Led} (U : Up k b Γ Γ') : (adr Γ).Nodup → Lk k Γ a → Up k a Γ' Γ := by
  induction U with
  | here =>
    intro nd l
    cases l with
    | here => exact .here
    | there l => obtain ⟨_, U'⟩ := Up.ex l a; exact absurd U'.key_mem (List.nodup_cons.mp nd).1
  | there U ih =>
    intro nd l
    cases l with
    | here => exact absurd U.key_mem (List.nodup_cons.mp nd).1
    | there l => exact .there (ih (List.nodup_cons.mp nd).2 l)
theorem C_else (I : In c (KF W) D) (hD : D ≤ 900) {A : Ad} {md nm : Str} {es : List (Int × AV)} (hel : es.length ≤ 90) (l1 : Lk A.wo Γ (.inst 816 A.wd)) (l2 : Lk A.wd Γ (.sd (wdE A))) (l3 : Lk A.oa Γ (.id es))
    (hes : ∀ (i : Nat) k v, es[i]? = some (k, v) → Lk k es v ∧ ∃ m r x, v = .ref m ∧ Lk m Γ (.sd r) ∧ Lk (Str.ofString "name") r (.str x) ∧ (x == nm) = false) (q : Q (.bool false) Γ) : HC c (.ref 288) [.ref A.wo, .str md, .str nm] Γ Q E := by
  refine HC_nod fun nd => HC_mods I l3 fun hm => HC_ide ?_
  (refine' HC_fn (by assumption) fn_288 ?hx ?hD ?hbind ?hcell ?hloc ?hrev ?hρ ?hnod ?hco ?q; walk_at "h_in"; intro c1 I1 hs1 hc1); clear I
  refine HB_ide l3 fun ep Γ1 U => ?_
  have k1 := U.oth nd l3 l1 (by simp)
  have k2 := U.oth nd l3 l2 (by simp)
  walk_at "h_go"
  refine HS_For I1.G (fun _ => rfl) ?_
  walk_at "h_go"
  refine ⟨_, _, _, fun i ρ' Γ' => ∃ o1 o2, Γ' = Γ1 ∧ ρ' = [(Str.ofString "world", some (.ref A.wo)), (Str.ofString "mode", some (.str md)), (Str.ofString "name", some (.str nm)), (Str.ofString "channel", o1), (Str.ofString "other", o2)], srcKeys (es := es) (ep := ep) I1.G hm, ⟨none, none, rfl, rfl⟩, fun i ρ' Γ' ⟨_, _, h, _⟩ => by subst h; exact U.lk, .inl fun _ _ => rfl, ?_, ?_⟩
  · rintro it i x ρ' Γ' hx ⟨o1, o2, rfl, rfl⟩
    rw [List.getElem?_map] at hx
    cases hz : es[i]? with
    | none => rw [hz] at hx; cases hx
    | some p =>
      rw [hz] at hx; cases hx
      obtain ⟨k, v⟩ := p
      obtain ⟨hk, m, r, x, rfl, hm', hn, hne⟩ := hes i k v hz
      have k3 := U.oth nd l3 hm' (by simp)
      walk_at "h_go"
      refine HSub_ide (fun _ => rfl) (.there U.lk) hk ?_
      walk_at "h_go"
      refine br_bf hne ?_
      walk_at "h_go"
      exact ⟨Γ', .refl, _, _, rfl, rfl⟩
  · rintro ρ' Γ' ⟨o1, o2, rfl, rfl⟩
    walk_at "h_go"
    exact ⟨_, _, _, _, U.lk, U.back nd l3, q⟩
end
section
variable {c : Cx} {D : Nat} {Γ Γ1 : Led} {Q : AV → Led → Prop} {E : EP} {W : Params} {A : Ad} {t1 t2 t3 : Str}
theorem C_openO (I : In c (KF W) D) (hD : D ≤ 890) {Γ2 : Addr → Led} (l1 : Lk A.wo Γ (.inst 816 A.wd)) (l2 : Lk A.wd Γ (.sd (wdE A))) (l3 : Lk A.oa Γ (.id [])) (l4 : Lk A.fa Γ (.sd [(Str.ofString "LOG", .str t1), (Str.ofString "IN", .str t2)]))
    (U1 : Up A.fa (.sd [(Str.ofString "LOG", .str t1), (Str.ofString "IN", .str t2), (Str.ofString "OUT", .str (Str.ofString ""))]) Γ Γ1) (U2 : ∀ m, Up A.oa (.id [(1, .ref m)]) Γ1 (Γ2 m))
    (q : ∀ m, Q .none ((m, .sd (mE (Str.ofString "O") (Str.ofString "OUT") 0)) :: Γ2 m)) : HC c (.ref 281) [.ref A.wo, .str (Str.ofString "O"), .int 1, .str (Str.ofString "OUT"), .int 0] Γ Q E := by
  refine HC_nod fun nd => ?_
  have k1 := U1.oth nd l4 l1 (by simp)
  have k2 := U1.oth nd l4 l2 (by simp [wdE])
  have k3 := U1.oth nd l4 l3 (by simp)
  (refine' HC_fn (by assumption) fn_281 ?hx ?hD ?hbind ?hcell ?hloc ?hrev ?hρ ?hnod ?hco ?q; walk_at "h_in"; intro c1 I1 hs1 hc1); clear I
  walk_at "h_go"
  refine C_else (es := []) I1 (dle hD rfl) (by simp) l1 l2 l3 (fun i k v h => by simp at h) ?_
  walk_at "h_go"
  refine C_name I1 (dle hD rfl) (.inl rfl) ?_
  walk_at "h_go"
  refine HSet_sdp l4 (Nat.le_of_ble_eq_true rfl) (.new (notinOf (by kernel_rfl))) U1 ?_
  walk_at "h_go"
  refine HE_DictS rfl rfl (by simp) (by decide) fun m => ?_
  iterate 6 (refine HPs_str ?_; walk_at "h_go")
  refine HPs_nil (dict_endS .here (nodupOf (by kernel_rfl)) .here ?_)
  walk_at "h_go"
  refine HSet_idn (.there k3) (Nat.le_of_ble_eq_true rfl) (by simp) (.there (U2 m)) ?_
  walk_at "h_go"
  exact q m
theorem C_openA (I : In c (KF W) D) (hD : D ≤ 890) {Γ2 : Addr → Led} (l1 : Lk A.wo Γ (.inst 816 A.wd)) (l2 : Lk A.wd Γ (.sd (wdE A))) (l3 : Lk A.oa Γ (.id [(1, .ref A.m1)])) (l4 : Lk A.fa Γ (.sd [(Str.ofString "LOG", .str t1), (Str.ofString "IN", .str t2), (Str.ofString "OUT", .str t3)])) (ht : t1.length ≤ 1000)
    (lm1 : Lk A.m1 Γ (.sd (mE (Str.ofString "O") (Str.ofString "OUT") 0))) (U2 : ∀ m, Up A.oa (.id [(1, .ref A.m1), (2, .ref m)]) Γ (Γ2 m))
    (q : ∀ m, Q .none ((m, .sd (mE (Str.ofString "A") (Str.ofString "LOG") t1.length)) :: Γ2 m)) : HC c (.ref 281) [.ref A.wo, .str (Str.ofString "A"), .int 2, .str (Str.ofString "LOG"), .int 0] Γ Q E := by
  (refine' HC_fn (by assumption) fn_281 ?hx ?hD ?hbind ?hcell ?hloc ?hrev ?hρ ?hnod ?hco ?q; walk_at "h_in"; intro c1 I1 hs1 hc1); clear I
  walk_at "h_go"
  refine C_else (es := [(1, .ref A.m1)]) I1 (dle hD rfl) (by simp) l1 l2 l3 (fun i k v h => ?_) ?_
  · cases i with
    | zero => cases h; exact ⟨.here, _, _, _, rfl, lm1, by walk_at "h_lk", by decide +kernel⟩
    | succ i => simp at h
  walk_at "h_go"
  refine C_name I1 (dle hD rfl) (.inr (.inl rfl)) ?_
  walk_at "h_go"
  refine HE_DictS rfl rfl (by simp) (by decide) fun m => ?_
  iterate 6 (refine HPs_str ?_; walk_at "h_go")
  refine HPs_nil (dict_endS .here (nodupOf (by kernel_rfl)) .here ?_)
  walk_at "h_go"
  refine HSet_idn (.there l3) (Nat.le_of_ble_eq_true rfl) (by simp) (.there (U2 m)) ?_
  walk_at "h_go"
  exact q m
theorem C_openI (I : In c (KF W) D) (hD : D ≤ 890) {Γ2 : Addr → Led} (l1 : Lk A.wo Γ (.inst 816 A.wd)) (l2 : Lk A.wd Γ (.sd (wdE A))) (l3 : Lk A.oa Γ (.id [(1, .ref A.m1), (2, .ref A.m2)])) (l4 : Lk A.fa Γ (.sd [(Str.ofString "LOG", .str t1), (Str.ofString "IN", .str t2), (Str.ofString "OUT", .str t3)]))
    {k1 k2 : Int} (lm1 : Lk A.m1 Γ (.sd (mE (Str.ofString "O") (Str.ofString "OUT") k1))) (lm2 : Lk A.m2 Γ (.sd (mE (Str.ofString "A") (Str.ofString "LOG") k2))) (U2 : ∀ m, Up A.oa (.id [(1, .ref A.m1), (2, .ref A.m2), (3, .ref m)]) Γ (Γ2 m))
    (q : ∀ m, Q .none ((m, .sd (mE (Str.ofString "I") (Str.ofString "IN") 0)) :: Γ2 m)) : HC c (.ref 281) [.ref A.wo, .str (Str.ofString "I"), .int 3, .str (Str.ofString "IN"), .int 0] Γ Q E := by
  (refine' HC_fn (by assumption) fn_281 ?hx ?hD ?hbind ?hcell ?hloc ?hrev ?hρ ?hnod ?hco ?q; walk_at "h_in"; intro c1 I1 hs1 hc1); clear I
  walk_at "h_go"
  refine C_else (es := [(1, .ref A.m1), (2, .ref A.m2)]) I1 (dle hD rfl) (by simp) l1 l2 l3 (fun i k v h => ?_) ?_
  · cases i with
    | zero => cases h; exact ⟨.here, _, _, _, rfl, lm1, by walk_at "h_lk", by decide +kernel⟩
    | succ i => cases i with
      | zero => cases h; exact ⟨.there .here, _, _, _, rfl, lm2, by walk_at "h_lk", by decide +kernel⟩
      | succ i => simp at h
  walk_at "h_go"
  refine C_name I1 (dle hD rfl) (.inr (.inr rfl)) ?_
  walk_at "h_go"
  refine HE_DictS rfl rfl (by simp) (by decide) fun m => ?_
  iterate 6 (refine HPs_str ?_; walk_at "h_go")
  refine HPs_nil (dict_endS .here (nodupOf (by kernel_rfl)) .here ?_)
  walk_at "h_go"
  refine HSet_idn (.there l3) (Nat.le_of_ble_eq_true rfl) (by simp) (.there (U2 m)) ?_
  walk_at "h_go"
  exact q m
end
section
variable {c : Cx} {D : Nat} {Γ : Led} {Q : AV → Led → Prop} {E : EP} {W : Params} {A : Ad}
theorem swapped_no {ts : List Expr} {v : Expr} {e : Env} {sc : Scope} (h : e.scope = sc) (k : ∀ e : Env, e.scope = sc → swappedStores ts v e = pure none) : swappedStores ts v e = pure none := k e h
theorem C_law0 (G0 : Gd0 c) (hK : c.K = KF W) (hdp : c.A.depth ≤ D) (hun : c.A.units ≤ 3 * D) (hD : D ≤ 700) {sa : Addr} {xs : List Int} (hl : ∃ vs : List Value, c.h₀.IsList sa vs.toArray ∧ VRs c.h₀ vs (xs.map .int)) (hx : xs.length ≤ 63) (lt : Lk 1092 Γ (tabO [])) (q : ∀ Γ', (∃ l, Lk 1092 Γ' (tabO l)) → Q (.bool true) Γ') : HCc c (.ref 1095) [.ref sa] Γ Q E := by
  refine' HCc_cells3T G0 hK hdp hun fn_1095 ?hx ?hD ?hbind ?hcs ?hloc ?hnc ?hxn ?hrev ?hρ ?hρl ?hnod ?hco ?q
  case hx => exact rfl
  case hD => show _ + 1 < 1000; lia
  case hbind => exact bdsOf rfl rfl rfl rfl (by decide +kernel) rfl
  case hcs => intro _; exact rfl
  case hloc => decide +kernel
  case hnc => decide +kernel
  case hxn => decide +kernel
  case hrev => decide +kernel
  case hρ => walk_at "h_locs"
  case hρl => kernel_rfl
  case hnod => exact nodupOf (by kernel_rfl)
  case hco => decide +kernel
  intro c1 a1 a2 a3 o fd I1 hh0 hs1 hc1 hcd1 ho hdata
  have hl1 : ∃ vs : List Value, c1.h₀.IsList sa vs.toArray ∧ VRs c1.h₀ vs (xs.map .int) := by rw [hh0]; exact hl
  have hcode : c1.env.code = .ref 1094 := by
    have e1 : List.lookup 1095 (KF W) = some g1095 := by kernel_rfl
    rw [e1] at ho
    cases ho
    have e2 : (match g1095.data with | .func f => f.code | _ => .none) = .ref 1094 := by kernel_rfl
    rw [hdata] at e2
    rw [hcd1]; exact e2
  refine HB_nod fun nd0 => ?_
  have n21 : a2 ≠ a1 := fun e => (List.nodup_cons.mp nd0).1 (by rw [← e]; exact .head _)
  have n23 : a2 ≠ a3 := fun e => (List.nodup_cons.mp (List.nodup_cons.mp nd0).2).1 (by rw [e]; exact .head _)
  have hxl : (xs.map AV.int).length ≤ 9999 := by simp; lia
  walk_at "h_go"
  refine HSl_base (k := 48) hxl hl1 (fun _ => rfl) fun l0 => ?_
  refine ⟨(xs.map AV.int).take 48, _, _, fun i ys Γ' => Γ' = (l0, .list ((xs.map AV.int).take 48)) :: (a1, .cell none) :: (a2, .cell none) :: (a3, .cell none) :: Γ ∧ ∃ zs : List Int, ys = zs.map .int ∧ zs.length = i ∧ i ≤ xs.length, srcList I1.G, ⟨rfl, [], rfl, rfl, Nat.zero_le _⟩, ⟨fun i ys Γ' ⟨h, zs, h1, h2, h3⟩ => ⟨by subst h; exact .here, by subst h1; simp; lia⟩, ?_⟩, ?_⟩
  · rintro i v ys Γ' hv ⟨rfl, zs, rfl, hzl, hi⟩ c' it l' I' hs' hc'
    obtain ⟨y, rfl⟩ : ∃ y, v = .int y := by
      have := List.mem_of_getElem? hv
      obtain ⟨y, _, h⟩ := List.mem_map.mp (List.mem_of_mem_take this)
      exact ⟨y, h.symm⟩
    have hlt : i < xs.length := by
      have := (List.getElem?_eq_some_iff.mp hv).1
      simp at this; lia
    walk_at "h_go"
    exact ⟨_, .refl, rfl, zs ++ [_], by rw [List.map_append]; rfl, by simp [hzl], hlt⟩
  · rintro la ys Γ' ⟨rfl, zs, rfl, hzl, hi⟩
    walk_at "h_go"
    intro ta
    walk_at "h_go"
    refine C_world I1 (dle hD rfl) fun A => ?_
    walk_at "h_go"
    refine HS_AssignC (old := none) I1 hs1 hc1 (by decide +kernel) (.there (.there .here)) (nodupOf (by kernel_rfl)) rfl ?_
    refine HE_DictI rfl rfl (by simp) (by decide) fun bk => ?_
    refine HPs_int ?_
    walk_at "h_go"
    intro b1
    refine HPs_int ?_
    walk_at "h_go"
    intro b2
    refine HPs_nil (dict_end (.there (.there .here)) (by simp) (.there (.there .here)) ?_)
    refine asg_cell (by walk_at "h_lk") (by walk_at "h_lk") ?_
    walk_at "h_go"
    refine HS_AssignT rfl (swapped_no hs1 fun e he => by cases e; subst he; rfl) ?_
    walk_at "h_go"
    refine HAsg_T2 I1 rfl rfl (HAsg_Sub rfl ?_)
    walk_at "h_go"
    refine HSet_sdp (es := []) (es' := [(Str.ofString "LOG", .str (Str.ofString "ab\ncd"))]) (by walk_at "h_lk") (Nat.le_of_ble_eq_true rfl) (.new (by simp)) (by walk_at "h_lk") ?_
    refine HAsg_Sub rfl ?_
    walk_at "h_go"
    refine HSet_sdp (es := [(Str.ofString "LOG", .str (Str.ofString "ab\ncd"))]) (es' := [(Str.ofString "LOG", .str (Str.ofString "ab\ncd")), (Str.ofString "IN", .str (Str.ofString "1\n"))]) (by walk_at "h_lk") (Nat.le_of_ble_eq_true rfl) (.new (notinOf (by kernel_rfl))) (by walk_at "h_lk") ?_
    walk_at "h_go"
    refine C_openO (A := A) I1 (dle hD rfl) (by walk_at "h_lk") (by walk_at "h_lk") (by walk_at "h_lk") (by walk_at "h_lk") (by walk_at "h_lk") (fun m => by walk_at "h_lk") fun m1 => ?_
    walk_at "h_go"
    refine C_openA (A := { A with m1 := m1 }) I1 (dle hD rfl) (by walk_at "h_lk") (by walk_at "h_lk") (by walk_at "h_lk") (by walk_at "h_lk") (by decide +kernel) (by walk_at "h_lk") (fun m => by walk_at "h_lk") fun m2 => ?_
    walk_at "h_go"
    refine C_openI (A := { A with m1 := m1, m2 := m2 }) I1 (dle hD rfl) (by walk_at "h_lk") (by walk_at "h_lk") (by walk_at "h_lk") (by walk_at "h_lk") (by walk_at "h_lk") (by walk_at "h_lk") (fun m => by walk_at "h_lk") fun m3 => ?_
    walk_at "h_go"
    refine HS_AssignC (old := none) I1 hs1 hc1 (by decide +kernel) .here (nodupOf (by kernel_rfl)) rfl ?_
    walk_at "h_go"
    refine HE_Dict0 fun an => ?_
    walk_at "h_go"
    refine C_newrun (A := { A with m1 := m1, m2 := m2, m3 := m3 }) I1 (dle hD rfl) (by walk_at "h_lk") (by walk_at "h_lk") fun ru rd co cp cd aq => ?_
    refine asg_cell (by walk_at "h_lk") (by walk_at "h_lk") (nx_next ?_)
    refine HB_ls (a := aq) (l := []) (n := 0) (by walk_at "h_lk") (Nat.le_refl 0) (by walk_at "h_lk") ?_
    refine HB_wl (a := ta) (l := [.int 0, .ref la]) (by walk_at "h_lk") (by walk_at "h_lk") ?_
    refine HB_wl (a := la) (l := zs.map .int) (by walk_at "h_lk") (by walk_at "h_lk") ?_
    refine law_open (B := { A with ru := ru, rd := rd, co := co, an := an, aq := aq, m1 := m1, m2 := m2, m3 := m3 }) (ta := ta) (la := la) (zs := zs) (bk := bk) (a1 := a1) (a2 := a2) (a3 := a3) (b1 := b1) (b2 := b2) (c1 := c1) ⟨by walk_at "h_lk", by walk_at "h_lk", by walk_at "h_lk", by walk_at "h_lk", by walk_at "h_lk", by walk_at "h_lk", by walk_at "h_lk", by simp⟩ (by walk_at "h_lk") (by walk_at "h_lk") (by walk_at "h_lk") (by walk_at "h_lk") (by walk_at "h_lk") ⟨by lia, by walk_at "h_lk", 0, Int.le_refl 0, by walk_at "h_lk"⟩ (by walk_at "h_lk") (by walk_at "h_lk") (by walk_at "h_lk") (by walk_at "h_lk") (by walk_at "h_lk") (by walk_at "h_lk") (by walk_at "h_lk") (by walk_at "h_lk") fun T => ?_
    exact C_rest (B := { A with ru := ru, rd := rd, co := co, an := an, aq := aq, m1 := m1, m2 := m2, m3 := m3 }) I1 (dle hD rfl) hs1 hc1 hcode n21 n23 T q
end
/-! the join -/
noncomputable abbrev gone (h : Heap) (P : Addr) : Heap := h.update P fun _ => (⟨.none, none, .freed, #[]⟩ : Obj)
theorem get_gone {h : Heap} {P : Addr} : (gone h P).get? P = none := by
  cases h with
  | mk objs l =>
    simp only [gone, Heap.update, Heap.get?, Array.getElem?_modify, if_true]
    cases objs[P]? <;> rfl
theorem get_else {h : Heap} {P b : Addr} (hb : b ≠ P) : (gone h P).get? b = h.get? b := Heap.get?_update_ne _ _ _ _ hb
theorem int_of {R : WRecords} {d : WData} (h : WShape.has R d .int = true) : ∃ i, d = .int i := by
  cases d with
  | int i => exact ⟨i, rfl⟩
  | _ => exact (Bool.false_ne_true h).elim
theorem list_of {R : WRecords} {d : WData} (h : WShape.has R d (.list .int) = true) : ∃ xs, d = .list xs ∧ WShape.hasItems R xs .int = true := by
  cases d with
  | list xs =>
    have h : (WShape.hasItems R xs .int || false) = true := h
    rw [Bool.or_false] at h
    exact ⟨xs, rfl, h⟩
  | _ => exact (Bool.false_ne_true h).elim
theorem ints_of {R : WRecords} {clf : Str → Option Addr} {h : Heap} : ∀ {xs : List WData} {vs : List Value} {as : List Addr}, ReadsAllW R clf h vs xs as → WShape.hasItems R xs .int = true → ∃ zs : List Int, zs.length = xs.length ∧ VRs h vs (zs.map .int)
  | [], _, _, hr, _ => by cases hr; exact ⟨[], rfl, .nil⟩
  | d :: xs, _, _, hr, hh => by
    have hh := Bool.and_eq_true_iff.mp hh
    obtain ⟨i, rfl⟩ := int_of hh.1
    cases hr with
    | cons hv hs =>
      obtain ⟨zs, h1, h2⟩ := ints_of hs hh.2
      cases hv
      exact ⟨i :: zs, by simp [h1], .cons (.int ..) h2⟩
theorem args_of {clf : Str → Option Addr} {h : Heap} {args : List WData} {vals : List Value} {as : List Addr} (hp : rR.toRowW.claim.pre args = true) (hr : ReadsAllW rR.toRowW.records clf h vals args as) : ∃ (sa : Addr) (zs : List Int), vals = [.ref sa] ∧ zs.length ≤ 63 ∧ ∃ vs : List Value, h.IsList sa vs.toArray ∧ VRs h vs (zs.map .int) := by
  obtain ⟨h1, h2⟩ := pre_splitW hp
  obtain ⟨d, r, rfl, hd, hr'⟩ := hasAllW_cons (e := .list .int) (es := []) h1
  have := hasAllW_nil hr'
  subst this
  obtain ⟨xs, rfl, hi⟩ := list_of hd
  cases hr with
  | cons hv hs =>
    cases hs
    obtain ⟨a, o, vs, n, ai, rfl, ho, hc, hdt, hrs, _⟩ := readsW_list_open hv
    have h2' : WTm.holds rR.toRowW.records (.and (.not (.lt (.lit (.int ((63 : Nat) : Int))) (.len (.arg 0)))) (.lit (.bool true))) { args := [.list xs] } = true := h2
    obtain ⟨zs, e1, e2⟩ := ints_of hrs hi
    refine ⟨a, zs, rfl, ?_, vs.toList, ⟨o, ho, hc, n, by rw [Array.toArray_toList]; exact hdt⟩, e2⟩
    rw [e1]
    simp [WTm.holds, WTm.value, W.less?, Num.less?] at h2'
    by_cases hlt : (63 : Int) < xs.length
    · simp [hlt] at h2'
    · lia
theorem post_true {args : List WData} : rR.toRowW.claim.post args (.bool true) args = true := by kernel_rfl
theorem law_walk : WalkO qV looseL (fun _ _ => True) HK.says rR.toRowW dLaw [] fun f vs => PySem.call f vs := by
  intro w s₀ s₁ mg mb G Y a o pm cd doc dV kV ho hdata hcd hdf hmg hgens args vals as hpre hlay hrd hwell hsm
  have XK : (KF w.params).In s₁.heap := km_in_of Y
  have ht : s₁.heap.get? 1092 = some (tabObj #[]) := km_tabs_of Y 1092 (.head _)
  have ha : mg dLaw.name = some (.ref 1095) := mg_of XK G.T.g (by kernel_rfl)
  rw [ha] at hmg
  cases hmg
  obtain ⟨sa, zs, rfl, hz, vs, hl1, hl2⟩ := args_of hpre hrd
  have hno : ∀ o, List.lookup 1092 (KF w.params) ≠ some o := fun o e => by
    have : List.lookup 1092 (KF w.params) = none := by kernel_rfl
    rw [this] at e; cases e
  have keep : ∀ b o, (gone s₁.heap 1092).get? b = some o → s₁.heap.get? b = some o := fun b o e => by
    by_cases hb : b = 1092
    · rw [hb, get_gone] at e; cases e
    · rw [get_else hb] at e; exact e
  have back : ∀ b o, s₁.heap.get? b = some o → b ≠ 1092 → (gone s₁.heap 1092).get? b = some o := fun b o e hb => by rw [get_else hb]; exact e
  have nsb : ∀ {b m}, s₁.heap.Ns b m → (gone s₁.heap 1092).Ns b m := fun {b m} ⟨o, es, ep, e, hd, r⟩ => ⟨o, es, ep, back _ _ e (fun hb => by rw [hb, ht] at e; cases e; cases hd), hd, r⟩
  have seer := G.T.seer (by kernel_rfl)
  obtain ⟨bm, ob, m1, m2, m3, m4, m5, m6⟩ := G.T.bmain
  have bmg : bm ≠ mainGlobals := fun e => by
    obtain ⟨o', es, ep, e', hd, _⟩ := G.T.g
    rw [← e, m3] at e'; cases e'
    rw [m6] at hd; cases hd
  have bm92 : bm ≠ 1092 := fun e => by rw [e, ht] at m3; cases m3; cases m4
  let c0 : Cx := ⟨rR.prog, w, KF w.params, callerA, default, [], gone s₁.heap 1092, s₁.os⟩
  have G0 : Gd0 c0 := {
    kin := fun a o e => back _ _ (XK a o e) fun hb => hno o (hb ▸ e)
    prg := ⟨by kernel_rfl, by kernel_rfl⟩
    bat := ⟨mg, nsb G.T.g, fun P hP => ⟨bm, ob, m1, m2, bmg, (fun e => by rw [← e] at hP; rw [show (gone s₁.heap 1092).get? bm = some ob from back _ _ m3 bm92] at hP; cases hP), back _ _ m3 bm92, m4, m5, m6⟩⟩
    sm := by
      obtain ⟨mm, ⟨o', es, ep, e', hd, _⟩, _⟩ := seer.mods
      exact ⟨o', back _ _ e' (by decide)⟩
    dig := let ⟨mc, h1, h2⟩ := G.T.nodigits; ⟨mc, nsb h1, h2⟩
    top := ⟨_, _, mg, mb, ⟨nsb G.T.g, nsb G.T.b, let ⟨mc, h1, h2⟩ := G.T.nolimit; ⟨mc, nsb h1, h2⟩, G.T.builtins, G.T.free⟩⟩
    hdl := rfl
    frs := rfl }
  have hsa : sa ≠ 1092 := fun e => by
    obtain ⟨o', e', hc, _⟩ := hl1
    rw [e, ht] at e'; cases e'; cases hc
  have lst0 : ∃ vs : List Value, c0.h₀.IsList sa vs.toArray ∧ VRs c0.h₀ vs (zs.map .int) := by
    refine ⟨vs, ?_, ?_⟩
    · obtain ⟨o', e', r⟩ := hl1
      exact ⟨o', back _ _ e' hsa, r⟩
    · refine hl2.tups fun b us t => ?_
      obtain ⟨o', e', r, n, hd⟩ := t
      exact ⟨o', back _ _ e' (fun hb => by rw [hb, ht] at e'; cases e'; cases r), r, n, hd⟩
  have S : SatC c0 [(1092, tabO [])] s₁ := {
    base := keep
    gens := hgens
    os := rfl
    led := fun p hp => by
      rw [List.mem_singleton.mp hp]
      exact ⟨ht, fun _ _ h => nomatch h⟩
    new := fun p hp => by rw [List.mem_singleton.mp hp]; exact get_gone
    nod := by simp
    frs := trivial
    off := fun e he => nomatch he }
  have key := (C_law0 (W := w.params) (D := 301) (E := fun _ _ => False) (Q := fun a Γ' => a = .bool true ∧ ∃ l, Lk 1092 Γ' (tabO l)) G0 rfl (show callerA.depth ≤ 301 by decide) (show callerA.units ≤ 3 * 301 by decide) (by decide) lst0 hz .here fun Γ' h => ⟨rfl, h⟩).hc s₁ (.ref 1095) [.ref sa] S (.ref _) (.cons (.ref _) .nil)
  refine wpAny_mono key (fun v s' ⟨Γ', S', P', av, hv, hav, l, hl⟩ => ?_) fun e s' hx => hx.no.elim
  subst hav
  cases hv
  obtain ⟨h92, _⟩ := S'.or hl
  refine ⟨.inl ⟨_, .bool true, [], rfl, fun _ => rfl, .bool _, post_true, fun _ => ⟨.nil, fun a ha => nomatch ha⟩⟩, ⟨fun b o e => ?_, fun b o e => ?_⟩, S'.os, .of_eq S'.gens⟩
  · by_cases hb : b = 1092
    · subst hb
      rw [ht] at e; cases e
      refine .inr (.inl ⟨⟨1094, g1094, _, XK 1094 g1094 (by kernel_rfl), rfl, rfl, rfl⟩, rfl, #[], (triples l).toArray, rfl, ?_⟩)
      rw [h92]; simp
    · exact .inl (S'.base b o (back b o e hb))
  · by_cases hb : b = 1092
    · subst hb; exact ⟨_, h92⟩
    · exact ⟨o, S'.base b o (back b o e hb)⟩
theorem law_holds : PySem.Challenge.rw_pf0030_01.Holds := head law_walk
end Mine
set_option maxRecDepth 100000 in
theorem PySem.Challenge.cw_pf0030_01_holds : PySem.Challenge.rw_pf0030_01.Holds := by
  exact Mine.law_holds
