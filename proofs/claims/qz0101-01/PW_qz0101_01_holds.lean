import PyProof.Rows.All
import PyProof.TableCode
import KE.KItem
import KE.KLam
import KE.KDictSum
import Wide.FinOn
import OpenK.AllK
import Wide.All
import Lean
import PySem.Challenge.RW_qz0101_01
set_option Elab.async false
set_option compiler.extract_closed false
set_option linter.unusedVariables false
set_option linter.unusedSimpArgs false
section
open PySem PySem.W PySem.Calls PyProof.Rows
set_option maxRecDepth 100000
namespace Mine
noncomputable abbrev PG : Program := PySem.Challenge.rw_qz0101_01.row.toRowW.prog
noncomputable def BI : List Stmt := behindTheImports PG
noncomputable def fnsOf : List Stmt → List (Arguments × FuncBody × Scope)
  | [] => []
  | .FunctionDef _ a b _ _ _ s _ _ _ :: r => (a, .stmts b, s) :: fnsOf r
  | .ClassDef _ _ _ b _ _ _ _ _ _ _ :: r => b.filterMap (fun | .FunctionDef _ a b _ _ _ s _ _ _ => some (a, .stmts b, s) | _ => none) ++ fnsOf r
  | _ :: r => fnsOf r
noncomputable def FN : List (Arguments × FuncBody × Scope) := fnsOf BI
noncomputable def fA (i : Nat) : Arguments := (FN.getD i default).1
noncomputable def fB (i : Nat) : FuncBody := (FN.getD i default).2.1
noncomputable def fC (i : Nat) : Scope := (FN.getD i default).2.2
noncomputable abbrev S (x : String) : Str := Str.ofString x
noncomputable abbrev vN : Value := .none
noncomputable abbrev vB (b : Bool) : Value := .bool b
noncomputable abbrev vI (i : Int) (t : Tok) : Value := .int i t
noncomputable abbrev vS (x : String) (t : Tok) : Value := .str (Str.ofString x) t
noncomputable abbrev vT (x : String) : Value := .type x
noncomputable abbrev vb (x : String) : Value := .builtin x
noncomputable abbrev vR (a : Addr) : Value := .ref a
noncomputable abbrev dE (P : Params) (x : String) (t : Tok) (v : Value) : DictEntry := ⟨PyData.keyHash P (Str.ofString x), .str (Str.ofString x) t, v⟩
noncomputable abbrev oQ (c : String) (l : List Value) : Obj := ⟨.type c, none, .seq l.toArray 0, #[]⟩
noncomputable abbrev oF (c : Value) (l : List Value) : Obj := ⟨c, none, .fields l.toArray, #[]⟩
noncomputable abbrev oD (l : List DictEntry) (n : Nat) : Obj := ⟨.type "dict", none, .dict l.toArray n, #[]⟩
noncomputable def d3 (P : Params) : List DictEntry := [dE P "__doc__" 166 vN, dE P "__package__" 167 vN, dE P "__loader__" 168 (vb "__main__.__loader__#opaque"), dE P "__spec__" 169 vN, dE P "__annotations__" 170 (vR 6), dE P "__builtins__" 171 (vR 4), dE P "__file__" 173 (vS "/claim/cut.py" 172), dE P "__cached__" 174 vN, dE P "_wall" 193 (vR 21), dE P "PerlError" 224 (vR 38), dE P "Die" 249 (vR 58), dE P "Thing" 285 (vR 77), dE P "Scalar" 312 (vR 98), dE P "Array" 338 (vR 117), dE P "Hash" 365 (vR 136), dE P "Code" 395 (vR 155), dE P "Glob" 425 (vR 174), dE P "Ref" 456 (vR 194), dE P "Heap" 533 (vR 257), dE P "value_of" 542 (vR 268), dE P "NO_ELEMENT" 546 (vS "Modification of non-creatable array value attempted" 545), dE P "TOO_MANY" 548 (vS "Out of memory!" 547), dE P "drop_member" 557 (vR 275), dE P "drop_members" 563 (vR 280), dE P "check_room" 571 (vR 287), dE P "element_place" 579 (vR 294), dE P "element_scalar" 590 (vR 301), dE P "resize_array" 601 (vR 308), dE P "key_scalar" 612 (vR 315), dE P "key_place" 622 (vR 322), dE P "delete_key" 631 (vR 329), dE P "LAST_PATTERN" 636 (vR 330), dE P "local_tied" 651 (vR 337), dE P "local_elem" 661 (vR 344), dE P "local_helem" 670 (vR 351), dE P "let_go_of" 678 (vR 358), dE P "undo_scalar" 686 (vR 365), dE P "undo_array" 694 (vR 372), dE P "undo_hash" 702 (vR 379), dE P "undo_code" 710 (vR 386), dE P "undo_elem" 723 (vR 393), dE P "undo_helem" 735 (vR 400), dE P "undo_tied" 747 (vR 407), dE P "undo_pad" 755 (vR 414), dE P "undo_slot" 763 (vR 421), dE P "undo_match" 771 (vR 428), dE P "undo_package" 779 (vR 435), dE P "UNDOERS" 804 (vR 436), dE P "leave" 813 (vR 443), dE P "Tie" 844 (vR 460), dE P "kept_behind" 852 (vR 471), dE P "held_by" 858 (vR 476), dE P "empty_out" 865 (vR 483), dE P "in_order" 871 (vR 488), dE P "Counter" 999 (vR 580), dE P "Run" 1051 (vR 601), dE P "Limits" 1101 (vR 623), dE P "_law_coin" 1111 (vR 634), dE P "_law_made" 1120 (vR 641), dE P "_law_swept" 1126 (vR 646), dE P "_law_left" 1138 (vR 653), dE P "law" 1162 (vR 660)]
noncomputable def g3 (m : Nat) (x : String) (t : Tok) (P : Params) : Obj := oD (dE P "__name__" 165 (vS x t) :: (d3 P).take m) (m + 1)
noncomputable def l12 : List Value := [(vI 1 0), (vI 0 0), (vR 20), (vI 5 0), (vI 0 0), (vR 27), (vI 10 0), (vI 0 0), (vR 47), (vI 16 0), (vI 0 0), (vR 66), (vI 25 0), (vI 0 0), (vR 87), (vI 31 0), (vI 0 0), (vR 106), (vI 37 0), (vI 0 0), (vR 125), (vI 44 0), (vI 0 0), (vR 144), (vI 52 0), (vI 0 0), (vR 163), (vI 61 0), (vI 0 0), (vR 182), (vI 66 0), (vI 0 0), (vR 204), (vI 92 0), (vI 0 0), (vR 267), (vI 101 0), (vI 0 0), (vR 274), (vI 107 0), (vI 0 0), (vR 279), (vI 109 0), (vI 0 0), (vR 286), (vI 112 0), (vI 0 0), (vR 293), (vI 118 0), (vI 0 0), (vR 300), (vI 127 0), (vI 0 0), (vR 307), (vI 138 0), (vI 0 0), (vR 314), (vI 143 0), (vI 0 0), (vR 321), (vI 150 0), (vI 0 0), (vR 328), (vI 158 0), (vI 0 0), (vR 336), (vI 173 0), (vI 0 0), (vR 343), (vI 192 0), (vI 0 0), (vR 350), (vI 199 0), (vI 0 0), (vR 357), (vI 202 0), (vI 0 0), (vR 364), (vI 205 0), (vI 0 0), (vR 371), (vI 208 0), (vI 0 0), (vR 378), (vI 211 0), (vI 0 0), (vR 385), (vI 215 0), (vI 0 0), (vR 392), (vI 229 0), (vI 0 0), (vR 399), (vI 237 0), (vI 0 0), (vR 406), (vI 250 0), (vI 0 0), (vR 413), (vI 253 0), (vI 0 0), (vR 420), (vI 256 0), (vI 0 0), (vR 427), (vI 259 0), (vI 0 0), (vR 434), (vI 262 0), (vI 0 0), (vR 442), (vI 267 0), (vI 0 0), (vR 449), (vI 271 0), (vI 0 0), (vR 470), (vI 278 0), (vI 0 0), (vR 475), (vI 290 0), (vI 0 0), (vR 482), (vI 307 0), (vI 0 0), (vR 487), (vI 313 0), (vI 0 0), (vR 494), (vI 400 0), (vI 0 0), (vR 590), (vI 423 0), (vI 0 0), (vR 611), (vI 432 0), (vI 0 0), (vR 633), (vI 437 0), (vI 0 0), (vR 640), (vI 442 0), (vI 0 0), (vR 645), (vI 448 0), (vI 0 0), (vR 652), (vI 459 0), (vI 0 0), (vR 659)]
noncomputable def g12 (n : Nat) : Obj := oF vN (l12.take n)
noncomputable def g38 (n : Nat) : Obj := ⟨(vT "type"), none, (.cls ⟨S "PerlError", [(vT "Exception")], [(vR 38), (vT "Exception"), (vT "BaseException"), (vT "object")], 37, S "PerlError", true, [], ([vR 58].take n), false, none, false⟩), #[some (vR 22), none, some (vS "PerlError" 196), some (vS "PerlError" 204), some (vb "Exception.__new__"), some (vB true)]⟩
noncomputable def g77 (n : Nat) : Obj := ⟨(vT "type"), none, (.cls ⟨S "Thing", [(vT "object")], [(vR 77), (vT "object")], 76, S "Thing", true, [], ([vR 98, vR 117, vR 136, vR 155, vR 174].take n), false, none, false⟩), #[none, none, some (vS "Thing" 252), some (vS "Thing" 260), some (vb "object.__new__"), some (vB true)]⟩
noncomputable def o0 (P : Params) : Obj := boot_o_0 P
noncomputable def o1 (P : Params) : Obj := boot_o_1 P
noncomputable def o2 (P : Params) : Obj := ⟨vN, none, (.dict #[dE P "type.__subclasses__.Exception.0" 221 (vI 38 0), dE P "type.__subclasses__.Exception.n" 222 (vI 1 0)] 2), #[]⟩
noncomputable def o3 (P : Params) : Obj := g3 62 "law_qz0101_01" 1102 P
noncomputable def o4 (P : Params) : Obj := boot_o_4 P
noncomputable def o5 (P : Params) : Obj := boot_o_5 P
noncomputable def o6 (P : Params) : Obj := boot_o_6 P
noncomputable def o7 (P : Params) : Obj := boot_o_7 P
noncomputable def o8 (P : Params) : Obj := boot_o_8 P
noncomputable def o9 (P : Params) : Obj := boot_o_9 P
noncomputable def o10 (P : Params) : Obj := boot_o_10 P
noncomputable def o11 (P : Params) : Obj := oQ "tuple" []
noncomputable def o12 (P : Params) : Obj := g12 150
noncomputable def o13 (P : Params) : Obj := oF (vT "code") [(vS "<module>" 182), (vS "<module>" 183), (vS "/claim/cut.py" 184), (vI 1 0), (vI 0 0), (vI 0 0), (vI 0 0), (vI 0 0), (vR 11), (vB false), (vI 181 0), (vR 12), vN, vN, vN, vN, (vI 185 0), (vI 1 0), (vS "/claim/cut.py" 186)]
noncomputable def o14 (P : Params) : Obj := ⟨(vT "frame"), none, .plain, #[some (vR 13), some (vR 3), some (vR 3), none, some (vS "__main__" 164), none, some (vR 0)]⟩
noncomputable def o15 (P : Params) : Obj := oQ "tuple" []
noncomputable def o16 (P : Params) : Obj := oF vN []
noncomputable def o17 (P : Params) : Obj := oQ "tuple" [(vS "k" 190)]
noncomputable def o18 (P : Params) : Obj := oQ "tuple" []
noncomputable def o19 (P : Params) : Obj := ⟨vN, none, (.func ⟨S "_wall", S "_wall", fA 0, fB 0, fC 0, 0, [], vN, vN, vN, vN, none, vN, vN, 0⟩), #[]⟩
noncomputable def o20 (P : Params) : Obj := oF (vT "code") [(vS "_wall" 187), (vS "_wall" 188), (vS "/claim/cut.py" 189), (vI 1 0), (vI 1 0), (vI 0 0), (vI 0 0), (vI 3 0), (vR 15), (vB true), (vI 181 0), (vR 16), vN, (vR 17), (vR 18), (vR 19), (vI 191 0), (vI 1 0), (vS "/claim/cut.py" 192)]
noncomputable def o21 (P : Params) : Obj := ⟨(vT "function"), none, (.func ⟨S "_wall", S "_wall", fA 0, fB 0, fC 0, 3, [], vN, vN, vN, (vS "__main__" 164), none, (vR 20), vN, 0⟩), #[]⟩
noncomputable def o22 (P : Params) : Obj := oQ "tuple" [(vT "Exception")]
noncomputable def o23 (P : Params) : Obj := oF (vT "builtin_function_or_method") [(vb "type.__prepare__"), (vT "type")]
noncomputable def o24 (P : Params) : Obj := oD [dE P "__module__" 203 (vS "perlcore.errors" 194), dE P "__qualname__" 205 (vS "PerlError" 204), dE P "__firstlineno__" 207 (vI 5 206), dE P "__init__" 215 (vR 35), dE P "__static_attributes__" 217 (vR 36)] 5
noncomputable def o25 (P : Params) : Obj := oQ "tuple" []
noncomputable def o26 (P : Params) : Obj := oF vN [(vI 7 0), (vI 4 0), (vR 34)]
noncomputable def o27 (P : Params) : Obj := oF (vT "code") [(vS "PerlError" 198), (vS "PerlError" 199), (vS "/claim/cut.py" 200), (vI 5 0), (vI 0 0), (vI 0 0), (vI 0 0), (vI 0 0), (vR 25), (vB false), (vI 181 0), (vR 26), vN, vN, vN, vN, (vI 201 0), (vI 5 0), (vS "/claim/cut.py" 202)]
noncomputable def o28 (P : Params) : Obj := ⟨(vT "frame"), none, .plain, #[some (vR 27), some (vR 3), some (vR 24), none, some (vS "perlcore.errors" 194), none, some (vR 0)]⟩
noncomputable def o29 (P : Params) : Obj := oQ "tuple" []
noncomputable def o30 (P : Params) : Obj := oF vN []
noncomputable def o31 (P : Params) : Obj := oQ "tuple" [(vS "self" 211), (vS "text" 212)]
noncomputable def o32 (P : Params) : Obj := oQ "tuple" []
noncomputable def o33 (P : Params) : Obj := ⟨vN, none, (.func ⟨S "__init__", S "PerlError.__init__", fA 1, fB 1, fC 1, 0, [], vN, vN, vN, vN, none, vN, vN, 0⟩), #[]⟩
noncomputable def o34 (P : Params) : Obj := oF (vT "code") [(vS "__init__" 208), (vS "PerlError.__init__" 209), (vS "/claim/cut.py" 210), (vI 7 0), (vI 2 0), (vI 0 0), (vI 0 0), (vI 3 0), (vR 29), (vB true), (vI 181 0), (vR 30), vN, (vR 31), (vR 32), (vR 33), (vI 213 0), (vI 7 0), (vS "/claim/cut.py" 214)]
noncomputable def o35 (P : Params) : Obj := ⟨(vT "function"), none, (.func ⟨S "__init__", S "PerlError.__init__", fA 1, fB 1, fC 1, 3, [], vN, vN, vN, (vS "perlcore.errors" 194), none, (vR 34), vN, 0⟩), #[]⟩
noncomputable def o36 (P : Params) : Obj := oQ "tuple" [(vS "text" 216)]
noncomputable def o37 (P : Params) : Obj := oD [dE P "__module__" 203 (vS "perlcore.errors" 194), dE P "__firstlineno__" 207 (vI 5 206), dE P "__init__" 215 (vR 35), dE P "__static_attributes__" 217 (vR 36), dE P "__weakref__" 219 (vR 39), dE P "__doc__" 220 vN] 3
noncomputable def o38 (P : Params) : Obj := g38 1
noncomputable def o39 (P : Params) : Obj := oF (vT "getset_descriptor") [(vS "__weakref__" 218), (vR 38), (vb "ExceptionGroup.__weakref__"), vN]
noncomputable def o40 (P : Params) : Obj := oF (vT "super") [(vR 38), (vR 38), (vR 38)]
noncomputable def o41 (P : Params) : Obj := oF (vT "builtin_function_or_method") [(vb "object.__init_subclass__"), (vR 38)]
noncomputable def o42 (P : Params) : Obj := oQ "tuple" [(vR 38)]
noncomputable def o43 (P : Params) : Obj := oF (vT "builtin_function_or_method") [(vb "type.__prepare__"), (vT "type")]
noncomputable def o44 (P : Params) : Obj := oD [dE P "__module__" 232 (vS "perlcore.errors" 194), dE P "__qualname__" 234 (vS "Die" 233), dE P "__firstlineno__" 236 (vI 10 235), dE P "__init__" 244 (vR 55), dE P "__static_attributes__" 246 (vR 56)] 5
noncomputable def o45 (P : Params) : Obj := oQ "tuple" []
noncomputable def o46 (P : Params) : Obj := oF vN [(vI 12 0), (vI 4 0), (vR 54)]
noncomputable def o47 (P : Params) : Obj := oF (vT "code") [(vS "Die" 227), (vS "Die" 228), (vS "/claim/cut.py" 229), (vI 10 0), (vI 0 0), (vI 0 0), (vI 0 0), (vI 0 0), (vR 45), (vB false), (vI 181 0), (vR 46), vN, vN, vN, vN, (vI 230 0), (vI 10 0), (vS "/claim/cut.py" 231)]
noncomputable def o48 (P : Params) : Obj := ⟨(vT "frame"), none, .plain, #[some (vR 47), some (vR 3), some (vR 44), none, some (vS "perlcore.errors" 194), none, some (vR 0)]⟩
noncomputable def o49 (P : Params) : Obj := oQ "tuple" []
noncomputable def o50 (P : Params) : Obj := oF vN []
noncomputable def o51 (P : Params) : Obj := oQ "tuple" [(vS "self" 240), (vS "value" 241)]
noncomputable def o52 (P : Params) : Obj := oQ "tuple" []
noncomputable def o53 (P : Params) : Obj := ⟨vN, none, (.func ⟨S "__init__", S "Die.__init__", fA 2, fB 2, fC 2, 0, [], vN, vN, vN, vN, none, vN, vN, 0⟩), #[]⟩
noncomputable def o54 (P : Params) : Obj := oF (vT "code") [(vS "__init__" 237), (vS "Die.__init__" 238), (vS "/claim/cut.py" 239), (vI 12 0), (vI 2 0), (vI 0 0), (vI 0 0), (vI 3 0), (vR 49), (vB true), (vI 181 0), (vR 50), vN, (vR 51), (vR 52), (vR 53), (vI 242 0), (vI 12 0), (vS "/claim/cut.py" 243)]
noncomputable def o55 (P : Params) : Obj := ⟨(vT "function"), none, (.func ⟨S "__init__", S "Die.__init__", fA 2, fB 2, fC 2, 3, [], vN, vN, vN, (vS "perlcore.errors" 194), none, (vR 54), vN, 0⟩), #[]⟩
noncomputable def o56 (P : Params) : Obj := oQ "tuple" [(vS "value" 245)]
noncomputable def o57 (P : Params) : Obj := oD [dE P "__module__" 232 (vS "perlcore.errors" 194), dE P "__firstlineno__" 236 (vI 10 235), dE P "__init__" 244 (vR 55), dE P "__static_attributes__" 246 (vR 56), dE P "__doc__" 247 vN] 2
noncomputable def o58 (P : Params) : Obj := ⟨(vT "type"), none, (.cls ⟨S "Die", [(vR 38)], [(vR 58), (vR 38), (vT "Exception"), (vT "BaseException"), (vT "object")], 57, S "Die", true, [], [], false, none, false⟩), #[some (vR 42), none, some (vS "Die" 225), some (vS "Die" 233), some (vb "Exception.__new__"), some (vB true)]⟩
noncomputable def o59 (P : Params) : Obj := oF (vT "super") [(vR 58), (vR 58), (vR 58)]
noncomputable def o60 (P : Params) : Obj := oF (vT "builtin_function_or_method") [(vb "object.__init_subclass__"), (vR 58)]
noncomputable def o61 (P : Params) : Obj := oQ "tuple" []
noncomputable def o62 (P : Params) : Obj := oF (vT "builtin_function_or_method") [(vb "type.__prepare__"), (vT "type")]
noncomputable def o63 (P : Params) : Obj := oD [dE P "__module__" 259 (vS "perlcore.values" 250), dE P "__qualname__" 261 (vS "Thing" 260), dE P "__firstlineno__" 263 (vI 16 262), dE P "__init__" 271 (vR 74), dE P "__static_attributes__" 278 (vR 75)] 5
noncomputable def o64 (P : Params) : Obj := oQ "tuple" []
noncomputable def o65 (P : Params) : Obj := oF vN [(vI 18 0), (vI 4 0), (vR 73)]
noncomputable def o66 (P : Params) : Obj := oF (vT "code") [(vS "Thing" 254), (vS "Thing" 255), (vS "/claim/cut.py" 256), (vI 16 0), (vI 0 0), (vI 0 0), (vI 0 0), (vI 0 0), (vR 64), (vB false), (vI 181 0), (vR 65), vN, vN, vN, vN, (vI 257 0), (vI 16 0), (vS "/claim/cut.py" 258)]
noncomputable def o67 (P : Params) : Obj := ⟨(vT "frame"), none, .plain, #[some (vR 66), some (vR 3), some (vR 63), none, some (vS "perlcore.values" 250), none, some (vR 0)]⟩
noncomputable def o68 (P : Params) : Obj := oQ "tuple" []
noncomputable def o69 (P : Params) : Obj := oF vN []
noncomputable def o70 (P : Params) : Obj := oQ "tuple" [(vS "self" 267), (vS "number" 268)]
noncomputable def o71 (P : Params) : Obj := oQ "tuple" []
noncomputable def o72 (P : Params) : Obj := ⟨vN, none, (.func ⟨S "__init__", S "Thing.__init__", fA 3, fB 3, fC 3, 0, [], vN, vN, vN, vN, none, vN, vN, 0⟩), #[]⟩
noncomputable def o73 (P : Params) : Obj := oF (vT "code") [(vS "__init__" 264), (vS "Thing.__init__" 265), (vS "/claim/cut.py" 266), (vI 18 0), (vI 2 0), (vI 0 0), (vI 0 0), (vI 3 0), (vR 68), (vB true), (vI 181 0), (vR 69), vN, (vR 70), (vR 71), (vR 72), (vI 269 0), (vI 18 0), (vS "/claim/cut.py" 270)]
noncomputable def o74 (P : Params) : Obj := ⟨(vT "function"), none, (.func ⟨S "__init__", S "Thing.__init__", fA 3, fB 3, fC 3, 3, [], vN, vN, vN, (vS "perlcore.values" 250), none, (vR 73), vN, 0⟩), #[]⟩
noncomputable def o75 (P : Params) : Obj := oQ "tuple" [(vS "blessed" 272), (vS "count" 273), (vS "is_destroyed" 274), (vS "is_freed" 275), (vS "number" 276), (vS "weak" 277)]
noncomputable def o76 (P : Params) : Obj := oD [dE P "__module__" 259 (vS "perlcore.values" 250), dE P "__firstlineno__" 263 (vI 16 262), dE P "__init__" 271 (vR 74), dE P "__static_attributes__" 278 (vR 75), dE P "__dict__" 280 (vR 78), dE P "__weakref__" 282 (vR 79), dE P "__doc__" 283 vN] 4
noncomputable def o77 (P : Params) : Obj := g77 5
noncomputable def o78 (P : Params) : Obj := oF (vT "getset_descriptor") [(vS "__dict__" 279), (vR 77), (vb "function.__dict__"), (vb "function.__dict__#set")]
noncomputable def o79 (P : Params) : Obj := oF (vT "getset_descriptor") [(vS "__weakref__" 281), (vR 77), (vb "ExceptionGroup.__weakref__"), vN]
noncomputable def o80 (P : Params) : Obj := oF (vT "super") [(vR 77), (vR 77), (vR 77)]
noncomputable def o81 (P : Params) : Obj := oF (vT "builtin_function_or_method") [(vb "object.__init_subclass__"), (vR 77)]
noncomputable def o82 (P : Params) : Obj := oQ "tuple" [(vR 77)]
noncomputable def o83 (P : Params) : Obj := oF (vT "builtin_function_or_method") [(vb "type.__prepare__"), (vT "type")]
noncomputable def o84 (P : Params) : Obj := oD [dE P "__module__" 293 (vS "perlcore.values" 250), dE P "__qualname__" 295 (vS "Scalar" 294), dE P "__firstlineno__" 297 (vI 25 296), dE P "__init__" 306 (vR 95), dE P "__static_attributes__" 309 (vR 96)] 5
noncomputable def o85 (P : Params) : Obj := oQ "tuple" []
noncomputable def o86 (P : Params) : Obj := oF vN [(vI 27 0), (vI 4 0), (vR 94)]
noncomputable def o87 (P : Params) : Obj := oF (vT "code") [(vS "Scalar" 288), (vS "Scalar" 289), (vS "/claim/cut.py" 290), (vI 25 0), (vI 0 0), (vI 0 0), (vI 0 0), (vI 0 0), (vR 85), (vB false), (vI 181 0), (vR 86), vN, vN, vN, vN, (vI 291 0), (vI 25 0), (vS "/claim/cut.py" 292)]
noncomputable def o88 (P : Params) : Obj := ⟨(vT "frame"), none, .plain, #[some (vR 87), some (vR 3), some (vR 84), none, some (vS "perlcore.values" 250), none, some (vR 0)]⟩
noncomputable def o89 (P : Params) : Obj := oQ "tuple" []
noncomputable def o90 (P : Params) : Obj := oF vN []
noncomputable def o91 (P : Params) : Obj := oQ "tuple" [(vS "self" 301), (vS "number" 302), (vS "value" 303)]
noncomputable def o92 (P : Params) : Obj := oQ "tuple" []
noncomputable def o93 (P : Params) : Obj := ⟨vN, none, (.func ⟨S "__init__", S "Scalar.__init__", fA 4, fB 4, fC 4, 0, [], vN, vN, vN, vN, none, vN, vN, 0⟩), #[]⟩
noncomputable def o94 (P : Params) : Obj := oF (vT "code") [(vS "__init__" 298), (vS "Scalar.__init__" 299), (vS "/claim/cut.py" 300), (vI 27 0), (vI 3 0), (vI 0 0), (vI 0 0), (vI 3 0), (vR 89), (vB true), (vI 181 0), (vR 90), vN, (vR 91), (vR 92), (vR 93), (vI 304 0), (vI 27 0), (vS "/claim/cut.py" 305)]
noncomputable def o95 (P : Params) : Obj := ⟨(vT "function"), none, (.func ⟨S "__init__", S "Scalar.__init__", fA 4, fB 4, fC 4, 3, [], vN, vN, vN, (vS "perlcore.values" 250), none, (vR 94), vN, 0⟩), #[]⟩
noncomputable def o96 (P : Params) : Obj := oQ "tuple" [(vS "magic" 307), (vS "value" 308)]
noncomputable def o97 (P : Params) : Obj := oD [dE P "__module__" 293 (vS "perlcore.values" 250), dE P "__firstlineno__" 297 (vI 25 296), dE P "__init__" 306 (vR 95), dE P "__static_attributes__" 309 (vR 96), dE P "__doc__" 310 vN] 2
noncomputable def o98 (P : Params) : Obj := ⟨(vT "type"), none, (.cls ⟨S "Scalar", [(vR 77)], [(vR 98), (vR 77), (vT "object")], 97, S "Scalar", true, [], [], false, none, false⟩), #[some (vR 82), none, some (vS "Scalar" 286), some (vS "Scalar" 294), some (vb "object.__new__"), some (vB true)]⟩
noncomputable def o99 (P : Params) : Obj := oF (vT "super") [(vR 98), (vR 98), (vR 98)]
noncomputable def o100 (P : Params) : Obj := oF (vT "builtin_function_or_method") [(vb "object.__init_subclass__"), (vR 98)]
noncomputable def o101 (P : Params) : Obj := oQ "tuple" [(vR 77)]
noncomputable def o102 (P : Params) : Obj := oF (vT "builtin_function_or_method") [(vb "type.__prepare__"), (vT "type")]
noncomputable def o103 (P : Params) : Obj := oD [dE P "__module__" 320 (vS "perlcore.values" 250), dE P "__qualname__" 322 (vS "Array" 321), dE P "__firstlineno__" 324 (vI 31 323), dE P "__init__" 332 (vR 114), dE P "__static_attributes__" 335 (vR 115)] 5
noncomputable def o104 (P : Params) : Obj := oQ "tuple" []
noncomputable def o105 (P : Params) : Obj := oF vN [(vI 33 0), (vI 4 0), (vR 113)]
noncomputable def o106 (P : Params) : Obj := oF (vT "code") [(vS "Array" 315), (vS "Array" 316), (vS "/claim/cut.py" 317), (vI 31 0), (vI 0 0), (vI 0 0), (vI 0 0), (vI 0 0), (vR 104), (vB false), (vI 181 0), (vR 105), vN, vN, vN, vN, (vI 318 0), (vI 31 0), (vS "/claim/cut.py" 319)]
noncomputable def o107 (P : Params) : Obj := ⟨(vT "frame"), none, .plain, #[some (vR 106), some (vR 3), some (vR 103), none, some (vS "perlcore.values" 250), none, some (vR 0)]⟩
noncomputable def o108 (P : Params) : Obj := oQ "tuple" []
noncomputable def o109 (P : Params) : Obj := oF vN []
noncomputable def o110 (P : Params) : Obj := oQ "tuple" [(vS "self" 328), (vS "number" 329)]
noncomputable def o111 (P : Params) : Obj := oQ "tuple" []
noncomputable def o112 (P : Params) : Obj := ⟨vN, none, (.func ⟨S "__init__", S "Array.__init__", fA 5, fB 5, fC 5, 0, [], vN, vN, vN, vN, none, vN, vN, 0⟩), #[]⟩
noncomputable def o113 (P : Params) : Obj := oF (vT "code") [(vS "__init__" 325), (vS "Array.__init__" 326), (vS "/claim/cut.py" 327), (vI 33 0), (vI 2 0), (vI 0 0), (vI 0 0), (vI 3 0), (vR 108), (vB true), (vI 181 0), (vR 109), vN, (vR 110), (vR 111), (vR 112), (vI 330 0), (vI 33 0), (vS "/claim/cut.py" 331)]
noncomputable def o114 (P : Params) : Obj := ⟨(vT "function"), none, (.func ⟨S "__init__", S "Array.__init__", fA 5, fB 5, fC 5, 3, [], vN, vN, vN, (vS "perlcore.values" 250), none, (vR 113), vN, 0⟩), #[]⟩
noncomputable def o115 (P : Params) : Obj := oQ "tuple" [(vS "items" 333), (vS "tied" 334)]
noncomputable def o116 (P : Params) : Obj := oD [dE P "__module__" 320 (vS "perlcore.values" 250), dE P "__firstlineno__" 324 (vI 31 323), dE P "__init__" 332 (vR 114), dE P "__static_attributes__" 335 (vR 115), dE P "__doc__" 336 vN] 2
noncomputable def o117 (P : Params) : Obj := ⟨(vT "type"), none, (.cls ⟨S "Array", [(vR 77)], [(vR 117), (vR 77), (vT "object")], 116, S "Array", true, [], [], false, none, false⟩), #[some (vR 101), none, some (vS "Array" 313), some (vS "Array" 321), some (vb "object.__new__"), some (vB true)]⟩
noncomputable def o118 (P : Params) : Obj := oF (vT "super") [(vR 117), (vR 117), (vR 117)]
noncomputable def o119 (P : Params) : Obj := oF (vT "builtin_function_or_method") [(vb "object.__init_subclass__"), (vR 117)]
noncomputable def o120 (P : Params) : Obj := oQ "tuple" [(vR 77)]
noncomputable def o121 (P : Params) : Obj := oF (vT "builtin_function_or_method") [(vb "type.__prepare__"), (vT "type")]
noncomputable def o122 (P : Params) : Obj := oD [dE P "__module__" 346 (vS "perlcore.values" 250), dE P "__qualname__" 348 (vS "Hash" 347), dE P "__firstlineno__" 350 (vI 37 349), dE P "__init__" 358 (vR 133), dE P "__static_attributes__" 362 (vR 134)] 5
noncomputable def o123 (P : Params) : Obj := oQ "tuple" []
noncomputable def o124 (P : Params) : Obj := oF vN [(vI 39 0), (vI 4 0), (vR 132)]
noncomputable def o125 (P : Params) : Obj := oF (vT "code") [(vS "Hash" 341), (vS "Hash" 342), (vS "/claim/cut.py" 343), (vI 37 0), (vI 0 0), (vI 0 0), (vI 0 0), (vI 0 0), (vR 123), (vB false), (vI 181 0), (vR 124), vN, vN, vN, vN, (vI 344 0), (vI 37 0), (vS "/claim/cut.py" 345)]
noncomputable def o126 (P : Params) : Obj := ⟨(vT "frame"), none, .plain, #[some (vR 125), some (vR 3), some (vR 122), none, some (vS "perlcore.values" 250), none, some (vR 0)]⟩
noncomputable def o127 (P : Params) : Obj := oQ "tuple" []
noncomputable def o128 (P : Params) : Obj := oF vN []
noncomputable def o129 (P : Params) : Obj := oQ "tuple" [(vS "self" 354), (vS "number" 355)]
noncomputable def o130 (P : Params) : Obj := oQ "tuple" []
noncomputable def o131 (P : Params) : Obj := ⟨vN, none, (.func ⟨S "__init__", S "Hash.__init__", fA 6, fB 6, fC 6, 0, [], vN, vN, vN, vN, none, vN, vN, 0⟩), #[]⟩
noncomputable def o132 (P : Params) : Obj := oF (vT "code") [(vS "__init__" 351), (vS "Hash.__init__" 352), (vS "/claim/cut.py" 353), (vI 39 0), (vI 2 0), (vI 0 0), (vI 0 0), (vI 3 0), (vR 127), (vB true), (vI 181 0), (vR 128), vN, (vR 129), (vR 130), (vR 131), (vI 356 0), (vI 39 0), (vS "/claim/cut.py" 357)]
noncomputable def o133 (P : Params) : Obj := ⟨(vT "function"), none, (.func ⟨S "__init__", S "Hash.__init__", fA 6, fB 6, fC 6, 3, [], vN, vN, vN, (vS "perlcore.values" 250), none, (vR 132), vN, 0⟩), #[]⟩
noncomputable def o134 (P : Params) : Obj := oQ "tuple" [(vS "at" 359), (vS "table" 360), (vS "tied" 361)]
noncomputable def o135 (P : Params) : Obj := oD [dE P "__module__" 346 (vS "perlcore.values" 250), dE P "__firstlineno__" 350 (vI 37 349), dE P "__init__" 358 (vR 133), dE P "__static_attributes__" 362 (vR 134), dE P "__doc__" 363 vN] 2
noncomputable def o136 (P : Params) : Obj := ⟨(vT "type"), none, (.cls ⟨S "Hash", [(vR 77)], [(vR 136), (vR 77), (vT "object")], 135, S "Hash", true, [], [], false, none, false⟩), #[some (vR 120), none, some (vS "Hash" 339), some (vS "Hash" 347), some (vb "object.__new__"), some (vB true)]⟩
noncomputable def o137 (P : Params) : Obj := oF (vT "super") [(vR 136), (vR 136), (vR 136)]
noncomputable def o138 (P : Params) : Obj := oF (vT "builtin_function_or_method") [(vb "object.__init_subclass__"), (vR 136)]
noncomputable def o139 (P : Params) : Obj := oQ "tuple" [(vR 77)]
noncomputable def o140 (P : Params) : Obj := oF (vT "builtin_function_or_method") [(vb "type.__prepare__"), (vT "type")]
noncomputable def o141 (P : Params) : Obj := oD [dE P "__module__" 373 (vS "perlcore.values" 250), dE P "__qualname__" 375 (vS "Code" 374), dE P "__firstlineno__" 377 (vI 44 376), dE P "__init__" 387 (vR 152), dE P "__static_attributes__" 392 (vR 153)] 5
noncomputable def o142 (P : Params) : Obj := oQ "tuple" []
noncomputable def o143 (P : Params) : Obj := oF vN [(vI 46 0), (vI 4 0), (vR 151)]
noncomputable def o144 (P : Params) : Obj := oF (vT "code") [(vS "Code" 368), (vS "Code" 369), (vS "/claim/cut.py" 370), (vI 44 0), (vI 0 0), (vI 0 0), (vI 0 0), (vI 0 0), (vR 142), (vB false), (vI 181 0), (vR 143), vN, vN, vN, vN, (vI 371 0), (vI 44 0), (vS "/claim/cut.py" 372)]
noncomputable def o145 (P : Params) : Obj := ⟨(vT "frame"), none, .plain, #[some (vR 144), some (vR 3), some (vR 141), none, some (vS "perlcore.values" 250), none, some (vR 0)]⟩
noncomputable def o146 (P : Params) : Obj := oQ "tuple" []
noncomputable def o147 (P : Params) : Obj := oF vN []
noncomputable def o148 (P : Params) : Obj := oQ "tuple" [(vS "self" 381), (vS "number" 382), (vS "sub" 383), (vS "captures" 384)]
noncomputable def o149 (P : Params) : Obj := oQ "tuple" []
noncomputable def o150 (P : Params) : Obj := ⟨vN, none, (.func ⟨S "__init__", S "Code.__init__", fA 7, fB 7, fC 7, 0, [], vN, vN, vN, vN, none, vN, vN, 0⟩), #[]⟩
noncomputable def o151 (P : Params) : Obj := oF (vT "code") [(vS "__init__" 378), (vS "Code.__init__" 379), (vS "/claim/cut.py" 380), (vI 46 0), (vI 4 0), (vI 0 0), (vI 0 0), (vI 3 0), (vR 146), (vB true), (vI 181 0), (vR 147), vN, (vR 148), (vR 149), (vR 150), (vI 385 0), (vI 46 0), (vS "/claim/cut.py" 386)]
noncomputable def o152 (P : Params) : Obj := ⟨(vT "function"), none, (.func ⟨S "__init__", S "Code.__init__", fA 7, fB 7, fC 7, 3, [], vN, vN, vN, (vS "perlcore.values" 250), none, (vR 151), vN, 0⟩), #[]⟩
noncomputable def o153 (P : Params) : Obj := oQ "tuple" [(vS "builtin" 388), (vS "captures" 389), (vS "package" 390), (vS "sub" 391)]
noncomputable def o154 (P : Params) : Obj := oD [dE P "__module__" 373 (vS "perlcore.values" 250), dE P "__firstlineno__" 377 (vI 44 376), dE P "__init__" 387 (vR 152), dE P "__static_attributes__" 392 (vR 153), dE P "__doc__" 393 vN] 2
noncomputable def o155 (P : Params) : Obj := ⟨(vT "type"), none, (.cls ⟨S "Code", [(vR 77)], [(vR 155), (vR 77), (vT "object")], 154, S "Code", true, [], [], false, none, false⟩), #[some (vR 139), none, some (vS "Code" 366), some (vS "Code" 374), some (vb "object.__new__"), some (vB true)]⟩
noncomputable def o156 (P : Params) : Obj := oF (vT "super") [(vR 155), (vR 155), (vR 155)]
noncomputable def o157 (P : Params) : Obj := oF (vT "builtin_function_or_method") [(vb "object.__init_subclass__"), (vR 155)]
noncomputable def o158 (P : Params) : Obj := oQ "tuple" [(vR 77)]
noncomputable def o159 (P : Params) : Obj := oF (vT "builtin_function_or_method") [(vb "type.__prepare__"), (vT "type")]
noncomputable def o160 (P : Params) : Obj := oD [dE P "__module__" 403 (vS "perlcore.values" 250), dE P "__qualname__" 405 (vS "Glob" 404), dE P "__firstlineno__" 407 (vI 52 406), dE P "__init__" 416 (vR 171), dE P "__static_attributes__" 422 (vR 172)] 5
noncomputable def o161 (P : Params) : Obj := oQ "tuple" []
noncomputable def o162 (P : Params) : Obj := oF vN [(vI 54 0), (vI 4 0), (vR 170)]
noncomputable def o163 (P : Params) : Obj := oF (vT "code") [(vS "Glob" 398), (vS "Glob" 399), (vS "/claim/cut.py" 400), (vI 52 0), (vI 0 0), (vI 0 0), (vI 0 0), (vI 0 0), (vR 161), (vB false), (vI 181 0), (vR 162), vN, vN, vN, vN, (vI 401 0), (vI 52 0), (vS "/claim/cut.py" 402)]
noncomputable def o164 (P : Params) : Obj := ⟨(vT "frame"), none, .plain, #[some (vR 163), some (vR 3), some (vR 160), none, some (vS "perlcore.values" 250), none, some (vR 0)]⟩
noncomputable def o165 (P : Params) : Obj := oQ "tuple" []
noncomputable def o166 (P : Params) : Obj := oF vN []
noncomputable def o167 (P : Params) : Obj := oQ "tuple" [(vS "self" 411), (vS "number" 412), (vS "name" 413)]
noncomputable def o168 (P : Params) : Obj := oQ "tuple" []
noncomputable def o169 (P : Params) : Obj := ⟨vN, none, (.func ⟨S "__init__", S "Glob.__init__", fA 8, fB 8, fC 8, 0, [], vN, vN, vN, vN, none, vN, vN, 0⟩), #[]⟩
noncomputable def o170 (P : Params) : Obj := oF (vT "code") [(vS "__init__" 408), (vS "Glob.__init__" 409), (vS "/claim/cut.py" 410), (vI 54 0), (vI 3 0), (vI 0 0), (vI 0 0), (vI 3 0), (vR 165), (vB true), (vI 181 0), (vR 166), vN, (vR 167), (vR 168), (vR 169), (vI 414 0), (vI 54 0), (vS "/claim/cut.py" 415)]
noncomputable def o171 (P : Params) : Obj := ⟨(vT "function"), none, (.func ⟨S "__init__", S "Glob.__init__", fA 8, fB 8, fC 8, 3, [], vN, vN, vN, (vS "perlcore.values" 250), none, (vR 170), vN, 0⟩), #[]⟩
noncomputable def o172 (P : Params) : Obj := oQ "tuple" [(vS "array" 417), (vS "code" 418), (vS "hash" 419), (vS "name" 420), (vS "scalar" 421)]
noncomputable def o173 (P : Params) : Obj := oD [dE P "__module__" 403 (vS "perlcore.values" 250), dE P "__firstlineno__" 407 (vI 52 406), dE P "__init__" 416 (vR 171), dE P "__static_attributes__" 422 (vR 172), dE P "__doc__" 423 vN] 2
noncomputable def o174 (P : Params) : Obj := ⟨(vT "type"), none, (.cls ⟨S "Glob", [(vR 77)], [(vR 174), (vR 77), (vT "object")], 173, S "Glob", true, [], [], false, none, false⟩), #[some (vR 158), none, some (vS "Glob" 396), some (vS "Glob" 404), some (vb "object.__new__"), some (vB true)]⟩
noncomputable def o175 (P : Params) : Obj := oF (vT "super") [(vR 174), (vR 174), (vR 174)]
noncomputable def o176 (P : Params) : Obj := oF (vT "builtin_function_or_method") [(vb "object.__init_subclass__"), (vR 174)]
noncomputable def o177 (P : Params) : Obj := oQ "tuple" []
noncomputable def o178 (P : Params) : Obj := oF (vT "builtin_function_or_method") [(vb "type.__prepare__"), (vT "type")]
noncomputable def o179 (P : Params) : Obj := oD [dE P "__module__" 433 (vS "perlcore.values" 250), dE P "__qualname__" 435 (vS "Ref" 434), dE P "__firstlineno__" 437 (vI 61 436), dE P "__init__" 446 (vR 191), dE P "__static_attributes__" 449 (vR 192)] 5
noncomputable def o180 (P : Params) : Obj := oQ "tuple" []
noncomputable def o181 (P : Params) : Obj := oF vN [(vI 63 0), (vI 4 0), (vR 190)]
noncomputable def o182 (P : Params) : Obj := oF (vT "code") [(vS "Ref" 428), (vS "Ref" 429), (vS "/claim/cut.py" 430), (vI 61 0), (vI 0 0), (vI 0 0), (vI 0 0), (vI 0 0), (vR 180), (vB false), (vI 181 0), (vR 181), vN, vN, vN, vN, (vI 431 0), (vI 61 0), (vS "/claim/cut.py" 432)]
noncomputable def o183 (P : Params) : Obj := ⟨(vT "frame"), none, .plain, #[some (vR 182), some (vR 3), some (vR 179), none, some (vS "perlcore.values" 250), none, some (vR 0)]⟩
noncomputable def o184 (P : Params) : Obj := oQ "tuple" [(vB false)]
noncomputable def o185 (P : Params) : Obj := oQ "tuple" []
noncomputable def o186 (P : Params) : Obj := oF vN []
noncomputable def o187 (P : Params) : Obj := oQ "tuple" [(vS "self" 441), (vS "target" 442), (vS "is_weak" 443)]
noncomputable def o188 (P : Params) : Obj := oQ "tuple" []
noncomputable def o189 (P : Params) : Obj := ⟨vN, none, (.func ⟨S "__init__", S "Ref.__init__", fA 9, fB 9, fC 9, 0, [], vN, vN, vN, vN, none, vN, vN, 0⟩), #[]⟩
noncomputable def o190 (P : Params) : Obj := oF (vT "code") [(vS "__init__" 438), (vS "Ref.__init__" 439), (vS "/claim/cut.py" 440), (vI 63 0), (vI 3 0), (vI 0 0), (vI 0 0), (vI 3 0), (vR 185), (vB true), (vI 181 0), (vR 186), vN, (vR 187), (vR 188), (vR 189), (vI 444 0), (vI 63 0), (vS "/claim/cut.py" 445)]
noncomputable def o191 (P : Params) : Obj := ⟨(vT "function"), none, (.func ⟨S "__init__", S "Ref.__init__", fA 9, fB 9, fC 9, 3, [], (vR 184), vN, vN, (vS "perlcore.values" 250), none, (vR 190), vN, 0⟩), #[]⟩
noncomputable def o192 (P : Params) : Obj := oQ "tuple" [(vS "is_weak" 447), (vS "target" 448)]
noncomputable def o193 (P : Params) : Obj := oD [dE P "__module__" 433 (vS "perlcore.values" 250), dE P "__firstlineno__" 437 (vI 61 436), dE P "__init__" 446 (vR 191), dE P "__static_attributes__" 449 (vR 192), dE P "__dict__" 451 (vR 195), dE P "__weakref__" 453 (vR 196), dE P "__doc__" 454 vN] 4
noncomputable def o194 (P : Params) : Obj := ⟨(vT "type"), none, (.cls ⟨S "Ref", [(vT "object")], [(vR 194), (vT "object")], 193, S "Ref", true, [], [], false, none, false⟩), #[none, none, some (vS "Ref" 426), some (vS "Ref" 434), some (vb "object.__new__"), some (vB true)]⟩
noncomputable def o195 (P : Params) : Obj := oF (vT "getset_descriptor") [(vS "__dict__" 450), (vR 194), (vb "function.__dict__"), (vb "function.__dict__#set")]
noncomputable def o196 (P : Params) : Obj := oF (vT "getset_descriptor") [(vS "__weakref__" 452), (vR 194), (vb "ExceptionGroup.__weakref__"), vN]
noncomputable def o197 (P : Params) : Obj := oF (vT "super") [(vR 194), (vR 194), (vR 194)]
noncomputable def o198 (P : Params) : Obj := oF (vT "builtin_function_or_method") [(vb "object.__init_subclass__"), (vR 194)]
noncomputable def o199 (P : Params) : Obj := oQ "tuple" []
noncomputable def o200 (P : Params) : Obj := oF (vT "builtin_function_or_method") [(vb "type.__prepare__"), (vT "type")]
noncomputable def o201 (P : Params) : Obj := oD [dE P "__module__" 464 (vS "perlcore.values" 250), dE P "__qualname__" 466 (vS "Heap" 465), dE P "__firstlineno__" 468 (vI 66 467), dE P "__init__" 476 (vR 212), dE P "next_number" 483 (vR 219), dE P "new_scalar" 491 (vR 226), dE P "new_array" 498 (vR 233), dE P "new_hash" 505 (vR 240), dE P "new_code" 514 (vR 247), dE P "new_glob" 522 (vR 254), dE P "__static_attributes__" 526 (vR 255)] 11
noncomputable def o202 (P : Params) : Obj := oQ "tuple" []
noncomputable def o203 (P : Params) : Obj := oF vN [(vI 68 0), (vI 4 0), (vR 211), (vI 73 0), (vI 4 0), (vR 218), (vI 77 0), (vI 4 0), (vR 225), (vI 80 0), (vI 4 0), (vR 232), (vI 83 0), (vI 4 0), (vR 239), (vI 86 0), (vI 4 0), (vR 246), (vI 89 0), (vI 4 0), (vR 253)]
noncomputable def o204 (P : Params) : Obj := oF (vT "code") [(vS "Heap" 459), (vS "Heap" 460), (vS "/claim/cut.py" 461), (vI 66 0), (vI 0 0), (vI 0 0), (vI 0 0), (vI 0 0), (vR 202), (vB false), (vI 181 0), (vR 203), vN, vN, vN, vN, (vI 462 0), (vI 66 0), (vS "/claim/cut.py" 463)]
noncomputable def o205 (P : Params) : Obj := ⟨(vT "frame"), none, .plain, #[some (vR 204), some (vR 3), some (vR 201), none, some (vS "perlcore.values" 250), none, some (vR 0)]⟩
noncomputable def o206 (P : Params) : Obj := oQ "tuple" []
noncomputable def o207 (P : Params) : Obj := oF vN []
noncomputable def o208 (P : Params) : Obj := oQ "tuple" [(vS "self" 472), (vS "limits" 473)]
noncomputable def o209 (P : Params) : Obj := oQ "tuple" []
noncomputable def o210 (P : Params) : Obj := ⟨vN, none, (.func ⟨S "__init__", S "Heap.__init__", fA 10, fB 10, fC 10, 0, [], vN, vN, vN, vN, none, vN, vN, 0⟩), #[]⟩
noncomputable def o211 (P : Params) : Obj := oF (vT "code") [(vS "__init__" 469), (vS "Heap.__init__" 470), (vS "/claim/cut.py" 471), (vI 68 0), (vI 2 0), (vI 0 0), (vI 0 0), (vI 3 0), (vR 206), (vB true), (vI 181 0), (vR 207), vN, (vR 208), (vR 209), (vR 210), (vI 474 0), (vI 68 0), (vS "/claim/cut.py" 475)]
noncomputable def o212 (P : Params) : Obj := ⟨(vT "function"), none, (.func ⟨S "__init__", S "Heap.__init__", fA 10, fB 10, fC 10, 3, [], vN, vN, vN, (vS "perlcore.values" 250), none, (vR 211), vN, 0⟩), #[]⟩
noncomputable def o213 (P : Params) : Obj := oQ "tuple" []
noncomputable def o214 (P : Params) : Obj := oF vN []
noncomputable def o215 (P : Params) : Obj := oQ "tuple" [(vS "self" 480)]
noncomputable def o216 (P : Params) : Obj := oQ "tuple" []
noncomputable def o217 (P : Params) : Obj := ⟨vN, none, (.func ⟨S "next_number", S "Heap.next_number", fA 11, fB 11, fC 11, 0, [], vN, vN, vN, vN, none, vN, vN, 0⟩), #[]⟩
noncomputable def o218 (P : Params) : Obj := oF (vT "code") [(vS "next_number" 477), (vS "Heap.next_number" 478), (vS "/claim/cut.py" 479), (vI 73 0), (vI 1 0), (vI 0 0), (vI 0 0), (vI 3 0), (vR 213), (vB true), (vI 181 0), (vR 214), vN, (vR 215), (vR 216), (vR 217), (vI 481 0), (vI 73 0), (vS "/claim/cut.py" 482)]
noncomputable def o219 (P : Params) : Obj := ⟨(vT "function"), none, (.func ⟨S "next_number", S "Heap.next_number", fA 11, fB 11, fC 11, 3, [], vN, vN, vN, (vS "perlcore.values" 250), none, (vR 218), vN, 0⟩), #[]⟩
noncomputable def o220 (P : Params) : Obj := oQ "tuple" []
noncomputable def o221 (P : Params) : Obj := oF vN []
noncomputable def o222 (P : Params) : Obj := oQ "tuple" [(vS "self" 487), (vS "value" 488)]
noncomputable def o223 (P : Params) : Obj := oQ "tuple" []
noncomputable def o224 (P : Params) : Obj := ⟨vN, none, (.func ⟨S "new_scalar", S "Heap.new_scalar", fA 12, fB 12, fC 12, 0, [], vN, vN, vN, vN, none, vN, vN, 0⟩), #[]⟩
noncomputable def o225 (P : Params) : Obj := oF (vT "code") [(vS "new_scalar" 484), (vS "Heap.new_scalar" 485), (vS "/claim/cut.py" 486), (vI 77 0), (vI 2 0), (vI 0 0), (vI 0 0), (vI 3 0), (vR 220), (vB true), (vI 181 0), (vR 221), vN, (vR 222), (vR 223), (vR 224), (vI 489 0), (vI 77 0), (vS "/claim/cut.py" 490)]
noncomputable def o226 (P : Params) : Obj := ⟨(vT "function"), none, (.func ⟨S "new_scalar", S "Heap.new_scalar", fA 12, fB 12, fC 12, 3, [], vN, vN, vN, (vS "perlcore.values" 250), none, (vR 225), vN, 0⟩), #[]⟩
noncomputable def o227 (P : Params) : Obj := oQ "tuple" []
noncomputable def o228 (P : Params) : Obj := oF vN []
noncomputable def o229 (P : Params) : Obj := oQ "tuple" [(vS "self" 495)]
noncomputable def o230 (P : Params) : Obj := oQ "tuple" []
noncomputable def o231 (P : Params) : Obj := ⟨vN, none, (.func ⟨S "new_array", S "Heap.new_array", fA 13, fB 13, fC 13, 0, [], vN, vN, vN, vN, none, vN, vN, 0⟩), #[]⟩
noncomputable def o232 (P : Params) : Obj := oF (vT "code") [(vS "new_array" 492), (vS "Heap.new_array" 493), (vS "/claim/cut.py" 494), (vI 80 0), (vI 1 0), (vI 0 0), (vI 0 0), (vI 3 0), (vR 227), (vB true), (vI 181 0), (vR 228), vN, (vR 229), (vR 230), (vR 231), (vI 496 0), (vI 80 0), (vS "/claim/cut.py" 497)]
noncomputable def o233 (P : Params) : Obj := ⟨(vT "function"), none, (.func ⟨S "new_array", S "Heap.new_array", fA 13, fB 13, fC 13, 3, [], vN, vN, vN, (vS "perlcore.values" 250), none, (vR 232), vN, 0⟩), #[]⟩
noncomputable def o234 (P : Params) : Obj := oQ "tuple" []
noncomputable def o235 (P : Params) : Obj := oF vN []
noncomputable def o236 (P : Params) : Obj := oQ "tuple" [(vS "self" 502)]
noncomputable def o237 (P : Params) : Obj := oQ "tuple" []
noncomputable def o238 (P : Params) : Obj := ⟨vN, none, (.func ⟨S "new_hash", S "Heap.new_hash", fA 14, fB 14, fC 14, 0, [], vN, vN, vN, vN, none, vN, vN, 0⟩), #[]⟩
noncomputable def o239 (P : Params) : Obj := oF (vT "code") [(vS "new_hash" 499), (vS "Heap.new_hash" 500), (vS "/claim/cut.py" 501), (vI 83 0), (vI 1 0), (vI 0 0), (vI 0 0), (vI 3 0), (vR 234), (vB true), (vI 181 0), (vR 235), vN, (vR 236), (vR 237), (vR 238), (vI 503 0), (vI 83 0), (vS "/claim/cut.py" 504)]
noncomputable def o240 (P : Params) : Obj := ⟨(vT "function"), none, (.func ⟨S "new_hash", S "Heap.new_hash", fA 14, fB 14, fC 14, 3, [], vN, vN, vN, (vS "perlcore.values" 250), none, (vR 239), vN, 0⟩), #[]⟩
noncomputable def o241 (P : Params) : Obj := oQ "tuple" []
noncomputable def o242 (P : Params) : Obj := oF vN []
noncomputable def o243 (P : Params) : Obj := oQ "tuple" [(vS "self" 509), (vS "sub" 510), (vS "captures" 511)]
noncomputable def o244 (P : Params) : Obj := oQ "tuple" []
noncomputable def o245 (P : Params) : Obj := ⟨vN, none, (.func ⟨S "new_code", S "Heap.new_code", fA 15, fB 15, fC 15, 0, [], vN, vN, vN, vN, none, vN, vN, 0⟩), #[]⟩
noncomputable def o246 (P : Params) : Obj := oF (vT "code") [(vS "new_code" 506), (vS "Heap.new_code" 507), (vS "/claim/cut.py" 508), (vI 86 0), (vI 3 0), (vI 0 0), (vI 0 0), (vI 3 0), (vR 241), (vB true), (vI 181 0), (vR 242), vN, (vR 243), (vR 244), (vR 245), (vI 512 0), (vI 86 0), (vS "/claim/cut.py" 513)]
noncomputable def o247 (P : Params) : Obj := ⟨(vT "function"), none, (.func ⟨S "new_code", S "Heap.new_code", fA 15, fB 15, fC 15, 3, [], vN, vN, vN, (vS "perlcore.values" 250), none, (vR 246), vN, 0⟩), #[]⟩
noncomputable def o248 (P : Params) : Obj := oQ "tuple" []
noncomputable def o249 (P : Params) : Obj := oF vN []
noncomputable def o250 (P : Params) : Obj := oQ "tuple" [(vS "self" 518), (vS "name" 519)]
noncomputable def o251 (P : Params) : Obj := oQ "tuple" []
noncomputable def o252 (P : Params) : Obj := ⟨vN, none, (.func ⟨S "new_glob", S "Heap.new_glob", fA 16, fB 16, fC 16, 0, [], vN, vN, vN, vN, none, vN, vN, 0⟩), #[]⟩
noncomputable def o253 (P : Params) : Obj := oF (vT "code") [(vS "new_glob" 515), (vS "Heap.new_glob" 516), (vS "/claim/cut.py" 517), (vI 89 0), (vI 2 0), (vI 0 0), (vI 0 0), (vI 3 0), (vR 248), (vB true), (vI 181 0), (vR 249), vN, (vR 250), (vR 251), (vR 252), (vI 520 0), (vI 89 0), (vS "/claim/cut.py" 521)]
noncomputable def o254 (P : Params) : Obj := ⟨(vT "function"), none, (.func ⟨S "new_glob", S "Heap.new_glob", fA 16, fB 16, fC 16, 3, [], vN, vN, vN, (vS "perlcore.values" 250), none, (vR 253), vN, 0⟩), #[]⟩
noncomputable def o255 (P : Params) : Obj := oQ "tuple" [(vS "last" 523), (vS "limits" 524), (vS "zero" 525)]
noncomputable def o256 (P : Params) : Obj := oD [dE P "__module__" 464 (vS "perlcore.values" 250), dE P "__firstlineno__" 468 (vI 66 467), dE P "__init__" 476 (vR 212), dE P "next_number" 483 (vR 219), dE P "new_scalar" 491 (vR 226), dE P "new_array" 498 (vR 233), dE P "new_hash" 505 (vR 240), dE P "new_code" 514 (vR 247), dE P "new_glob" 522 (vR 254), dE P "__static_attributes__" 526 (vR 255), dE P "__dict__" 528 (vR 258), dE P "__weakref__" 530 (vR 259), dE P "__doc__" 531 vN] 4
noncomputable def o257 (P : Params) : Obj := ⟨(vT "type"), none, (.cls ⟨S "Heap", [(vT "object")], [(vR 257), (vT "object")], 256, S "Heap", true, [], [], false, none, false⟩), #[none, none, some (vS "Heap" 457), some (vS "Heap" 465), some (vb "object.__new__"), some (vB true)]⟩
noncomputable def o258 (P : Params) : Obj := oF (vT "getset_descriptor") [(vS "__dict__" 527), (vR 257), (vb "function.__dict__"), (vb "function.__dict__#set")]
noncomputable def o259 (P : Params) : Obj := oF (vT "getset_descriptor") [(vS "__weakref__" 529), (vR 257), (vb "ExceptionGroup.__weakref__"), vN]
noncomputable def o260 (P : Params) : Obj := oF (vT "super") [(vR 257), (vR 257), (vR 257)]
noncomputable def o261 (P : Params) : Obj := oF (vT "builtin_function_or_method") [(vb "object.__init_subclass__"), (vR 257)]
noncomputable def o262 (P : Params) : Obj := oQ "tuple" []
noncomputable def o263 (P : Params) : Obj := oF vN []
noncomputable def o264 (P : Params) : Obj := oQ "tuple" [(vS "x" 539)]
noncomputable def o265 (P : Params) : Obj := oQ "tuple" []
noncomputable def o266 (P : Params) : Obj := ⟨vN, none, (.func ⟨S "value_of", S "value_of", fA 17, fB 17, fC 17, 0, [], vN, vN, vN, vN, none, vN, vN, 0⟩), #[]⟩
noncomputable def o267 (P : Params) : Obj := oF (vT "code") [(vS "value_of" 536), (vS "value_of" 537), (vS "/claim/cut.py" 538), (vI 92 0), (vI 1 0), (vI 0 0), (vI 0 0), (vI 3 0), (vR 262), (vB true), (vI 181 0), (vR 263), vN, (vR 264), (vR 265), (vR 266), (vI 540 0), (vI 92 0), (vS "/claim/cut.py" 541)]
noncomputable def o268 (P : Params) : Obj := ⟨(vT "function"), none, (.func ⟨S "value_of", S "value_of", fA 17, fB 17, fC 17, 3, [], vN, vN, vN, (vS "perlcore.convert" 534), none, (vR 267), vN, 0⟩), #[]⟩
noncomputable def o269 (P : Params) : Obj := oQ "tuple" []
noncomputable def o270 (P : Params) : Obj := oF vN []
noncomputable def o271 (P : Params) : Obj := oQ "tuple" [(vS "counter" 552), (vS "member" 553), (vS "value" 554)]
noncomputable def o272 (P : Params) : Obj := oQ "tuple" []
noncomputable def o273 (P : Params) : Obj := ⟨vN, none, (.func ⟨S "drop_member", S "drop_member", fA 18, fB 18, fC 18, 0, [], vN, vN, vN, vN, none, vN, vN, 0⟩), #[]⟩
noncomputable def o274 (P : Params) : Obj := oF (vT "code") [(vS "drop_member" 549), (vS "drop_member" 550), (vS "/claim/cut.py" 551), (vI 101 0), (vI 2 0), (vI 0 0), (vI 0 0), (vI 3 0), (vR 269), (vB true), (vI 181 0), (vR 270), vN, (vR 271), (vR 272), (vR 273), (vI 555 0), (vI 101 0), (vS "/claim/cut.py" 556)]
noncomputable def o275 (P : Params) : Obj := ⟨(vT "function"), none, (.func ⟨S "drop_member", S "drop_member", fA 18, fB 18, fC 18, 3, [], vN, vN, vN, (vS "perlcore.listops" 543), none, (vR 274), vN, 0⟩), #[]⟩
noncomputable def o276 (P : Params) : Obj := oQ "tuple" []
noncomputable def o277 (P : Params) : Obj := oF vN []
noncomputable def o278 (P : Params) : Obj := ⟨vN, none, (.func ⟨S "drop_members", S "drop_members", fA 19, fB 19, fC 19, 0, [], vN, vN, vN, vN, none, vN, vN, 0⟩), #[]⟩
noncomputable def o279 (P : Params) : Obj := oF (vT "code") [(vS "drop_members" 558), (vS "drop_members" 559), (vS "/claim/cut.py" 560), (vI 107 0), (vI 2 0), (vI 0 0), (vI 0 0), (vI 3 0), (vR 276), (vB true), (vI 181 0), (vR 277), vN, vN, vN, (vR 278), (vI 561 0), (vI 107 0), (vS "/claim/cut.py" 562)]
noncomputable def o280 (P : Params) : Obj := ⟨(vT "function"), none, (.func ⟨S "drop_members", S "drop_members", fA 19, fB 19, fC 19, 3, [], vN, vN, vN, (vS "perlcore.listops" 543), none, (vR 279), vN, 0⟩), #[]⟩
noncomputable def o281 (P : Params) : Obj := oQ "tuple" []
noncomputable def o282 (P : Params) : Obj := oF vN []
noncomputable def o283 (P : Params) : Obj := oQ "tuple" [(vS "counter" 567), (vS "size" 568)]
noncomputable def o284 (P : Params) : Obj := oQ "tuple" []
noncomputable def o285 (P : Params) : Obj := ⟨vN, none, (.func ⟨S "check_room", S "check_room", fA 20, fB 20, fC 20, 0, [], vN, vN, vN, vN, none, vN, vN, 0⟩), #[]⟩
noncomputable def o286 (P : Params) : Obj := oF (vT "code") [(vS "check_room" 564), (vS "check_room" 565), (vS "/claim/cut.py" 566), (vI 109 0), (vI 2 0), (vI 0 0), (vI 0 0), (vI 3 0), (vR 281), (vB true), (vI 181 0), (vR 282), vN, (vR 283), (vR 284), (vR 285), (vI 569 0), (vI 109 0), (vS "/claim/cut.py" 570)]
noncomputable def o287 (P : Params) : Obj := ⟨(vT "function"), none, (.func ⟨S "check_room", S "check_room", fA 20, fB 20, fC 20, 3, [], vN, vN, vN, (vS "perlcore.listops" 543), none, (vR 286), vN, 0⟩), #[]⟩
noncomputable def o288 (P : Params) : Obj := oQ "tuple" []
noncomputable def o289 (P : Params) : Obj := oF vN []
noncomputable def o290 (P : Params) : Obj := oQ "tuple" [(vS "array" 575), (vS "index" 576)]
noncomputable def o291 (P : Params) : Obj := oQ "tuple" []
noncomputable def o292 (P : Params) : Obj := ⟨vN, none, (.func ⟨S "element_place", S "element_place", fA 21, fB 21, fC 21, 0, [], vN, vN, vN, vN, none, vN, vN, 0⟩), #[]⟩
noncomputable def o293 (P : Params) : Obj := oF (vT "code") [(vS "element_place" 572), (vS "element_place" 573), (vS "/claim/cut.py" 574), (vI 112 0), (vI 2 0), (vI 0 0), (vI 0 0), (vI 3 0), (vR 288), (vB true), (vI 181 0), (vR 289), vN, (vR 290), (vR 291), (vR 292), (vI 577 0), (vI 112 0), (vS "/claim/cut.py" 578)]
noncomputable def o294 (P : Params) : Obj := ⟨(vT "function"), none, (.func ⟨S "element_place", S "element_place", fA 21, fB 21, fC 21, 3, [], vN, vN, vN, (vS "perlcore.listops" 543), none, (vR 293), vN, 0⟩), #[]⟩
noncomputable def o295 (P : Params) : Obj := oQ "tuple" []
noncomputable def o296 (P : Params) : Obj := oF vN []
noncomputable def o297 (P : Params) : Obj := oQ "tuple" [(vS "counter" 583), (vS "array" 584), (vS "index" 585), (vS "most" 586), (vS "place" 587)]
noncomputable def o298 (P : Params) : Obj := oQ "tuple" []
noncomputable def o299 (P : Params) : Obj := ⟨vN, none, (.func ⟨S "element_scalar", S "element_scalar", fA 22, fB 22, fC 22, 0, [], vN, vN, vN, vN, none, vN, vN, 0⟩), #[]⟩
noncomputable def o300 (P : Params) : Obj := oF (vT "code") [(vS "element_scalar" 580), (vS "element_scalar" 581), (vS "/claim/cut.py" 582), (vI 118 0), (vI 4 0), (vI 0 0), (vI 0 0), (vI 3 0), (vR 295), (vB true), (vI 181 0), (vR 296), vN, (vR 297), (vR 298), (vR 299), (vI 588 0), (vI 118 0), (vS "/claim/cut.py" 589)]
noncomputable def o301 (P : Params) : Obj := ⟨(vT "function"), none, (.func ⟨S "element_scalar", S "element_scalar", fA 22, fB 22, fC 22, 3, [], vN, vN, vN, (vS "perlcore.listops" 543), none, (vR 300), vN, 0⟩), #[]⟩
noncomputable def o302 (P : Params) : Obj := oQ "tuple" []
noncomputable def o303 (P : Params) : Obj := oF vN []
noncomputable def o304 (P : Params) : Obj := oQ "tuple" [(vS "counter" 594), (vS "array" 595), (vS "size" 596), (vS "most" 597), (vS "gone" 598)]
noncomputable def o305 (P : Params) : Obj := oQ "tuple" []
noncomputable def o306 (P : Params) : Obj := ⟨vN, none, (.func ⟨S "resize_array", S "resize_array", fA 23, fB 23, fC 23, 0, [], vN, vN, vN, vN, none, vN, vN, 0⟩), #[]⟩
noncomputable def o307 (P : Params) : Obj := oF (vT "code") [(vS "resize_array" 591), (vS "resize_array" 592), (vS "/claim/cut.py" 593), (vI 127 0), (vI 4 0), (vI 0 0), (vI 0 0), (vI 3 0), (vR 302), (vB true), (vI 181 0), (vR 303), vN, (vR 304), (vR 305), (vR 306), (vI 599 0), (vI 127 0), (vS "/claim/cut.py" 600)]
noncomputable def o308 (P : Params) : Obj := ⟨(vT "function"), none, (.func ⟨S "resize_array", S "resize_array", fA 23, fB 23, fC 23, 3, [], vN, vN, vN, (vS "perlcore.listops" 543), none, (vR 307), vN, 0⟩), #[]⟩
noncomputable def o309 (P : Params) : Obj := oQ "tuple" []
noncomputable def o310 (P : Params) : Obj := oF vN []
noncomputable def o311 (P : Params) : Obj := oQ "tuple" [(vS "counter" 607), (vS "table_thing" 608), (vS "key" 609)]
noncomputable def o312 (P : Params) : Obj := oQ "tuple" []
noncomputable def o313 (P : Params) : Obj := ⟨vN, none, (.func ⟨S "key_scalar", S "key_scalar", fA 24, fB 24, fC 24, 0, [], vN, vN, vN, vN, none, vN, vN, 0⟩), #[]⟩
noncomputable def o314 (P : Params) : Obj := oF (vT "code") [(vS "key_scalar" 604), (vS "key_scalar" 605), (vS "/claim/cut.py" 606), (vI 138 0), (vI 3 0), (vI 0 0), (vI 0 0), (vI 3 0), (vR 309), (vB true), (vI 181 0), (vR 310), vN, (vR 311), (vR 312), (vR 313), (vI 610 0), (vI 138 0), (vS "/claim/cut.py" 611)]
noncomputable def o315 (P : Params) : Obj := ⟨(vT "function"), none, (.func ⟨S "key_scalar", S "key_scalar", fA 24, fB 24, fC 24, 3, [], vN, vN, vN, (vS "perlcore.hashops" 602), none, (vR 314), vN, 0⟩), #[]⟩
noncomputable def o316 (P : Params) : Obj := oQ "tuple" []
noncomputable def o317 (P : Params) : Obj := oF vN []
noncomputable def o318 (P : Params) : Obj := oQ "tuple" [(vS "table_thing" 616), (vS "key" 617), (vS "place" 618), (vS "other" 619)]
noncomputable def o319 (P : Params) : Obj := oQ "tuple" []
noncomputable def o320 (P : Params) : Obj := ⟨vN, none, (.func ⟨S "key_place", S "key_place", fA 25, fB 25, fC 25, 0, [], vN, vN, vN, vN, none, vN, vN, 0⟩), #[]⟩
noncomputable def o321 (P : Params) : Obj := oF (vT "code") [(vS "key_place" 613), (vS "key_place" 614), (vS "/claim/cut.py" 615), (vI 143 0), (vI 2 0), (vI 0 0), (vI 0 0), (vI 3 0), (vR 316), (vB true), (vI 181 0), (vR 317), vN, (vR 318), (vR 319), (vR 320), (vI 620 0), (vI 143 0), (vS "/claim/cut.py" 621)]
noncomputable def o322 (P : Params) : Obj := ⟨(vT "function"), none, (.func ⟨S "key_place", S "key_place", fA 25, fB 25, fC 25, 3, [], vN, vN, vN, (vS "perlcore.hashops" 602), none, (vR 321), vN, 0⟩), #[]⟩
noncomputable def o323 (P : Params) : Obj := oQ "tuple" []
noncomputable def o324 (P : Params) : Obj := oF vN []
noncomputable def o325 (P : Params) : Obj := oQ "tuple" [(vS "counter" 626), (vS "table_thing" 627), (vS "key" 628)]
noncomputable def o326 (P : Params) : Obj := oQ "tuple" []
noncomputable def o327 (P : Params) : Obj := ⟨vN, none, (.func ⟨S "delete_key", S "delete_key", fA 26, fB 26, fC 26, 0, [], vN, vN, vN, vN, none, vN, vN, 0⟩), #[]⟩
noncomputable def o328 (P : Params) : Obj := oF (vT "code") [(vS "delete_key" 623), (vS "delete_key" 624), (vS "/claim/cut.py" 625), (vI 150 0), (vI 3 0), (vI 0 0), (vI 0 0), (vI 3 0), (vR 323), (vB true), (vI 181 0), (vR 324), vN, (vR 325), (vR 326), (vR 327), (vI 629 0), (vI 150 0), (vS "/claim/cut.py" 630)]
noncomputable def o329 (P : Params) : Obj := ⟨(vT "function"), none, (.func ⟨S "delete_key", S "delete_key", fA 26, fB 26, fC 26, 3, [], vN, vN, vN, (vS "perlcore.hashops" 602), none, (vR 328), vN, 0⟩), #[]⟩
noncomputable def o330 (P : Params) : Obj := oQ "tuple" [(vS "" 634), (vS "last" 635)]
noncomputable def o331 (P : Params) : Obj := oQ "tuple" []
noncomputable def o332 (P : Params) : Obj := oF vN []
noncomputable def o333 (P : Params) : Obj := oQ "tuple" [(vS "run" 640), (vS "word" 641), (vS "thing" 642), (vS "key" 643), (vS "tied" 644), (vS "is_there" 645), (vS "old" 646), (vS "kept" 647), (vS "elem" 648)]
noncomputable def o334 (P : Params) : Obj := oQ "tuple" []
noncomputable def o335 (P : Params) : Obj := ⟨vN, none, (.func ⟨S "local_tied", S "local_tied", fA 27, fB 27, fC 27, 0, [], vN, vN, vN, vN, none, vN, vN, 0⟩), #[]⟩
noncomputable def o336 (P : Params) : Obj := oF (vT "code") [(vS "local_tied" 637), (vS "local_tied" 638), (vS "/claim/cut.py" 639), (vI 158 0), (vI 4 0), (vI 0 0), (vI 0 0), (vI 3 0), (vR 331), (vB true), (vI 181 0), (vR 332), vN, (vR 333), (vR 334), (vR 335), (vI 649 0), (vI 158 0), (vS "/claim/cut.py" 650)]
noncomputable def o337 (P : Params) : Obj := ⟨(vT "function"), none, (.func ⟨S "local_tied", S "local_tied", fA 27, fB 27, fC 27, 3, [], vN, vN, vN, (vS "perlcore.dynamic" 632), none, (vR 336), vN, 0⟩), #[]⟩
noncomputable def o338 (P : Params) : Obj := oQ "tuple" []
noncomputable def o339 (P : Params) : Obj := oF vN []
noncomputable def o340 (P : Params) : Obj := oQ "tuple" [(vS "run" 655), (vS "array" 656), (vS "index" 657), (vS "items" 658)]
noncomputable def o341 (P : Params) : Obj := oQ "tuple" []
noncomputable def o342 (P : Params) : Obj := ⟨vN, none, (.func ⟨S "local_elem", S "local_elem", fA 28, fB 28, fC 28, 0, [], vN, vN, vN, vN, none, vN, vN, 0⟩), #[]⟩
noncomputable def o343 (P : Params) : Obj := oF (vT "code") [(vS "local_elem" 652), (vS "local_elem" 653), (vS "/claim/cut.py" 654), (vI 173 0), (vI 3 0), (vI 0 0), (vI 0 0), (vI 3 0), (vR 338), (vB true), (vI 181 0), (vR 339), vN, (vR 340), (vR 341), (vR 342), (vI 659 0), (vI 173 0), (vS "/claim/cut.py" 660)]
noncomputable def o344 (P : Params) : Obj := ⟨(vT "function"), none, (.func ⟨S "local_elem", S "local_elem", fA 28, fB 28, fC 28, 3, [], vN, vN, vN, (vS "perlcore.dynamic" 632), none, (vR 343), vN, 0⟩), #[]⟩
noncomputable def o345 (P : Params) : Obj := oQ "tuple" []
noncomputable def o346 (P : Params) : Obj := oF vN []
noncomputable def o347 (P : Params) : Obj := oQ "tuple" [(vS "run" 665), (vS "table_thing" 666), (vS "key" 667)]
noncomputable def o348 (P : Params) : Obj := oQ "tuple" []
noncomputable def o349 (P : Params) : Obj := ⟨vN, none, (.func ⟨S "local_helem", S "local_helem", fA 29, fB 29, fC 29, 0, [], vN, vN, vN, vN, none, vN, vN, 0⟩), #[]⟩
noncomputable def o350 (P : Params) : Obj := oF (vT "code") [(vS "local_helem" 662), (vS "local_helem" 663), (vS "/claim/cut.py" 664), (vI 192 0), (vI 3 0), (vI 0 0), (vI 0 0), (vI 3 0), (vR 345), (vB true), (vI 181 0), (vR 346), vN, (vR 347), (vR 348), (vR 349), (vI 668 0), (vI 192 0), (vS "/claim/cut.py" 669)]
noncomputable def o351 (P : Params) : Obj := ⟨(vT "function"), none, (.func ⟨S "local_helem", S "local_helem", fA 29, fB 29, fC 29, 3, [], vN, vN, vN, (vS "perlcore.dynamic" 632), none, (vR 350), vN, 0⟩), #[]⟩
noncomputable def o352 (P : Params) : Obj := oQ "tuple" []
noncomputable def o353 (P : Params) : Obj := oF vN []
noncomputable def o354 (P : Params) : Obj := oQ "tuple" [(vS "run" 674), (vS "thing" 675)]
noncomputable def o355 (P : Params) : Obj := oQ "tuple" []
noncomputable def o356 (P : Params) : Obj := ⟨vN, none, (.func ⟨S "let_go_of", S "let_go_of", fA 30, fB 30, fC 30, 0, [], vN, vN, vN, vN, none, vN, vN, 0⟩), #[]⟩
noncomputable def o357 (P : Params) : Obj := oF (vT "code") [(vS "let_go_of" 671), (vS "let_go_of" 672), (vS "/claim/cut.py" 673), (vI 199 0), (vI 2 0), (vI 0 0), (vI 0 0), (vI 3 0), (vR 352), (vB true), (vI 181 0), (vR 353), vN, (vR 354), (vR 355), (vR 356), (vI 676 0), (vI 199 0), (vS "/claim/cut.py" 677)]
noncomputable def o358 (P : Params) : Obj := ⟨(vT "function"), none, (.func ⟨S "let_go_of", S "let_go_of", fA 30, fB 30, fC 30, 3, [], vN, vN, vN, (vS "perlcore.dynamic" 632), none, (vR 357), vN, 0⟩), #[]⟩
noncomputable def o359 (P : Params) : Obj := oQ "tuple" []
noncomputable def o360 (P : Params) : Obj := oF vN []
noncomputable def o361 (P : Params) : Obj := oQ "tuple" [(vS "run" 682), (vS "save" 683)]
noncomputable def o362 (P : Params) : Obj := oQ "tuple" []
noncomputable def o363 (P : Params) : Obj := ⟨vN, none, (.func ⟨S "undo_scalar", S "undo_scalar", fA 31, fB 31, fC 31, 0, [], vN, vN, vN, vN, none, vN, vN, 0⟩), #[]⟩
noncomputable def o364 (P : Params) : Obj := oF (vT "code") [(vS "undo_scalar" 679), (vS "undo_scalar" 680), (vS "/claim/cut.py" 681), (vI 202 0), (vI 2 0), (vI 0 0), (vI 0 0), (vI 3 0), (vR 359), (vB true), (vI 181 0), (vR 360), vN, (vR 361), (vR 362), (vR 363), (vI 684 0), (vI 202 0), (vS "/claim/cut.py" 685)]
noncomputable def o365 (P : Params) : Obj := ⟨(vT "function"), none, (.func ⟨S "undo_scalar", S "undo_scalar", fA 31, fB 31, fC 31, 3, [], vN, vN, vN, (vS "perlcore.dynamic" 632), none, (vR 364), vN, 0⟩), #[]⟩
noncomputable def o366 (P : Params) : Obj := oQ "tuple" []
noncomputable def o367 (P : Params) : Obj := oF vN []
noncomputable def o368 (P : Params) : Obj := oQ "tuple" [(vS "run" 690), (vS "save" 691)]
noncomputable def o369 (P : Params) : Obj := oQ "tuple" []
noncomputable def o370 (P : Params) : Obj := ⟨vN, none, (.func ⟨S "undo_array", S "undo_array", fA 32, fB 32, fC 32, 0, [], vN, vN, vN, vN, none, vN, vN, 0⟩), #[]⟩
noncomputable def o371 (P : Params) : Obj := oF (vT "code") [(vS "undo_array" 687), (vS "undo_array" 688), (vS "/claim/cut.py" 689), (vI 205 0), (vI 2 0), (vI 0 0), (vI 0 0), (vI 3 0), (vR 366), (vB true), (vI 181 0), (vR 367), vN, (vR 368), (vR 369), (vR 370), (vI 692 0), (vI 205 0), (vS "/claim/cut.py" 693)]
noncomputable def o372 (P : Params) : Obj := ⟨(vT "function"), none, (.func ⟨S "undo_array", S "undo_array", fA 32, fB 32, fC 32, 3, [], vN, vN, vN, (vS "perlcore.dynamic" 632), none, (vR 371), vN, 0⟩), #[]⟩
noncomputable def o373 (P : Params) : Obj := oQ "tuple" []
noncomputable def o374 (P : Params) : Obj := oF vN []
noncomputable def o375 (P : Params) : Obj := oQ "tuple" [(vS "run" 698), (vS "save" 699)]
noncomputable def o376 (P : Params) : Obj := oQ "tuple" []
noncomputable def o377 (P : Params) : Obj := ⟨vN, none, (.func ⟨S "undo_hash", S "undo_hash", fA 33, fB 33, fC 33, 0, [], vN, vN, vN, vN, none, vN, vN, 0⟩), #[]⟩
noncomputable def o378 (P : Params) : Obj := oF (vT "code") [(vS "undo_hash" 695), (vS "undo_hash" 696), (vS "/claim/cut.py" 697), (vI 208 0), (vI 2 0), (vI 0 0), (vI 0 0), (vI 3 0), (vR 373), (vB true), (vI 181 0), (vR 374), vN, (vR 375), (vR 376), (vR 377), (vI 700 0), (vI 208 0), (vS "/claim/cut.py" 701)]
noncomputable def o379 (P : Params) : Obj := ⟨(vT "function"), none, (.func ⟨S "undo_hash", S "undo_hash", fA 33, fB 33, fC 33, 3, [], vN, vN, vN, (vS "perlcore.dynamic" 632), none, (vR 378), vN, 0⟩), #[]⟩
noncomputable def o380 (P : Params) : Obj := oQ "tuple" []
noncomputable def o381 (P : Params) : Obj := oF vN []
noncomputable def o382 (P : Params) : Obj := oQ "tuple" [(vS "run" 706), (vS "save" 707)]
noncomputable def o383 (P : Params) : Obj := oQ "tuple" []
noncomputable def o384 (P : Params) : Obj := ⟨vN, none, (.func ⟨S "undo_code", S "undo_code", fA 34, fB 34, fC 34, 0, [], vN, vN, vN, vN, none, vN, vN, 0⟩), #[]⟩
noncomputable def o385 (P : Params) : Obj := oF (vT "code") [(vS "undo_code" 703), (vS "undo_code" 704), (vS "/claim/cut.py" 705), (vI 211 0), (vI 2 0), (vI 0 0), (vI 0 0), (vI 3 0), (vR 380), (vB true), (vI 181 0), (vR 381), vN, (vR 382), (vR 383), (vR 384), (vI 708 0), (vI 211 0), (vS "/claim/cut.py" 709)]
noncomputable def o386 (P : Params) : Obj := ⟨(vT "function"), none, (.func ⟨S "undo_code", S "undo_code", fA 34, fB 34, fC 34, 3, [], vN, vN, vN, (vS "perlcore.dynamic" 632), none, (vR 385), vN, 0⟩), #[]⟩
noncomputable def o387 (P : Params) : Obj := oQ "tuple" []
noncomputable def o388 (P : Params) : Obj := oF vN []
noncomputable def o389 (P : Params) : Obj := oQ "tuple" [(vS "run" 714), (vS "save" 715), (vS "word" 716), (vS "array" 717), (vS "index" 718), (vS "old" 719), (vS "items" 720)]
noncomputable def o390 (P : Params) : Obj := oQ "tuple" []
noncomputable def o391 (P : Params) : Obj := ⟨vN, none, (.func ⟨S "undo_elem", S "undo_elem", fA 35, fB 35, fC 35, 0, [], vN, vN, vN, vN, none, vN, vN, 0⟩), #[]⟩
noncomputable def o392 (P : Params) : Obj := oF (vT "code") [(vS "undo_elem" 711), (vS "undo_elem" 712), (vS "/claim/cut.py" 713), (vI 215 0), (vI 2 0), (vI 0 0), (vI 0 0), (vI 3 0), (vR 387), (vB true), (vI 181 0), (vR 388), vN, (vR 389), (vR 390), (vR 391), (vI 721 0), (vI 215 0), (vS "/claim/cut.py" 722)]
noncomputable def o393 (P : Params) : Obj := ⟨(vT "function"), none, (.func ⟨S "undo_elem", S "undo_elem", fA 35, fB 35, fC 35, 3, [], vN, vN, vN, (vS "perlcore.dynamic" 632), none, (vR 392), vN, 0⟩), #[]⟩
noncomputable def o394 (P : Params) : Obj := oQ "tuple" []
noncomputable def o395 (P : Params) : Obj := oF vN []
noncomputable def o396 (P : Params) : Obj := oQ "tuple" [(vS "run" 727), (vS "save" 728), (vS "word" 729), (vS "table_thing" 730), (vS "key" 731), (vS "old" 732)]
noncomputable def o397 (P : Params) : Obj := oQ "tuple" []
noncomputable def o398 (P : Params) : Obj := ⟨vN, none, (.func ⟨S "undo_helem", S "undo_helem", fA 36, fB 36, fC 36, 0, [], vN, vN, vN, vN, none, vN, vN, 0⟩), #[]⟩
noncomputable def o399 (P : Params) : Obj := oF (vT "code") [(vS "undo_helem" 724), (vS "undo_helem" 725), (vS "/claim/cut.py" 726), (vI 229 0), (vI 2 0), (vI 0 0), (vI 0 0), (vI 3 0), (vR 394), (vB true), (vI 181 0), (vR 395), vN, (vR 396), (vR 397), (vR 398), (vI 733 0), (vI 229 0), (vS "/claim/cut.py" 734)]
noncomputable def o400 (P : Params) : Obj := ⟨(vT "function"), none, (.func ⟨S "undo_helem", S "undo_helem", fA 36, fB 36, fC 36, 3, [], vN, vN, vN, (vS "perlcore.dynamic" 632), none, (vR 399), vN, 0⟩), #[]⟩
noncomputable def o401 (P : Params) : Obj := oQ "tuple" []
noncomputable def o402 (P : Params) : Obj := oF vN []
noncomputable def o403 (P : Params) : Obj := oQ "tuple" [(vS "run" 739), (vS "save" 740), (vS "word" 741), (vS "tied" 742), (vS "key" 743), (vS "kept" 744)]
noncomputable def o404 (P : Params) : Obj := oQ "tuple" []
noncomputable def o405 (P : Params) : Obj := ⟨vN, none, (.func ⟨S "undo_tied", S "undo_tied", fA 37, fB 37, fC 37, 0, [], vN, vN, vN, vN, none, vN, vN, 0⟩), #[]⟩
noncomputable def o406 (P : Params) : Obj := oF (vT "code") [(vS "undo_tied" 736), (vS "undo_tied" 737), (vS "/claim/cut.py" 738), (vI 237 0), (vI 2 0), (vI 0 0), (vI 0 0), (vI 3 0), (vR 401), (vB true), (vI 181 0), (vR 402), vN, (vR 403), (vR 404), (vR 405), (vI 745 0), (vI 237 0), (vS "/claim/cut.py" 746)]
noncomputable def o407 (P : Params) : Obj := ⟨(vT "function"), none, (.func ⟨S "undo_tied", S "undo_tied", fA 37, fB 37, fC 37, 3, [], vN, vN, vN, (vS "perlcore.dynamic" 632), none, (vR 406), vN, 0⟩), #[]⟩
noncomputable def o408 (P : Params) : Obj := oQ "tuple" []
noncomputable def o409 (P : Params) : Obj := oF vN []
noncomputable def o410 (P : Params) : Obj := oQ "tuple" [(vS "run" 751), (vS "save" 752)]
noncomputable def o411 (P : Params) : Obj := oQ "tuple" []
noncomputable def o412 (P : Params) : Obj := ⟨vN, none, (.func ⟨S "undo_pad", S "undo_pad", fA 38, fB 38, fC 38, 0, [], vN, vN, vN, vN, none, vN, vN, 0⟩), #[]⟩
noncomputable def o413 (P : Params) : Obj := oF (vT "code") [(vS "undo_pad" 748), (vS "undo_pad" 749), (vS "/claim/cut.py" 750), (vI 250 0), (vI 2 0), (vI 0 0), (vI 0 0), (vI 3 0), (vR 408), (vB true), (vI 181 0), (vR 409), vN, (vR 410), (vR 411), (vR 412), (vI 753 0), (vI 250 0), (vS "/claim/cut.py" 754)]
noncomputable def o414 (P : Params) : Obj := ⟨(vT "function"), none, (.func ⟨S "undo_pad", S "undo_pad", fA 38, fB 38, fC 38, 3, [], vN, vN, vN, (vS "perlcore.dynamic" 632), none, (vR 413), vN, 0⟩), #[]⟩
noncomputable def o415 (P : Params) : Obj := oQ "tuple" []
noncomputable def o416 (P : Params) : Obj := oF vN []
noncomputable def o417 (P : Params) : Obj := oQ "tuple" [(vS "run" 759), (vS "save" 760)]
noncomputable def o418 (P : Params) : Obj := oQ "tuple" []
noncomputable def o419 (P : Params) : Obj := ⟨vN, none, (.func ⟨S "undo_slot", S "undo_slot", fA 39, fB 39, fC 39, 0, [], vN, vN, vN, vN, none, vN, vN, 0⟩), #[]⟩
noncomputable def o420 (P : Params) : Obj := oF (vT "code") [(vS "undo_slot" 756), (vS "undo_slot" 757), (vS "/claim/cut.py" 758), (vI 253 0), (vI 2 0), (vI 0 0), (vI 0 0), (vI 3 0), (vR 415), (vB true), (vI 181 0), (vR 416), vN, (vR 417), (vR 418), (vR 419), (vI 761 0), (vI 253 0), (vS "/claim/cut.py" 762)]
noncomputable def o421 (P : Params) : Obj := ⟨(vT "function"), none, (.func ⟨S "undo_slot", S "undo_slot", fA 39, fB 39, fC 39, 3, [], vN, vN, vN, (vS "perlcore.dynamic" 632), none, (vR 420), vN, 0⟩), #[]⟩
noncomputable def o422 (P : Params) : Obj := oQ "tuple" []
noncomputable def o423 (P : Params) : Obj := oF vN []
noncomputable def o424 (P : Params) : Obj := oQ "tuple" [(vS "run" 767), (vS "save" 768)]
noncomputable def o425 (P : Params) : Obj := oQ "tuple" []
noncomputable def o426 (P : Params) : Obj := ⟨vN, none, (.func ⟨S "undo_match", S "undo_match", fA 40, fB 40, fC 40, 0, [], vN, vN, vN, vN, none, vN, vN, 0⟩), #[]⟩
noncomputable def o427 (P : Params) : Obj := oF (vT "code") [(vS "undo_match" 764), (vS "undo_match" 765), (vS "/claim/cut.py" 766), (vI 256 0), (vI 2 0), (vI 0 0), (vI 0 0), (vI 3 0), (vR 422), (vB true), (vI 181 0), (vR 423), vN, (vR 424), (vR 425), (vR 426), (vI 769 0), (vI 256 0), (vS "/claim/cut.py" 770)]
noncomputable def o428 (P : Params) : Obj := ⟨(vT "function"), none, (.func ⟨S "undo_match", S "undo_match", fA 40, fB 40, fC 40, 3, [], vN, vN, vN, (vS "perlcore.dynamic" 632), none, (vR 427), vN, 0⟩), #[]⟩
noncomputable def o429 (P : Params) : Obj := oQ "tuple" []
noncomputable def o430 (P : Params) : Obj := oF vN []
noncomputable def o431 (P : Params) : Obj := oQ "tuple" [(vS "run" 775), (vS "save" 776)]
noncomputable def o432 (P : Params) : Obj := oQ "tuple" []
noncomputable def o433 (P : Params) : Obj := ⟨vN, none, (.func ⟨S "undo_package", S "undo_package", fA 41, fB 41, fC 41, 0, [], vN, vN, vN, vN, none, vN, vN, 0⟩), #[]⟩
noncomputable def o434 (P : Params) : Obj := oF (vT "code") [(vS "undo_package" 772), (vS "undo_package" 773), (vS "/claim/cut.py" 774), (vI 259 0), (vI 2 0), (vI 0 0), (vI 0 0), (vI 3 0), (vR 429), (vB true), (vI 181 0), (vR 430), vN, (vR 431), (vR 432), (vR 433), (vI 777 0), (vI 259 0), (vS "/claim/cut.py" 778)]
noncomputable def o435 (P : Params) : Obj := ⟨(vT "function"), none, (.func ⟨S "undo_package", S "undo_package", fA 41, fB 41, fC 41, 3, [], vN, vN, vN, (vS "perlcore.dynamic" 632), none, (vR 434), vN, 0⟩), #[]⟩
noncomputable def o436 (P : Params) : Obj := oD [dE P "scalar" 780 (vR 365), dE P "array" 781 (vR 372), dE P "hash" 782 (vR 379), dE P "code" 783 (vR 386), dE P "elem" 784 (vR 393), dE P "helem" 785 (vR 400), dE P "pad" 786 (vR 414), dE P "slot" 787 (vR 421), dE P "match" 788 (vR 428), dE P "package" 789 (vR 435), dE P "tiedelem" 790 (vR 407), dE P "tiedkey" 791 (vR 407)] 12
noncomputable def o437 (P : Params) : Obj := oQ "tuple" []
noncomputable def o438 (P : Params) : Obj := oF vN []
noncomputable def o439 (P : Params) : Obj := oQ "tuple" [(vS "run" 808), (vS "mark" 809), (vS "save" 810)]
noncomputable def o440 (P : Params) : Obj := oQ "tuple" []
noncomputable def o441 (P : Params) : Obj := ⟨vN, none, (.func ⟨S "leave", S "leave", fA 42, fB 42, fC 42, 0, [], vN, vN, vN, vN, none, vN, vN, 0⟩), #[]⟩
noncomputable def o442 (P : Params) : Obj := oF (vT "code") [(vS "leave" 805), (vS "leave" 806), (vS "/claim/cut.py" 807), (vI 262 0), (vI 2 0), (vI 0 0), (vI 0 0), (vI 3 0), (vR 437), (vB true), (vI 181 0), (vR 438), vN, (vR 439), (vR 440), (vR 441), (vI 811 0), (vI 262 0), (vS "/claim/cut.py" 812)]
noncomputable def o443 (P : Params) : Obj := ⟨(vT "function"), none, (.func ⟨S "leave", S "leave", fA 42, fB 42, fC 42, 3, [], vN, vN, vN, (vS "perlcore.dynamic" 632), none, (vR 442), vN, 0⟩), #[]⟩
noncomputable def o444 (P : Params) : Obj := oQ "tuple" []
noncomputable def o445 (P : Params) : Obj := oF (vT "builtin_function_or_method") [(vb "type.__prepare__"), (vT "type")]
noncomputable def o446 (P : Params) : Obj := oD [dE P "__module__" 823 (vS "perlcore.counts" 814), dE P "__qualname__" 825 (vS "Tie" 824), dE P "__firstlineno__" 827 (vI 267 826), dE P "__init__" 835 (vR 457), dE P "__static_attributes__" 837 (vR 458)] 5
noncomputable def o447 (P : Params) : Obj := oQ "tuple" []
noncomputable def o448 (P : Params) : Obj := oF vN [(vI 269 0), (vI 4 0), (vR 456)]
noncomputable def o449 (P : Params) : Obj := oF (vT "code") [(vS "Tie" 818), (vS "Tie" 819), (vS "/claim/cut.py" 820), (vI 267 0), (vI 0 0), (vI 0 0), (vI 0 0), (vI 0 0), (vR 447), (vB false), (vI 181 0), (vR 448), vN, vN, vN, vN, (vI 821 0), (vI 267 0), (vS "/claim/cut.py" 822)]
noncomputable def o450 (P : Params) : Obj := ⟨(vT "frame"), none, .plain, #[some (vR 449), some (vR 3), some (vR 446), none, some (vS "perlcore.counts" 814), none, some (vR 0)]⟩
noncomputable def o451 (P : Params) : Obj := oQ "tuple" []
noncomputable def o452 (P : Params) : Obj := oF vN []
noncomputable def o453 (P : Params) : Obj := oQ "tuple" [(vS "self" 831), (vS "line" 832)]
noncomputable def o454 (P : Params) : Obj := oQ "tuple" []
noncomputable def o455 (P : Params) : Obj := ⟨vN, none, (.func ⟨S "__init__", S "Tie.__init__", fA 43, fB 43, fC 43, 0, [], vN, vN, vN, vN, none, vN, vN, 0⟩), #[]⟩
noncomputable def o456 (P : Params) : Obj := oF (vT "code") [(vS "__init__" 828), (vS "Tie.__init__" 829), (vS "/claim/cut.py" 830), (vI 269 0), (vI 2 0), (vI 0 0), (vI 0 0), (vI 3 0), (vR 451), (vB true), (vI 181 0), (vR 452), vN, (vR 453), (vR 454), (vR 455), (vI 833 0), (vI 269 0), (vS "/claim/cut.py" 834)]
noncomputable def o457 (P : Params) : Obj := ⟨(vT "function"), none, (.func ⟨S "__init__", S "Tie.__init__", fA 43, fB 43, fC 43, 3, [], vN, vN, vN, (vS "perlcore.counts" 814), none, (vR 456), vN, 0⟩), #[]⟩
noncomputable def o458 (P : Params) : Obj := oQ "tuple" [(vS "line" 836)]
noncomputable def o459 (P : Params) : Obj := oD [dE P "__module__" 823 (vS "perlcore.counts" 814), dE P "__firstlineno__" 827 (vI 267 826), dE P "__init__" 835 (vR 457), dE P "__static_attributes__" 837 (vR 458), dE P "__dict__" 839 (vR 461), dE P "__weakref__" 841 (vR 462), dE P "__doc__" 842 vN] 4
noncomputable def o460 (P : Params) : Obj := ⟨(vT "type"), none, (.cls ⟨S "Tie", [(vT "object")], [(vR 460), (vT "object")], 459, S "Tie", true, [], [], false, none, false⟩), #[none, none, some (vS "Tie" 816), some (vS "Tie" 824), some (vb "object.__new__"), some (vB true)]⟩
noncomputable def o461 (P : Params) : Obj := oF (vT "getset_descriptor") [(vS "__dict__" 838), (vR 460), (vb "function.__dict__"), (vb "function.__dict__#set")]
noncomputable def o462 (P : Params) : Obj := oF (vT "getset_descriptor") [(vS "__weakref__" 840), (vR 460), (vb "ExceptionGroup.__weakref__"), vN]
noncomputable def o463 (P : Params) : Obj := oF (vT "super") [(vR 460), (vR 460), (vR 460)]
noncomputable def o464 (P : Params) : Obj := oF (vT "builtin_function_or_method") [(vb "object.__init_subclass__"), (vR 460)]
noncomputable def o465 (P : Params) : Obj := oQ "tuple" []
noncomputable def o466 (P : Params) : Obj := oF vN []
noncomputable def o467 (P : Params) : Obj := oQ "tuple" [(vS "thing" 848), (vS "behind" 849)]
noncomputable def o468 (P : Params) : Obj := oQ "tuple" []
noncomputable def o469 (P : Params) : Obj := ⟨vN, none, (.func ⟨S "kept_behind", S "kept_behind", fA 44, fB 44, fC 44, 0, [], vN, vN, vN, vN, none, vN, vN, 0⟩), #[]⟩
noncomputable def o470 (P : Params) : Obj := oF (vT "code") [(vS "kept_behind" 845), (vS "kept_behind" 846), (vS "/claim/cut.py" 847), (vI 271 0), (vI 1 0), (vI 0 0), (vI 0 0), (vI 3 0), (vR 465), (vB true), (vI 181 0), (vR 466), vN, (vR 467), (vR 468), (vR 469), (vI 850 0), (vI 271 0), (vS "/claim/cut.py" 851)]
noncomputable def o471 (P : Params) : Obj := ⟨(vT "function"), none, (.func ⟨S "kept_behind", S "kept_behind", fA 44, fB 44, fC 44, 3, [], vN, vN, vN, (vS "perlcore.counts" 814), none, (vR 470), vN, 0⟩), #[]⟩
noncomputable def o472 (P : Params) : Obj := oQ "tuple" []
noncomputable def o473 (P : Params) : Obj := oF vN []
noncomputable def o474 (P : Params) : Obj := ⟨vN, none, (.func ⟨S "held_by", S "held_by", fA 45, fB 45, fC 45, 0, [], vN, vN, vN, vN, none, vN, vN, 0⟩), #[]⟩
noncomputable def o475 (P : Params) : Obj := oF (vT "code") [(vS "held_by" 853), (vS "held_by" 854), (vS "/claim/cut.py" 855), (vI 278 0), (vI 1 0), (vI 0 0), (vI 0 0), (vI 3 0), (vR 472), (vB true), (vI 181 0), (vR 473), vN, vN, vN, (vR 474), (vI 856 0), (vI 278 0), (vS "/claim/cut.py" 857)]
noncomputable def o476 (P : Params) : Obj := ⟨(vT "function"), none, (.func ⟨S "held_by", S "held_by", fA 45, fB 45, fC 45, 3, [], vN, vN, vN, (vS "perlcore.counts" 814), none, (vR 475), vN, 0⟩), #[]⟩
noncomputable def o477 (P : Params) : Obj := oQ "tuple" []
noncomputable def o478 (P : Params) : Obj := oF vN []
noncomputable def o479 (P : Params) : Obj := oQ "tuple" [(vS "thing" 862)]
noncomputable def o480 (P : Params) : Obj := oQ "tuple" []
noncomputable def o481 (P : Params) : Obj := ⟨vN, none, (.func ⟨S "empty_out", S "empty_out", fA 46, fB 46, fC 46, 0, [], vN, vN, vN, vN, none, vN, vN, 0⟩), #[]⟩
noncomputable def o482 (P : Params) : Obj := oF (vT "code") [(vS "empty_out" 859), (vS "empty_out" 860), (vS "/claim/cut.py" 861), (vI 290 0), (vI 1 0), (vI 0 0), (vI 0 0), (vI 3 0), (vR 477), (vB true), (vI 181 0), (vR 478), vN, (vR 479), (vR 480), (vR 481), (vI 863 0), (vI 290 0), (vS "/claim/cut.py" 864)]
noncomputable def o483 (P : Params) : Obj := ⟨(vT "function"), none, (.func ⟨S "empty_out", S "empty_out", fA 46, fB 46, fC 46, 3, [], vN, vN, vN, (vS "perlcore.counts" 814), none, (vR 482), vN, 0⟩), #[]⟩
noncomputable def o484 (P : Params) : Obj := oQ "tuple" []
noncomputable def o485 (P : Params) : Obj := oF vN []
noncomputable def o486 (P : Params) : Obj := ⟨vN, none, (.func ⟨S "in_order", S "in_order", fA 47, fB 47, fC 47, 0, [], vN, vN, vN, vN, none, vN, vN, 0⟩), #[]⟩
noncomputable def o487 (P : Params) : Obj := oF (vT "code") [(vS "in_order" 866), (vS "in_order" 867), (vS "/claim/cut.py" 868), (vI 307 0), (vI 1 0), (vI 0 0), (vI 0 0), (vI 3 0), (vR 484), (vB true), (vI 181 0), (vR 485), vN, vN, vN, (vR 486), (vI 869 0), (vI 307 0), (vS "/claim/cut.py" 870)]
noncomputable def o488 (P : Params) : Obj := ⟨(vT "function"), none, (.func ⟨S "in_order", S "in_order", fA 47, fB 47, fC 47, 3, [], vN, vN, vN, (vS "perlcore.counts" 814), none, (vR 487), vN, 0⟩), #[]⟩
noncomputable def o489 (P : Params) : Obj := oQ "tuple" []
noncomputable def o490 (P : Params) : Obj := oF (vT "builtin_function_or_method") [(vb "type.__prepare__"), (vT "type")]
noncomputable def o491 (P : Params) : Obj := oD [dE P "__module__" 879 (vS "perlcore.counts" 814), dE P "__qualname__" 881 (vS "Counter" 880), dE P "__firstlineno__" 883 (vI 313 882), dE P "__init__" 892 (vR 502), dE P "hold" 900 (vR 509), dE P "let_go" 908 (vR 516), dE P "note" 916 (vR 523), dE P "take" 924 (vR 530), dE P "put_off" 930 (vR 535), dE P "store" 940 (vR 542), dE P "fresh" 949 (vR 549), dE P "drop" 957 (vR 556), dE P "settle" 967 (vR 563), dE P "finish" 975 (vR 570), dE P "free" 987 (vR 577), dE P "__static_attributes__" 992 (vR 578)] 16
noncomputable def o492 (P : Params) : Obj := oQ "tuple" []
noncomputable def o493 (P : Params) : Obj := oF vN [(vI 315 0), (vI 4 0), (vR 501), (vI 321 0), (vI 4 0), (vR 508), (vI 324 0), (vI 4 0), (vR 515), (vI 329 0), (vI 4 0), (vR 522), (vI 332 0), (vI 4 0), (vR 529), (vI 340 0), (vI 4 0), (vR 534), (vI 348 0), (vI 4 0), (vR 541), (vI 358 0), (vI 4 0), (vR 548), (vI 363 0), (vI 4 0), (vR 555), (vI 366 0), (vI 4 0), (vR 562), (vI 376 0), (vI 4 0), (vR 569), (vI 384 0), (vI 4 0), (vR 576)]
noncomputable def o494 (P : Params) : Obj := oF (vT "code") [(vS "Counter" 874), (vS "Counter" 875), (vS "/claim/cut.py" 876), (vI 313 0), (vI 0 0), (vI 0 0), (vI 0 0), (vI 0 0), (vR 492), (vB false), (vI 181 0), (vR 493), vN, vN, vN, vN, (vI 877 0), (vI 313 0), (vS "/claim/cut.py" 878)]
noncomputable def o495 (P : Params) : Obj := ⟨(vT "frame"), none, .plain, #[some (vR 494), some (vR 3), some (vR 491), none, some (vS "perlcore.counts" 814), none, some (vR 0)]⟩
noncomputable def o496 (P : Params) : Obj := oQ "tuple" []
noncomputable def o497 (P : Params) : Obj := oF vN []
noncomputable def o498 (P : Params) : Obj := oQ "tuple" [(vS "self" 887), (vS "heap" 888), (vS "destroy" 889)]
noncomputable def o499 (P : Params) : Obj := oQ "tuple" []
noncomputable def o500 (P : Params) : Obj := ⟨vN, none, (.func ⟨S "__init__", S "Counter.__init__", fA 48, fB 48, fC 48, 0, [], vN, vN, vN, vN, none, vN, vN, 0⟩), #[]⟩
noncomputable def o501 (P : Params) : Obj := oF (vT "code") [(vS "__init__" 884), (vS "Counter.__init__" 885), (vS "/claim/cut.py" 886), (vI 315 0), (vI 3 0), (vI 0 0), (vI 0 0), (vI 3 0), (vR 496), (vB true), (vI 181 0), (vR 497), vN, (vR 498), (vR 499), (vR 500), (vI 890 0), (vI 315 0), (vS "/claim/cut.py" 891)]
noncomputable def o502 (P : Params) : Obj := ⟨(vT "function"), none, (.func ⟨S "__init__", S "Counter.__init__", fA 48, fB 48, fC 48, 3, [], vN, vN, vN, (vS "perlcore.counts" 814), none, (vR 501), vN, 0⟩), #[]⟩
noncomputable def o503 (P : Params) : Obj := oQ "tuple" []
noncomputable def o504 (P : Params) : Obj := oF vN []
noncomputable def o505 (P : Params) : Obj := oQ "tuple" [(vS "self" 896), (vS "thing" 897)]
noncomputable def o506 (P : Params) : Obj := oQ "tuple" []
noncomputable def o507 (P : Params) : Obj := ⟨vN, none, (.func ⟨S "hold", S "Counter.hold", fA 49, fB 49, fC 49, 0, [], vN, vN, vN, vN, none, vN, vN, 0⟩), #[]⟩
noncomputable def o508 (P : Params) : Obj := oF (vT "code") [(vS "hold" 893), (vS "Counter.hold" 894), (vS "/claim/cut.py" 895), (vI 321 0), (vI 2 0), (vI 0 0), (vI 0 0), (vI 3 0), (vR 503), (vB true), (vI 181 0), (vR 504), vN, (vR 505), (vR 506), (vR 507), (vI 898 0), (vI 321 0), (vS "/claim/cut.py" 899)]
noncomputable def o509 (P : Params) : Obj := ⟨(vT "function"), none, (.func ⟨S "hold", S "Counter.hold", fA 49, fB 49, fC 49, 3, [], vN, vN, vN, (vS "perlcore.counts" 814), none, (vR 508), vN, 0⟩), #[]⟩
noncomputable def o510 (P : Params) : Obj := oQ "tuple" []
noncomputable def o511 (P : Params) : Obj := oF vN []
noncomputable def o512 (P : Params) : Obj := oQ "tuple" [(vS "self" 904), (vS "thing" 905)]
noncomputable def o513 (P : Params) : Obj := oQ "tuple" []
noncomputable def o514 (P : Params) : Obj := ⟨vN, none, (.func ⟨S "let_go", S "Counter.let_go", fA 50, fB 50, fC 50, 0, [], vN, vN, vN, vN, none, vN, vN, 0⟩), #[]⟩
noncomputable def o515 (P : Params) : Obj := oF (vT "code") [(vS "let_go" 901), (vS "Counter.let_go" 902), (vS "/claim/cut.py" 903), (vI 324 0), (vI 2 0), (vI 0 0), (vI 0 0), (vI 3 0), (vR 510), (vB true), (vI 181 0), (vR 511), vN, (vR 512), (vR 513), (vR 514), (vI 906 0), (vI 324 0), (vS "/claim/cut.py" 907)]
noncomputable def o516 (P : Params) : Obj := ⟨(vT "function"), none, (.func ⟨S "let_go", S "Counter.let_go", fA 50, fB 50, fC 50, 3, [], vN, vN, vN, (vS "perlcore.counts" 814), none, (vR 515), vN, 0⟩), #[]⟩
noncomputable def o517 (P : Params) : Obj := oQ "tuple" []
noncomputable def o518 (P : Params) : Obj := oF vN []
noncomputable def o519 (P : Params) : Obj := oQ "tuple" [(vS "self" 912), (vS "thing" 913)]
noncomputable def o520 (P : Params) : Obj := oQ "tuple" []
noncomputable def o521 (P : Params) : Obj := ⟨vN, none, (.func ⟨S "note", S "Counter.note", fA 51, fB 51, fC 51, 0, [], vN, vN, vN, vN, none, vN, vN, 0⟩), #[]⟩
noncomputable def o522 (P : Params) : Obj := oF (vT "code") [(vS "note" 909), (vS "Counter.note" 910), (vS "/claim/cut.py" 911), (vI 329 0), (vI 2 0), (vI 0 0), (vI 0 0), (vI 3 0), (vR 517), (vB true), (vI 181 0), (vR 518), vN, (vR 519), (vR 520), (vR 521), (vI 914 0), (vI 329 0), (vS "/claim/cut.py" 915)]
noncomputable def o523 (P : Params) : Obj := ⟨(vT "function"), none, (.func ⟨S "note", S "Counter.note", fA 51, fB 51, fC 51, 3, [], vN, vN, vN, (vS "perlcore.counts" 814), none, (vR 522), vN, 0⟩), #[]⟩
noncomputable def o524 (P : Params) : Obj := oQ "tuple" []
noncomputable def o525 (P : Params) : Obj := oF vN []
noncomputable def o526 (P : Params) : Obj := oQ "tuple" [(vS "self" 920), (vS "value" 921)]
noncomputable def o527 (P : Params) : Obj := oQ "tuple" []
noncomputable def o528 (P : Params) : Obj := ⟨vN, none, (.func ⟨S "take", S "Counter.take", fA 52, fB 52, fC 52, 0, [], vN, vN, vN, vN, none, vN, vN, 0⟩), #[]⟩
noncomputable def o529 (P : Params) : Obj := oF (vT "code") [(vS "take" 917), (vS "Counter.take" 918), (vS "/claim/cut.py" 919), (vI 332 0), (vI 2 0), (vI 0 0), (vI 0 0), (vI 3 0), (vR 524), (vB true), (vI 181 0), (vR 525), vN, (vR 526), (vR 527), (vR 528), (vI 922 0), (vI 332 0), (vS "/claim/cut.py" 923)]
noncomputable def o530 (P : Params) : Obj := ⟨(vT "function"), none, (.func ⟨S "take", S "Counter.take", fA 52, fB 52, fC 52, 3, [], vN, vN, vN, (vS "perlcore.counts" 814), none, (vR 529), vN, 0⟩), #[]⟩
noncomputable def o531 (P : Params) : Obj := oQ "tuple" []
noncomputable def o532 (P : Params) : Obj := oF vN []
noncomputable def o533 (P : Params) : Obj := ⟨vN, none, (.func ⟨S "put_off", S "Counter.put_off", fA 53, fB 53, fC 53, 0, [], vN, vN, vN, vN, none, vN, vN, 0⟩), #[]⟩
noncomputable def o534 (P : Params) : Obj := oF (vT "code") [(vS "put_off" 925), (vS "Counter.put_off" 926), (vS "/claim/cut.py" 927), (vI 340 0), (vI 3 0), (vI 0 0), (vI 0 0), (vI 3 0), (vR 531), (vB true), (vI 181 0), (vR 532), vN, vN, vN, (vR 533), (vI 928 0), (vI 340 0), (vS "/claim/cut.py" 929)]
noncomputable def o535 (P : Params) : Obj := ⟨(vT "function"), none, (.func ⟨S "put_off", S "Counter.put_off", fA 53, fB 53, fC 53, 3, [], vN, vN, vN, (vS "perlcore.counts" 814), none, (vR 534), vN, 0⟩), #[]⟩
noncomputable def o536 (P : Params) : Obj := oQ "tuple" []
noncomputable def o537 (P : Params) : Obj := oF vN []
noncomputable def o538 (P : Params) : Obj := oQ "tuple" [(vS "self" 934), (vS "scalar" 935), (vS "value" 936), (vS "old" 937)]
noncomputable def o539 (P : Params) : Obj := oQ "tuple" []
noncomputable def o540 (P : Params) : Obj := ⟨vN, none, (.func ⟨S "store", S "Counter.store", fA 54, fB 54, fC 54, 0, [], vN, vN, vN, vN, none, vN, vN, 0⟩), #[]⟩
noncomputable def o541 (P : Params) : Obj := oF (vT "code") [(vS "store" 931), (vS "Counter.store" 932), (vS "/claim/cut.py" 933), (vI 348 0), (vI 3 0), (vI 0 0), (vI 0 0), (vI 3 0), (vR 536), (vB true), (vI 181 0), (vR 537), vN, (vR 538), (vR 539), (vR 540), (vI 938 0), (vI 348 0), (vS "/claim/cut.py" 939)]
noncomputable def o542 (P : Params) : Obj := ⟨(vT "function"), none, (.func ⟨S "store", S "Counter.store", fA 54, fB 54, fC 54, 3, [], vN, vN, vN, (vS "perlcore.counts" 814), none, (vR 541), vN, 0⟩), #[]⟩
noncomputable def o543 (P : Params) : Obj := oQ "tuple" []
noncomputable def o544 (P : Params) : Obj := oF vN []
noncomputable def o545 (P : Params) : Obj := oQ "tuple" [(vS "self" 944), (vS "value" 945), (vS "scalar" 946)]
noncomputable def o546 (P : Params) : Obj := oQ "tuple" []
noncomputable def o547 (P : Params) : Obj := ⟨vN, none, (.func ⟨S "fresh", S "Counter.fresh", fA 55, fB 55, fC 55, 0, [], vN, vN, vN, vN, none, vN, vN, 0⟩), #[]⟩
noncomputable def o548 (P : Params) : Obj := oF (vT "code") [(vS "fresh" 941), (vS "Counter.fresh" 942), (vS "/claim/cut.py" 943), (vI 358 0), (vI 2 0), (vI 0 0), (vI 0 0), (vI 3 0), (vR 543), (vB true), (vI 181 0), (vR 544), vN, (vR 545), (vR 546), (vR 547), (vI 947 0), (vI 358 0), (vS "/claim/cut.py" 948)]
noncomputable def o549 (P : Params) : Obj := ⟨(vT "function"), none, (.func ⟨S "fresh", S "Counter.fresh", fA 55, fB 55, fC 55, 3, [], vN, vN, vN, (vS "perlcore.counts" 814), none, (vR 548), vN, 0⟩), #[]⟩
noncomputable def o550 (P : Params) : Obj := oQ "tuple" []
noncomputable def o551 (P : Params) : Obj := oF vN []
noncomputable def o552 (P : Params) : Obj := oQ "tuple" [(vS "self" 953), (vS "scalar" 954)]
noncomputable def o553 (P : Params) : Obj := oQ "tuple" []
noncomputable def o554 (P : Params) : Obj := ⟨vN, none, (.func ⟨S "drop", S "Counter.drop", fA 56, fB 56, fC 56, 0, [], vN, vN, vN, vN, none, vN, vN, 0⟩), #[]⟩
noncomputable def o555 (P : Params) : Obj := oF (vT "code") [(vS "drop" 950), (vS "Counter.drop" 951), (vS "/claim/cut.py" 952), (vI 363 0), (vI 2 0), (vI 0 0), (vI 0 0), (vI 3 0), (vR 550), (vB true), (vI 181 0), (vR 551), vN, (vR 552), (vR 553), (vR 554), (vI 955 0), (vI 363 0), (vS "/claim/cut.py" 956)]
noncomputable def o556 (P : Params) : Obj := ⟨(vT "function"), none, (.func ⟨S "drop", S "Counter.drop", fA 56, fB 56, fC 56, 3, [], vN, vN, vN, (vS "perlcore.counts" 814), none, (vR 555), vN, 0⟩), #[]⟩
noncomputable def o557 (P : Params) : Obj := oQ "tuple" []
noncomputable def o558 (P : Params) : Obj := oF vN []
noncomputable def o559 (P : Params) : Obj := oQ "tuple" [(vS "self" 961), (vS "start" 962), (vS "dying" 963), (vS "thing" 964)]
noncomputable def o560 (P : Params) : Obj := oQ "tuple" []
noncomputable def o561 (P : Params) : Obj := ⟨vN, none, (.func ⟨S "settle", S "Counter.settle", fA 57, fB 57, fC 57, 0, [], vN, vN, vN, vN, none, vN, vN, 0⟩), #[]⟩
noncomputable def o562 (P : Params) : Obj := oF (vT "code") [(vS "settle" 958), (vS "Counter.settle" 959), (vS "/claim/cut.py" 960), (vI 366 0), (vI 2 0), (vI 0 0), (vI 0 0), (vI 3 0), (vR 557), (vB true), (vI 181 0), (vR 558), vN, (vR 559), (vR 560), (vR 561), (vI 965 0), (vI 366 0), (vS "/claim/cut.py" 966)]
noncomputable def o563 (P : Params) : Obj := ⟨(vT "function"), none, (.func ⟨S "settle", S "Counter.settle", fA 57, fB 57, fC 57, 3, [], vN, vN, vN, (vS "perlcore.counts" 814), none, (vR 562), vN, 0⟩), #[]⟩
noncomputable def o564 (P : Params) : Obj := oQ "tuple" []
noncomputable def o565 (P : Params) : Obj := oF vN []
noncomputable def o566 (P : Params) : Obj := oQ "tuple" [(vS "self" 971), (vS "thing" 972)]
noncomputable def o567 (P : Params) : Obj := oQ "tuple" []
noncomputable def o568 (P : Params) : Obj := ⟨vN, none, (.func ⟨S "finish", S "Counter.finish", fA 58, fB 58, fC 58, 0, [], vN, vN, vN, vN, none, vN, vN, 0⟩), #[]⟩
noncomputable def o569 (P : Params) : Obj := oF (vT "code") [(vS "finish" 968), (vS "Counter.finish" 969), (vS "/claim/cut.py" 970), (vI 376 0), (vI 2 0), (vI 0 0), (vI 0 0), (vI 3 0), (vR 564), (vB true), (vI 181 0), (vR 565), vN, (vR 566), (vR 567), (vR 568), (vI 973 0), (vI 376 0), (vS "/claim/cut.py" 974)]
noncomputable def o570 (P : Params) : Obj := ⟨(vT "function"), none, (.func ⟨S "finish", S "Counter.finish", fA 58, fB 58, fC 58, 3, [], vN, vN, vN, (vS "perlcore.counts" 814), none, (vR 569), vN, 0⟩), #[]⟩
noncomputable def o571 (P : Params) : Obj := oQ "tuple" []
noncomputable def o572 (P : Params) : Obj := oF vN []
noncomputable def o573 (P : Params) : Obj := oQ "tuple" [(vS "self" 979), (vS "thing" 980), (vS "scalar" 981), (vS "old" 982), (vS "gone" 983), (vS "one" 984)]
noncomputable def o574 (P : Params) : Obj := oQ "tuple" []
noncomputable def o575 (P : Params) : Obj := ⟨vN, none, (.func ⟨S "free", S "Counter.free", fA 59, fB 59, fC 59, 0, [], vN, vN, vN, vN, none, vN, vN, 0⟩), #[]⟩
noncomputable def o576 (P : Params) : Obj := oF (vT "code") [(vS "free" 976), (vS "Counter.free" 977), (vS "/claim/cut.py" 978), (vI 384 0), (vI 2 0), (vI 0 0), (vI 0 0), (vI 3 0), (vR 571), (vB true), (vI 181 0), (vR 572), vN, (vR 573), (vR 574), (vR 575), (vI 985 0), (vI 384 0), (vS "/claim/cut.py" 986)]
noncomputable def o577 (P : Params) : Obj := ⟨(vT "function"), none, (.func ⟨S "free", S "Counter.free", fA 59, fB 59, fC 59, 3, [], vN, vN, vN, (vS "perlcore.counts" 814), none, (vR 576), vN, 0⟩), #[]⟩
noncomputable def o578 (P : Params) : Obj := oQ "tuple" [(vS "destroy" 988), (vS "empties" 989), (vS "heap" 990), (vS "places" 991)]
noncomputable def o579 (P : Params) : Obj := oD [dE P "__module__" 879 (vS "perlcore.counts" 814), dE P "__firstlineno__" 883 (vI 313 882), dE P "__init__" 892 (vR 502), dE P "hold" 900 (vR 509), dE P "let_go" 908 (vR 516), dE P "note" 916 (vR 523), dE P "take" 924 (vR 530), dE P "put_off" 930 (vR 535), dE P "store" 940 (vR 542), dE P "fresh" 949 (vR 549), dE P "drop" 957 (vR 556), dE P "settle" 967 (vR 563), dE P "finish" 975 (vR 570), dE P "free" 987 (vR 577), dE P "__static_attributes__" 992 (vR 578), dE P "__dict__" 994 (vR 581), dE P "__weakref__" 996 (vR 582), dE P "__doc__" 997 vN] 4
noncomputable def o580 (P : Params) : Obj := ⟨(vT "type"), none, (.cls ⟨S "Counter", [(vT "object")], [(vR 580), (vT "object")], 579, S "Counter", true, [], [], false, none, false⟩), #[none, none, some (vS "Counter" 872), some (vS "Counter" 880), some (vb "object.__new__"), some (vB true)]⟩
noncomputable def o581 (P : Params) : Obj := oF (vT "getset_descriptor") [(vS "__dict__" 993), (vR 580), (vb "function.__dict__"), (vb "function.__dict__#set")]
noncomputable def o582 (P : Params) : Obj := oF (vT "getset_descriptor") [(vS "__weakref__" 995), (vR 580), (vb "ExceptionGroup.__weakref__"), vN]
noncomputable def o583 (P : Params) : Obj := oF (vT "super") [(vR 580), (vR 580), (vR 580)]
noncomputable def o584 (P : Params) : Obj := oF (vT "builtin_function_or_method") [(vb "object.__init_subclass__"), (vR 580)]
noncomputable def o585 (P : Params) : Obj := oQ "tuple" []
noncomputable def o586 (P : Params) : Obj := oF (vT "builtin_function_or_method") [(vb "type.__prepare__"), (vT "type")]
noncomputable def o587 (P : Params) : Obj := oD [dE P "__module__" 1009 (vS "perlcore.frames" 1000), dE P "__qualname__" 1011 (vS "Run" 1010), dE P "__firstlineno__" 1013 (vI 400 1012), dE P "__init__" 1024 (vR 598), dE P "__static_attributes__" 1044 (vR 599)] 5
noncomputable def o588 (P : Params) : Obj := oQ "tuple" []
noncomputable def o589 (P : Params) : Obj := oF vN [(vI 402 0), (vI 4 0), (vR 597)]
noncomputable def o590 (P : Params) : Obj := oF (vT "code") [(vS "Run" 1004), (vS "Run" 1005), (vS "/claim/cut.py" 1006), (vI 400 0), (vI 0 0), (vI 0 0), (vI 0 0), (vI 0 0), (vR 588), (vB false), (vI 181 0), (vR 589), vN, vN, vN, vN, (vI 1007 0), (vI 400 0), (vS "/claim/cut.py" 1008)]
noncomputable def o591 (P : Params) : Obj := ⟨(vT "frame"), none, .plain, #[some (vR 590), some (vR 3), some (vR 587), none, some (vS "perlcore.frames" 1000), none, some (vR 0)]⟩
noncomputable def o592 (P : Params) : Obj := oQ "tuple" []
noncomputable def o593 (P : Params) : Obj := oF vN []
noncomputable def o594 (P : Params) : Obj := oQ "tuple" [(vS "self" 1017), (vS "heap" 1018), (vS "counter" 1019), (vS "stash" 1020), (vS "limits" 1021)]
noncomputable def o595 (P : Params) : Obj := oQ "tuple" []
noncomputable def o596 (P : Params) : Obj := ⟨vN, none, (.func ⟨S "__init__", S "Run.__init__", fA 60, fB 60, fC 60, 0, [], vN, vN, vN, vN, none, vN, vN, 0⟩), #[]⟩
noncomputable def o597 (P : Params) : Obj := oF (vT "code") [(vS "__init__" 1014), (vS "Run.__init__" 1015), (vS "/claim/cut.py" 1016), (vI 402 0), (vI 5 0), (vI 0 0), (vI 0 0), (vI 3 0), (vR 592), (vB true), (vI 181 0), (vR 593), vN, (vR 594), (vR 595), (vR 596), (vI 1022 0), (vI 402 0), (vS "/claim/cut.py" 1023)]
noncomputable def o598 (P : Params) : Obj := ⟨(vT "function"), none, (.func ⟨S "__init__", S "Run.__init__", fA 60, fB 60, fC 60, 3, [], vN, vN, vN, (vS "perlcore.frames" 1000), none, (vR 597), vN, 0⟩), #[]⟩
noncomputable def o599 (P : Params) : Obj := oQ "tuple" [(vS "call_code" 1025), (vS "compile_text" 1026), (vS "counter" 1027), (vS "err" 1028), (vS "frames" 1029), (vS "funcs" 1030), (vS "heap" 1031), (vS "limits" 1032), (vS "lvs" 1033), (vS "match" 1034), (vS "methods" 1035), (vS "nodes" 1036), (vS "operators" 1037), (vS "out" 1038), (vS "patterns" 1039), (vS "saves" 1040), (vS "stash" 1041), (vS "statements" 1042), (vS "steps" 1043)]
noncomputable def o600 (P : Params) : Obj := oD [dE P "__module__" 1009 (vS "perlcore.frames" 1000), dE P "__firstlineno__" 1013 (vI 400 1012), dE P "__init__" 1024 (vR 598), dE P "__static_attributes__" 1044 (vR 599), dE P "__dict__" 1046 (vR 602), dE P "__weakref__" 1048 (vR 603), dE P "__doc__" 1049 vN] 4
noncomputable def o601 (P : Params) : Obj := ⟨(vT "type"), none, (.cls ⟨S "Run", [(vT "object")], [(vR 601), (vT "object")], 600, S "Run", true, [], [], false, none, false⟩), #[none, none, some (vS "Run" 1002), some (vS "Run" 1010), some (vb "object.__new__"), some (vB true)]⟩
noncomputable def o602 (P : Params) : Obj := oF (vT "getset_descriptor") [(vS "__dict__" 1045), (vR 601), (vb "function.__dict__"), (vb "function.__dict__#set")]
noncomputable def o603 (P : Params) : Obj := oF (vT "getset_descriptor") [(vS "__weakref__" 1047), (vR 601), (vb "ExceptionGroup.__weakref__"), vN]
noncomputable def o604 (P : Params) : Obj := oF (vT "super") [(vR 601), (vR 601), (vR 601)]
noncomputable def o605 (P : Params) : Obj := oF (vT "builtin_function_or_method") [(vb "object.__init_subclass__"), (vR 601)]
noncomputable def o606 (P : Params) : Obj := oQ "tuple" []
noncomputable def o607 (P : Params) : Obj := oF (vT "builtin_function_or_method") [(vb "type.__prepare__"), (vT "type")]
noncomputable def o608 (P : Params) : Obj := oD [dE P "__module__" 1061 (vS "perlcore.limits" 1052), dE P "__qualname__" 1063 (vS "Limits" 1062), dE P "__firstlineno__" 1065 (vI 423 1064), dE P "__init__" 1088 (vR 620), dE P "__static_attributes__" 1094 (vR 621)] 5
noncomputable def o609 (P : Params) : Obj := oQ "tuple" []
noncomputable def o610 (P : Params) : Obj := oF vN [(vI 425 0), (vI 4 0), (vR 619)]
noncomputable def o611 (P : Params) : Obj := oF (vT "code") [(vS "Limits" 1056), (vS "Limits" 1057), (vS "/claim/cut.py" 1058), (vI 423 0), (vI 0 0), (vI 0 0), (vI 0 0), (vI 0 0), (vR 609), (vB false), (vI 181 0), (vR 610), vN, vN, vN, vN, (vI 1059 0), (vI 423 0), (vS "/claim/cut.py" 1060)]
noncomputable def o612 (P : Params) : Obj := ⟨(vT "frame"), none, .plain, #[some (vR 611), some (vR 3), some (vR 608), none, some (vS "perlcore.limits" 1052), none, some (vR 0)]⟩
noncomputable def o613 (P : Params) : Obj := oQ "tuple" [(vI 64 1066), (vI 50 1067), (vI 1000000 1070), (vI 100000 1073), (vI 10000 1076)]
noncomputable def o614 (P : Params) : Obj := oQ "tuple" []
noncomputable def o615 (P : Params) : Obj := oF vN []
noncomputable def o616 (P : Params) : Obj := oQ "tuple" [(vS "self" 1080), (vS "width" 1081), (vS "depth" 1082), (vS "steps" 1083), (vS "text" 1084), (vS "items" 1085)]
noncomputable def o617 (P : Params) : Obj := oQ "tuple" []
noncomputable def o618 (P : Params) : Obj := ⟨vN, none, (.func ⟨S "__init__", S "Limits.__init__", fA 61, fB 61, fC 61, 0, [], vN, vN, vN, vN, none, vN, vN, 0⟩), #[]⟩
noncomputable def o619 (P : Params) : Obj := oF (vT "code") [(vS "__init__" 1077), (vS "Limits.__init__" 1078), (vS "/claim/cut.py" 1079), (vI 425 0), (vI 6 0), (vI 0 0), (vI 0 0), (vI 3 0), (vR 614), (vB true), (vI 181 0), (vR 615), vN, (vR 616), (vR 617), (vR 618), (vI 1086 0), (vI 425 0), (vS "/claim/cut.py" 1087)]
noncomputable def o620 (P : Params) : Obj := ⟨(vT "function"), none, (.func ⟨S "__init__", S "Limits.__init__", fA 61, fB 61, fC 61, 3, [], (vR 613), vN, vN, (vS "perlcore.limits" 1052), none, (vR 619), vN, 0⟩), #[]⟩
noncomputable def o621 (P : Params) : Obj := oQ "tuple" [(vS "depth" 1089), (vS "items" 1090), (vS "steps" 1091), (vS "text" 1092), (vS "width" 1093)]
noncomputable def o622 (P : Params) : Obj := oD [dE P "__module__" 1061 (vS "perlcore.limits" 1052), dE P "__firstlineno__" 1065 (vI 423 1064), dE P "__init__" 1088 (vR 620), dE P "__static_attributes__" 1094 (vR 621), dE P "__dict__" 1096 (vR 624), dE P "__weakref__" 1098 (vR 625), dE P "__doc__" 1099 vN] 4
noncomputable def o623 (P : Params) : Obj := ⟨(vT "type"), none, (.cls ⟨S "Limits", [(vT "object")], [(vR 623), (vT "object")], 622, S "Limits", true, [], [], false, none, false⟩), #[none, none, some (vS "Limits" 1054), some (vS "Limits" 1062), some (vb "object.__new__"), some (vB true)]⟩
noncomputable def o624 (P : Params) : Obj := oF (vT "getset_descriptor") [(vS "__dict__" 1095), (vR 623), (vb "function.__dict__"), (vb "function.__dict__#set")]
noncomputable def o625 (P : Params) : Obj := oF (vT "getset_descriptor") [(vS "__weakref__" 1097), (vR 623), (vb "ExceptionGroup.__weakref__"), vN]
noncomputable def o626 (P : Params) : Obj := oF (vT "super") [(vR 623), (vR 623), (vR 623)]
noncomputable def o627 (P : Params) : Obj := oF (vT "builtin_function_or_method") [(vb "object.__init_subclass__"), (vR 623)]
noncomputable def o628 (P : Params) : Obj := oQ "tuple" []
noncomputable def o629 (P : Params) : Obj := oF vN []
noncomputable def o630 (P : Params) : Obj := oQ "tuple" [(vS "purse" 1107), (vS "faces" 1108)]
noncomputable def o631 (P : Params) : Obj := oQ "tuple" []
noncomputable def o632 (P : Params) : Obj := ⟨vN, none, (.func ⟨S "_law_coin", S "_law_coin", fA 62, fB 62, fC 62, 0, [], vN, vN, vN, vN, none, vN, vN, 0⟩), #[]⟩
noncomputable def o633 (P : Params) : Obj := oF (vT "code") [(vS "_law_coin" 1104), (vS "_law_coin" 1105), (vS "/claim/cut.py" 1106), (vI 432 0), (vI 2 0), (vI 0 0), (vI 0 0), (vI 3 0), (vR 628), (vB true), (vI 181 0), (vR 629), vN, (vR 630), (vR 631), (vR 632), (vI 1109 0), (vI 432 0), (vS "/claim/cut.py" 1110)]
noncomputable def o634 (P : Params) : Obj := ⟨(vT "function"), none, (.func ⟨S "_law_coin", S "_law_coin", fA 62, fB 62, fC 62, 3, [], vN, vN, vN, (vS "law_qz0101_01" 1102), none, (vR 633), vN, 0⟩), #[]⟩
noncomputable def o635 (P : Params) : Obj := oQ "tuple" []
noncomputable def o636 (P : Params) : Obj := oF vN []
noncomputable def o637 (P : Params) : Obj := oQ "tuple" [(vS "run" 1115), (vS "told" 1116), (vS "thing" 1117)]
noncomputable def o638 (P : Params) : Obj := oQ "tuple" []
noncomputable def o639 (P : Params) : Obj := ⟨vN, none, (.func ⟨S "_law_made", S "_law_made", fA 63, fB 63, fC 63, 0, [], vN, vN, vN, vN, none, vN, vN, 0⟩), #[]⟩
noncomputable def o640 (P : Params) : Obj := oF (vT "code") [(vS "_law_made" 1112), (vS "_law_made" 1113), (vS "/claim/cut.py" 1114), (vI 437 0), (vI 2 0), (vI 0 0), (vI 0 0), (vI 3 0), (vR 635), (vB true), (vI 181 0), (vR 636), vN, (vR 637), (vR 638), (vR 639), (vI 1118 0), (vI 437 0), (vS "/claim/cut.py" 1119)]
noncomputable def o641 (P : Params) : Obj := ⟨(vT "function"), none, (.func ⟨S "_law_made", S "_law_made", fA 63, fB 63, fC 63, 3, [], vN, vN, vN, (vS "law_qz0101_01" 1102), none, (vR 640), vN, 0⟩), #[]⟩
noncomputable def o642 (P : Params) : Obj := oQ "tuple" []
noncomputable def o643 (P : Params) : Obj := oF vN []
noncomputable def o644 (P : Params) : Obj := ⟨vN, none, (.func ⟨S "_law_swept", S "_law_swept", fA 64, fB 64, fC 64, 0, [], vN, vN, vN, vN, none, vN, vN, 0⟩), #[]⟩
noncomputable def o645 (P : Params) : Obj := oF (vT "code") [(vS "_law_swept" 1121), (vS "_law_swept" 1122), (vS "/claim/cut.py" 1123), (vI 442 0), (vI 1 0), (vI 0 0), (vI 0 0), (vI 3 0), (vR 642), (vB true), (vI 181 0), (vR 643), vN, vN, vN, (vR 644), (vI 1124 0), (vI 442 0), (vS "/claim/cut.py" 1125)]
noncomputable def o646 (P : Params) : Obj := ⟨(vT "function"), none, (.func ⟨S "_law_swept", S "_law_swept", fA 64, fB 64, fC 64, 3, [], vN, vN, vN, (vS "law_qz0101_01" 1102), none, (vR 645), vN, 0⟩), #[]⟩
noncomputable def o647 (P : Params) : Obj := oQ "tuple" []
noncomputable def o648 (P : Params) : Obj := oF vN []
noncomputable def o649 (P : Params) : Obj := oQ "tuple" [(vS "own" 1130), (vS "mark" 1131), (vS "gone" 1132), (vS "key" 1133), (vS "was_there" 1134), (vS "old" 1135)]
noncomputable def o650 (P : Params) : Obj := oQ "tuple" []
noncomputable def o651 (P : Params) : Obj := ⟨vN, none, (.func ⟨S "_law_left", S "_law_left", fA 65, fB 65, fC 65, 0, [], vN, vN, vN, vN, none, vN, vN, 0⟩), #[]⟩
noncomputable def o652 (P : Params) : Obj := oF (vT "code") [(vS "_law_left" 1127), (vS "_law_left" 1128), (vS "/claim/cut.py" 1129), (vI 448 0), (vI 2 0), (vI 0 0), (vI 0 0), (vI 3 0), (vR 647), (vB true), (vI 181 0), (vR 648), vN, (vR 649), (vR 650), (vR 651), (vI 1136 0), (vI 448 0), (vS "/claim/cut.py" 1137)]
noncomputable def o653 (P : Params) : Obj := ⟨(vT "function"), none, (.func ⟨S "_law_left", S "_law_left", fA 65, fB 65, fC 65, 3, [], vN, vN, vN, (vS "law_qz0101_01" 1102), none, (vR 652), vN, 0⟩), #[]⟩
noncomputable def o654 (P : Params) : Obj := oQ "tuple" []
noncomputable def o655 (P : Params) : Obj := oF vN []
noncomputable def o656 (P : Params) : Obj := oQ "tuple" [(vS "script" 1142), (vS "purse" 1143), (vS "heap" 1144), (vS "marks" 1145), (vS "led" 1146), (vS "put" 1147), (vS "key" 1148), (vS "_" 1149), (vS "way" 1150), (vS "is_there" 1151)]
noncomputable def o657 (P : Params) : Obj := oQ "tuple" [(vS "due" 1152), (vS "elem" 1153), (vS "gone" 1154), (vS "is_hash" 1155), (vS "own" 1156), (vS "run" 1157), (vS "thing" 1158), (vS "told" 1159)]
noncomputable def o658 (P : Params) : Obj := ⟨vN, none, (.func ⟨S "law", S "law", fA 66, fB 66, fC 66, 0, [], vN, vN, vN, vN, none, vN, vN, 0⟩), #[]⟩
noncomputable def o659 (P : Params) : Obj := oF (vT "code") [(vS "law" 1139), (vS "law" 1140), (vS "/claim/cut.py" 1141), (vI 459 0), (vI 1 0), (vI 0 0), (vI 0 0), (vI 3 0), (vR 654), (vB true), (vI 181 0), (vR 655), vN, (vR 656), (vR 657), (vR 658), (vI 1160 0), (vI 459 0), (vS "/claim/cut.py" 1161)]
noncomputable def o660 (P : Params) : Obj := ⟨(vT "function"), none, (.func ⟨S "law", S "law", fA 66, fB 66, fC 66, 3, [], vN, vN, vN, (vS "law_qz0101_01" 1102), none, (vR 659), vN, 0⟩), #[]⟩
noncomputable def objs (P : Params) : List Obj := [o0 P, o1 P, o2 P, o3 P, o4 P, o5 P, o6 P, o7 P, o8 P, o9 P, o10 P, o11 P, o12 P, o13 P, o14 P, o15 P, o16 P, o17 P, o18 P, o19 P, o20 P, o21 P, o22 P, o23 P, o24 P, o25 P, o26 P, o27 P, o28 P, o29 P, o30 P, o31 P, o32 P, o33 P, o34 P, o35 P, o36 P, o37 P, o38 P, o39 P, o40 P, o41 P, o42 P, o43 P, o44 P, o45 P, o46 P, o47 P, o48 P, o49 P, o50 P, o51 P, o52 P, o53 P, o54 P, o55 P, o56 P, o57 P, o58 P, o59 P, o60 P, o61 P, o62 P, o63 P, o64 P, o65 P, o66 P, o67 P, o68 P, o69 P, o70 P, o71 P, o72 P, o73 P, o74 P, o75 P, o76 P, o77 P, o78 P, o79 P, o80 P, o81 P, o82 P, o83 P, o84 P, o85 P, o86 P, o87 P, o88 P, o89 P, o90 P, o91 P, o92 P, o93 P, o94 P, o95 P, o96 P, o97 P, o98 P, o99 P, o100 P, o101 P, o102 P, o103 P, o104 P, o105 P, o106 P, o107 P, o108 P, o109 P, o110 P, o111 P, o112 P, o113 P, o114 P, o115 P, o116 P, o117 P, o118 P, o119 P, o120 P, o121 P, o122 P, o123 P, o124 P, o125 P, o126 P, o127 P, o128 P, o129 P, o130 P, o131 P, o132 P, o133 P, o134 P, o135 P, o136 P, o137 P, o138 P, o139 P, o140 P, o141 P, o142 P, o143 P, o144 P, o145 P, o146 P, o147 P, o148 P, o149 P, o150 P, o151 P, o152 P, o153 P, o154 P, o155 P, o156 P, o157 P, o158 P, o159 P, o160 P, o161 P, o162 P, o163 P, o164 P, o165 P, o166 P, o167 P, o168 P, o169 P, o170 P, o171 P, o172 P, o173 P, o174 P, o175 P, o176 P, o177 P, o178 P, o179 P, o180 P, o181 P, o182 P, o183 P, o184 P, o185 P, o186 P, o187 P, o188 P, o189 P, o190 P, o191 P, o192 P, o193 P, o194 P, o195 P, o196 P, o197 P, o198 P, o199 P, o200 P, o201 P, o202 P, o203 P, o204 P, o205 P, o206 P, o207 P, o208 P, o209 P, o210 P, o211 P, o212 P, o213 P, o214 P, o215 P, o216 P, o217 P, o218 P, o219 P, o220 P, o221 P, o222 P, o223 P, o224 P, o225 P, o226 P, o227 P, o228 P, o229 P, o230 P, o231 P, o232 P, o233 P, o234 P, o235 P, o236 P, o237 P, o238 P, o239 P, o240 P, o241 P, o242 P, o243 P, o244 P, o245 P, o246 P, o247 P, o248 P, o249 P, o250 P, o251 P, o252 P, o253 P, o254 P, o255 P, o256 P, o257 P, o258 P, o259 P, o260 P, o261 P, o262 P, o263 P, o264 P, o265 P, o266 P, o267 P, o268 P, o269 P, o270 P, o271 P, o272 P, o273 P, o274 P, o275 P, o276 P, o277 P, o278 P, o279 P, o280 P, o281 P, o282 P, o283 P, o284 P, o285 P, o286 P, o287 P, o288 P, o289 P, o290 P, o291 P, o292 P, o293 P, o294 P, o295 P, o296 P, o297 P, o298 P, o299 P, o300 P, o301 P, o302 P, o303 P, o304 P, o305 P, o306 P, o307 P, o308 P, o309 P, o310 P, o311 P, o312 P, o313 P, o314 P, o315 P, o316 P, o317 P, o318 P, o319 P, o320 P, o321 P, o322 P, o323 P, o324 P, o325 P, o326 P, o327 P, o328 P, o329 P, o330 P, o331 P, o332 P, o333 P, o334 P, o335 P, o336 P, o337 P, o338 P, o339 P, o340 P, o341 P, o342 P, o343 P, o344 P, o345 P, o346 P, o347 P, o348 P, o349 P, o350 P, o351 P, o352 P, o353 P, o354 P, o355 P, o356 P, o357 P, o358 P, o359 P, o360 P, o361 P, o362 P, o363 P, o364 P, o365 P, o366 P, o367 P, o368 P, o369 P, o370 P, o371 P, o372 P, o373 P, o374 P, o375 P, o376 P, o377 P, o378 P, o379 P, o380 P, o381 P, o382 P, o383 P, o384 P, o385 P, o386 P, o387 P, o388 P, o389 P, o390 P, o391 P, o392 P, o393 P, o394 P, o395 P, o396 P, o397 P, o398 P, o399 P, o400 P, o401 P, o402 P, o403 P, o404 P, o405 P, o406 P, o407 P, o408 P, o409 P, o410 P, o411 P, o412 P, o413 P, o414 P, o415 P, o416 P, o417 P, o418 P, o419 P, o420 P, o421 P, o422 P, o423 P, o424 P, o425 P, o426 P, o427 P, o428 P, o429 P, o430 P, o431 P, o432 P, o433 P, o434 P, o435 P, o436 P, o437 P, o438 P, o439 P, o440 P, o441 P, o442 P, o443 P, o444 P, o445 P, o446 P, o447 P, o448 P, o449 P, o450 P, o451 P, o452 P, o453 P, o454 P, o455 P, o456 P, o457 P, o458 P, o459 P, o460 P, o461 P, o462 P, o463 P, o464 P, o465 P, o466 P, o467 P, o468 P, o469 P, o470 P, o471 P, o472 P, o473 P, o474 P, o475 P, o476 P, o477 P, o478 P, o479 P, o480 P, o481 P, o482 P, o483 P, o484 P, o485 P, o486 P, o487 P, o488 P, o489 P, o490 P, o491 P, o492 P, o493 P, o494 P, o495 P, o496 P, o497 P, o498 P, o499 P, o500 P, o501 P, o502 P, o503 P, o504 P, o505 P, o506 P, o507 P, o508 P, o509 P, o510 P, o511 P, o512 P, o513 P, o514 P, o515 P, o516 P, o517 P, o518 P, o519 P, o520 P, o521 P, o522 P, o523 P, o524 P, o525 P, o526 P, o527 P, o528 P, o529 P, o530 P, o531 P, o532 P, o533 P, o534 P, o535 P, o536 P, o537 P, o538 P, o539 P, o540 P, o541 P, o542 P, o543 P, o544 P, o545 P, o546 P, o547 P, o548 P, o549 P, o550 P, o551 P, o552 P, o553 P, o554 P, o555 P, o556 P, o557 P, o558 P, o559 P, o560 P, o561 P, o562 P, o563 P, o564 P, o565 P, o566 P, o567 P, o568 P, o569 P, o570 P, o571 P, o572 P, o573 P, o574 P, o575 P, o576 P, o577 P, o578 P, o579 P, o580 P, o581 P, o582 P, o583 P, o584 P, o585 P, o586 P, o587 P, o588 P, o589 P, o590 P, o591 P, o592 P, o593 P, o594 P, o595 P, o596 P, o597 P, o598 P, o599 P, o600 P, o601 P, o602 P, o603 P, o604 P, o605 P, o606 P, o607 P, o608 P, o609 P, o610 P, o611 P, o612 P, o613 P, o614 P, o615 P, o616 P, o617 P, o618 P, o619 P, o620 P, o621 P, o622 P, o623 P, o624 P, o625 P, o626 P, o627 P, o628 P, o629 P, o630 P, o631 P, o632 P, o633 P, o634 P, o635 P, o636 P, o637 P, o638 P, o639 P, o640 P, o641 P, o642 P, o643 P, o644 P, o645 P, o646 P, o647 P, o648 P, o649 P, o650 P, o651 P, o652 P, o653 P, o654 P, o655 P, o656 P, o657 P, o658 P, o659 P, o660 P]
noncomputable def KF (P : Params) : Frag := [(2, o2 P), (3, o3 P), (15, o15 P), (17, o17 P), (18, o18 P), (20, o20 P), (21, o21 P), (22, o22 P), (29, o29 P), (31, o31 P), (32, o32 P), (34, o34 P), (35, o35 P), (36, o36 P), (37, o37 P), (38, o38 P), (39, o39 P), (42, o42 P), (49, o49 P), (51, o51 P), (52, o52 P), (54, o54 P), (55, o55 P), (56, o56 P), (57, o57 P), (58, o58 P), (68, o68 P), (70, o70 P), (71, o71 P), (73, o73 P), (74, o74 P), (75, o75 P), (76, o76 P), (77, o77 P), (78, o78 P), (79, o79 P), (82, o82 P), (89, o89 P), (91, o91 P), (92, o92 P), (94, o94 P), (95, o95 P), (96, o96 P), (97, o97 P), (98, o98 P), (101, o101 P), (108, o108 P), (110, o110 P), (111, o111 P), (113, o113 P), (114, o114 P), (115, o115 P), (116, o116 P), (117, o117 P), (120, o120 P), (127, o127 P), (129, o129 P), (130, o130 P), (132, o132 P), (133, o133 P), (134, o134 P), (135, o135 P), (136, o136 P), (139, o139 P), (146, o146 P), (148, o148 P), (149, o149 P), (151, o151 P), (152, o152 P), (153, o153 P), (154, o154 P), (155, o155 P), (158, o158 P), (165, o165 P), (167, o167 P), (168, o168 P), (170, o170 P), (171, o171 P), (172, o172 P), (173, o173 P), (174, o174 P), (184, o184 P), (185, o185 P), (187, o187 P), (188, o188 P), (190, o190 P), (191, o191 P), (192, o192 P), (193, o193 P), (194, o194 P), (195, o195 P), (196, o196 P), (206, o206 P), (208, o208 P), (209, o209 P), (211, o211 P), (212, o212 P), (213, o213 P), (215, o215 P), (216, o216 P), (218, o218 P), (219, o219 P), (220, o220 P), (222, o222 P), (223, o223 P), (225, o225 P), (226, o226 P), (227, o227 P), (229, o229 P), (230, o230 P), (232, o232 P), (233, o233 P), (234, o234 P), (236, o236 P), (237, o237 P), (239, o239 P), (240, o240 P), (241, o241 P), (243, o243 P), (244, o244 P), (246, o246 P), (247, o247 P), (248, o248 P), (250, o250 P), (251, o251 P), (253, o253 P), (254, o254 P), (255, o255 P), (256, o256 P), (257, o257 P), (258, o258 P), (259, o259 P), (262, o262 P), (264, o264 P), (265, o265 P), (267, o267 P), (268, o268 P), (269, o269 P), (271, o271 P), (272, o272 P), (274, o274 P), (275, o275 P), (276, o276 P), (279, o279 P), (280, o280 P), (281, o281 P), (283, o283 P), (284, o284 P), (286, o286 P), (287, o287 P), (288, o288 P), (290, o290 P), (291, o291 P), (293, o293 P), (294, o294 P), (295, o295 P), (297, o297 P), (298, o298 P), (300, o300 P), (301, o301 P), (302, o302 P), (304, o304 P), (305, o305 P), (307, o307 P), (308, o308 P), (309, o309 P), (311, o311 P), (312, o312 P), (314, o314 P), (315, o315 P), (316, o316 P), (318, o318 P), (319, o319 P), (321, o321 P), (322, o322 P), (323, o323 P), (325, o325 P), (326, o326 P), (328, o328 P), (329, o329 P), (330, o330 P), (331, o331 P), (333, o333 P), (334, o334 P), (336, o336 P), (337, o337 P), (338, o338 P), (340, o340 P), (341, o341 P), (343, o343 P), (344, o344 P), (345, o345 P), (347, o347 P), (348, o348 P), (350, o350 P), (351, o351 P), (352, o352 P), (354, o354 P), (355, o355 P), (357, o357 P), (358, o358 P), (359, o359 P), (361, o361 P), (362, o362 P), (364, o364 P), (365, o365 P), (366, o366 P), (368, o368 P), (369, o369 P), (371, o371 P), (372, o372 P), (373, o373 P), (375, o375 P), (376, o376 P), (378, o378 P), (379, o379 P), (380, o380 P), (382, o382 P), (383, o383 P), (385, o385 P), (386, o386 P), (387, o387 P), (389, o389 P), (390, o390 P), (392, o392 P), (393, o393 P), (394, o394 P), (396, o396 P), (397, o397 P), (399, o399 P), (400, o400 P), (401, o401 P), (403, o403 P), (404, o404 P), (406, o406 P), (407, o407 P), (408, o408 P), (410, o410 P), (411, o411 P), (413, o413 P), (414, o414 P), (415, o415 P), (417, o417 P), (418, o418 P), (420, o420 P), (421, o421 P), (422, o422 P), (424, o424 P), (425, o425 P), (427, o427 P), (428, o428 P), (429, o429 P), (431, o431 P), (432, o432 P), (434, o434 P), (435, o435 P), (436, o436 P), (437, o437 P), (439, o439 P), (440, o440 P), (442, o442 P), (443, o443 P), (451, o451 P), (453, o453 P), (454, o454 P), (456, o456 P), (457, o457 P), (458, o458 P), (459, o459 P), (460, o460 P), (461, o461 P), (462, o462 P), (465, o465 P), (467, o467 P), (468, o468 P), (470, o470 P), (471, o471 P), (472, o472 P), (475, o475 P), (476, o476 P), (477, o477 P), (479, o479 P), (480, o480 P), (482, o482 P), (483, o483 P), (484, o484 P), (487, o487 P), (488, o488 P), (496, o496 P), (498, o498 P), (499, o499 P), (501, o501 P), (502, o502 P), (503, o503 P), (505, o505 P), (506, o506 P), (508, o508 P), (509, o509 P), (510, o510 P), (512, o512 P), (513, o513 P), (515, o515 P), (516, o516 P), (517, o517 P), (519, o519 P), (520, o520 P), (522, o522 P), (523, o523 P), (524, o524 P), (526, o526 P), (527, o527 P), (529, o529 P), (530, o530 P), (531, o531 P), (534, o534 P), (535, o535 P), (536, o536 P), (538, o538 P), (539, o539 P), (541, o541 P), (542, o542 P), (543, o543 P), (545, o545 P), (546, o546 P), (548, o548 P), (549, o549 P), (550, o550 P), (552, o552 P), (553, o553 P), (555, o555 P), (556, o556 P), (557, o557 P), (559, o559 P), (560, o560 P), (562, o562 P), (563, o563 P), (564, o564 P), (566, o566 P), (567, o567 P), (569, o569 P), (570, o570 P), (571, o571 P), (573, o573 P), (574, o574 P), (576, o576 P), (577, o577 P), (578, o578 P), (579, o579 P), (580, o580 P), (581, o581 P), (582, o582 P), (592, o592 P), (594, o594 P), (595, o595 P), (597, o597 P), (598, o598 P), (599, o599 P), (600, o600 P), (601, o601 P), (602, o602 P), (603, o603 P), (613, o613 P), (614, o614 P), (616, o616 P), (617, o617 P), (619, o619 P), (620, o620 P), (621, o621 P), (622, o622 P), (623, o623 P), (624, o624 P), (625, o625 P), (628, o628 P), (630, o630 P), (631, o631 P), (633, o633 P), (634, o634 P), (635, o635 P), (637, o637 P), (638, o638 P), (640, o640 P), (641, o641 P), (642, o642 P), (645, o645 P), (646, o646 P), (647, o647 P), (649, o649 P), (650, o650 P), (652, o652 P), (653, o653 P), (654, o654 P), (656, o656 P), (657, o657 P), (659, o659 P), (660, o660 P)]
end Mine
end
section
open PySem PySem.W PySem.Calls PyProof.Rows
set_option maxRecDepth 100000
namespace Mine
noncomputable def mkT : List Obj → Nat → BT → BT
  | [], _, t => t
  | o :: l, n, t => mkT l (n + 1) (t.ins n o)
noncomputable def sT (n m : Nat) (x : String) (t : Tok) (j a b : Nat) (c : Bool) (P : Params) : List Obj :=
  (((((objs P).take n).set 2 (match c with | true => o2 P | false => boot_o_2 P)).set 3 (g3 m x t P)).set 12 (g12 j)).set 38 (g38 a) |>.set 77 (g77 b)
noncomputable def lifeT : Life := {}
noncomputable def gsT : Array GenState := #[]
noncomputable def drT : Drawn := {}
noncomputable def envT : Env := { scope := PG.main.scope, locals := mainNs, globals := mainNs, cells := [], code := .ref 13, frame := some 14 }
noncomputable abbrev cT : Code := .body BI envT
noncomputable abbrev p0 : Pos := ⟨0, 0, 0, 0⟩
noncomputable abbrev B1 : List Frame := [topFrame p0]
noncomputable abbrev annT : Option Value := some (.ref 6)
noncomputable abbrev sA (f : Params → List Obj) (n toks : Nat) (w : World) (os : OsState) : SharedT := ⟨mkT (f w.params) 0 .nil, n, lifeT, gsT, drT, toks, os⟩
noncomputable abbrev eT (f : Params → List Obj) (n toks : Nat) (p : Pos) (w : World) (os : OsState) : Option (Flow × SharedT × Code × Pos) := some (.next, sA f n toks w os, cT, p)
noncomputable def H0 (P : Params) : Heap := ⟨((sT 15 8 "__main__" 164 0 0 0 false) P).toArray, lifeT⟩
open PySem.W.Fast in
noncomputable def sts1 : List Stmt := (BI.drop 0).take 3
noncomputable def sts2 : List Stmt := (BI.drop 3).take 2
noncomputable def sts3 : List Stmt := (BI.drop 5).take 1
noncomputable def sts4 : List Stmt := (BI.drop 6).take 1
noncomputable def sts5 : List Stmt := (BI.drop 7).take 1
noncomputable def sts6 : List Stmt := (BI.drop 8).take 1
noncomputable def sts7 : List Stmt := (BI.drop 9).take 1
noncomputable def sts8 : List Stmt := (BI.drop 10).take 1
noncomputable def sts9 : List Stmt := (BI.drop 11).take 1
noncomputable def sts10 : List Stmt := (BI.drop 12).take 1
noncomputable def sts11 : List Stmt := (BI.drop 13).take 17
noncomputable def sts12 : List Stmt := (BI.drop 30).take 12
noncomputable def sts13 : List Stmt := (BI.drop 42).take 6
noncomputable def sts14 : List Stmt := (BI.drop 48).take 5
noncomputable def sts15 : List Stmt := (BI.drop 53).take 1
noncomputable def sts16 : List Stmt := (BI.drop 54).take 3
noncomputable def sts17 : List Stmt := (BI.drop 57).take 6
noncomputable def sts18 : List Stmt := (BI.drop 63).take 1
noncomputable abbrev z0 : World → OsState → SharedT := sA (sT 15 8 "__main__" 164 0 0 0 false) 15 187
noncomputable abbrev z1 : World → OsState → SharedT := sA (sT 42 10 "perlcore.errors" 194 6 0 0 true) 42 225
noncomputable abbrev z2 : World → OsState → SharedT := sA (sT 61 11 "perlcore.values" 250 9 1 0 true) 61 252
noncomputable abbrev z3 : World → OsState → SharedT := sA (sT 82 12 "perlcore.values" 250 12 1 0 true) 82 286
noncomputable abbrev z4 : World → OsState → SharedT := sA (sT 101 13 "perlcore.values" 250 15 1 1 true) 101 313
noncomputable abbrev z5 : World → OsState → SharedT := sA (sT 120 14 "perlcore.values" 250 18 1 2 true) 120 339
noncomputable abbrev z6 : World → OsState → SharedT := sA (sT 139 15 "perlcore.values" 250 21 1 3 true) 139 366
noncomputable abbrev z7 : World → OsState → SharedT := sA (sT 158 16 "perlcore.values" 250 24 1 4 true) 158 396
noncomputable abbrev z8 : World → OsState → SharedT := sA (sT 177 17 "perlcore.values" 250 27 1 5 true) 177 426
noncomputable abbrev z9 : World → OsState → SharedT := sA (sT 199 18 "perlcore.values" 250 30 1 5 true) 199 457
noncomputable abbrev z10 : World → OsState → SharedT := sA (sT 262 19 "perlcore.values" 250 33 1 5 true) 262 534
noncomputable abbrev z11 : World → OsState → SharedT := sA (sT 331 32 "perlcore.dynamic" 632 63 1 5 true) 331 637
noncomputable abbrev z12 : World → OsState → SharedT := sA (sT 415 44 "perlcore.dynamic" 632 99 1 5 true) 415 756
noncomputable abbrev z13 : World → OsState → SharedT := sA (sT 444 49 "perlcore.counts" 814 111 1 5 true) 444 816
noncomputable abbrev z14 : World → OsState → SharedT := sA (sT 489 54 "perlcore.counts" 814 126 1 5 true) 489 872
noncomputable abbrev z15 : World → OsState → SharedT := sA (sT 585 55 "perlcore.counts" 814 129 1 5 true) 585 1000
noncomputable abbrev z16 : World → OsState → SharedT := sA (sT 606 56 "perlcore.limits" 1052 132 1 5 true) 606 1054
noncomputable abbrev z17 : World → OsState → SharedT := sA (sT 654 61 "law_qz0101_01" 1102 147 1 5 true) 654 1139
noncomputable abbrev z18 : World → OsState → SharedT := sA (sT 661 62 "law_qz0101_01" 1102 150 1 5 true) 661 1163
end Mine
end
section
open PySem PySem.W PySem.Calls PyProof.Rows
set_option maxRecDepth 100000
namespace Mine
theorem pc1 (w : World) : (fun os => segRunT treeTable PG w 11 annT 1 267 (z0 w os) (piecesOf sts1 envT cT p0 B1)) = eT (sT 42 10 "perlcore.errors" 194 6 0 0 true) 42 225 ⟨5, 0, 9, 24⟩ w := by rw [PySem.W.Fast.te10110043849684766642, PySem.W.Fast.te14364793385576792824]; kernel_rfl
theorem pc2 (w : World) : (fun os => segRunT treeTable PG w 11 annT 1 255 (z1 w os) (piecesOf sts2 envT cT ⟨5, 0, 9, 24⟩ B1)) = eT (sT 61 11 "perlcore.values" 250 9 1 0 true) 61 252 ⟨15, 0, 15, 8⟩ w := by rw [PySem.W.Fast.te10110043849684766642, PySem.W.Fast.te14364793385576792824]; kernel_rfl
theorem pc3 (w : World) : (fun os => segRunT treeTable PG w 11 annT 1 228 (z2 w os) (piecesOf sts3 envT cT ⟨15, 0, 15, 8⟩ B1)) = eT (sT 82 12 "perlcore.values" 250 12 1 0 true) 82 286 ⟨16, 0, 24, 29⟩ w := by rw [PySem.W.Fast.te10110043849684766642, PySem.W.Fast.te14364793385576792824]; kernel_rfl
theorem pc4 (w : World) : (fun os => segRunT treeTable PG w 11 annT 1 248 (z3 w os) (piecesOf sts4 envT cT ⟨16, 0, 24, 29⟩ B1)) = eT (sT 101 13 "perlcore.values" 250 15 1 1 true) 101 313 ⟨25, 0, 30, 25⟩ w := by rw [PySem.W.Fast.te10110043849684766642, PySem.W.Fast.te14364793385576792824]; kernel_rfl
theorem pc5 (w : World) : (fun os => segRunT treeTable PG w 11 annT 1 247 (z4 w os) (piecesOf sts5 envT cT ⟨25, 0, 30, 25⟩ B1)) = eT (sT 120 14 "perlcore.values" 250 18 1 2 true) 120 339 ⟨31, 0, 36, 24⟩ w := by rw [PySem.W.Fast.te10110043849684766642, PySem.W.Fast.te14364793385576792824]; kernel_rfl
theorem pc6 (w : World) : (fun os => segRunT treeTable PG w 11 annT 1 248 (z5 w os) (piecesOf sts6 envT cT ⟨31, 0, 36, 24⟩ B1)) = eT (sT 139 15 "perlcore.values" 250 21 1 3 true) 139 366 ⟨37, 0, 43, 24⟩ w := by rw [PySem.W.Fast.te10110043849684766642, PySem.W.Fast.te14364793385576792824]; kernel_rfl
theorem pc7 (w : World) : (fun os => segRunT treeTable PG w 11 annT 1 251 (z6 w os) (piecesOf sts7 envT cT ⟨37, 0, 43, 24⟩ B1)) = eT (sT 158 16 "perlcore.values" 250 24 1 4 true) 158 396 ⟨44, 0, 51, 29⟩ w := by rw [PySem.W.Fast.te10110043849684766642, PySem.W.Fast.te14364793385576792824]; kernel_rfl
theorem pc8 (w : World) : (fun os => segRunT treeTable PG w 11 annT 1 251 (z7 w os) (piecesOf sts8 envT cT ⟨44, 0, 51, 29⟩ B1)) = eT (sT 177 17 "perlcore.values" 250 27 1 5 true) 177 426 ⟨52, 0, 60, 24⟩ w := by rw [PySem.W.Fast.te10110043849684766642, PySem.W.Fast.te14364793385576792824]; kernel_rfl
theorem pc9 (w : World) : (fun os => segRunT treeTable PG w 11 annT 1 226 (z8 w os) (piecesOf sts9 envT cT ⟨52, 0, 60, 24⟩ B1)) = eT (sT 199 18 "perlcore.values" 250 30 1 5 true) 199 457 ⟨61, 0, 65, 30⟩ w := by rw [PySem.W.Fast.te10110043849684766642, PySem.W.Fast.te14364793385576792824]; kernel_rfl
theorem pc10 (w : World) : (fun os => segRunT treeTable PG w 11 annT 1 415 (z9 w os) (piecesOf sts10 envT cT ⟨61, 0, 65, 30⟩ B1)) = eT (sT 262 19 "perlcore.values" 250 33 1 5 true) 262 534 ⟨66, 0, 90, 16⟩ w := by rw [PySem.W.Fast.te10110043849684766642, PySem.W.Fast.te14364793385576792824]; kernel_rfl
theorem pc11 (w : World) : (fun os => segRunT treeTable PG w 11 annT 1 373 (z10 w os) (piecesOf sts11 envT cT ⟨66, 0, 90, 16⟩ B1)) = eT (sT 331 32 "perlcore.dynamic" 632 63 1 5 true) 331 637 ⟨157, 0, 157, 12⟩ w := by rw [PySem.W.Fast.te10110043849684766642, PySem.W.Fast.te14364793385576792824]; kernel_rfl
theorem pc12 (w : World) : (fun os => segRunT treeTable PG w 11 annT 1 384 (z11 w os) (piecesOf sts12 envT cT ⟨157, 0, 157, 12⟩ B1)) = eT (sT 415 44 "perlcore.dynamic" 632 99 1 5 true) 415 756 ⟨250, 0, 252, 31⟩ w := by rw [PySem.W.Fast.te10110043849684766642, PySem.W.Fast.te14364793385576792824]; kernel_rfl
theorem pc13 (w : World) : (fun os => segRunT treeTable PG w 11 annT 1 333 (z12 w os) (piecesOf sts13 envT cT ⟨250, 0, 252, 31⟩ B1)) = eT (sT 444 49 "perlcore.counts" 814 111 1 5 true) 444 816 ⟨266, 0, 266, 8⟩ w :=
  byRow2 (P := fun w => (fun os => segRunT treeTable PG w 11 annT 1 333 (z12 w os) (piecesOf sts13 envT cT ⟨250, 0, 252, 31⟩ B1)) = eT (sT 444 49 "perlcore.counts" 814 111 1 5 true) 444 816 ⟨266, 0, 266, 8⟩ w) "special-get-raises" (fun w => by rw [PySem.W.Fast.te10110043849684766642, PySem.W.Fast.te14364793385576792824]; kernel_rfl) (fun w => by rw [PySem.W.Fast.te10110043849684766642, PySem.W.Fast.te14364793385576792824]; kernel_rfl) w
theorem pc14 (w : World) : (fun os => segRunT treeTable PG w 11 annT 1 334 (z13 w os) (piecesOf sts14 envT cT ⟨266, 0, 266, 8⟩ B1)) = eT (sT 489 54 "perlcore.counts" 814 126 1 5 true) 489 872 ⟨307, 0, 312, 54⟩ w := by rw [PySem.W.Fast.te10110043849684766642, PySem.W.Fast.te14364793385576792824]; kernel_rfl
theorem pc15 (w : World) : (fun os => segRunT treeTable PG w 11 annT 1 584 (z14 w os) (piecesOf sts15 envT cT ⟨307, 0, 312, 54⟩ B1)) = eT (sT 585 55 "perlcore.counts" 814 129 1 5 true) 585 1000 ⟨313, 0, 398, 28⟩ w := by rw [PySem.W.Fast.te10110043849684766642, PySem.W.Fast.te14364793385576792824]; kernel_rfl
theorem pc16 (w : World) : (fun os => segRunT treeTable PG w 11 annT 1 262 (z15 w os) (piecesOf sts16 envT cT ⟨313, 0, 398, 28⟩ B1)) = eT (sT 606 56 "perlcore.limits" 1052 132 1 5 true) 606 1054 ⟨422, 0, 422, 8⟩ w := by rw [PySem.W.Fast.te10110043849684766642, PySem.W.Fast.te14364793385576792824]; kernel_rfl
theorem pc17 (w : World) : (fun os => segRunT treeTable PG w 11 annT 1 385 (z16 w os) (piecesOf sts17 envT cT ⟨422, 0, 422, 8⟩ B1)) = eT (sT 654 61 "law_qz0101_01" 1102 147 1 5 true) 654 1139 ⟨448, 0, 458, 15⟩ w := by rw [PySem.W.Fast.te10110043849684766642, PySem.W.Fast.te14364793385576792824]; kernel_rfl
theorem pc18 (w : World) : (fun os => segRunT treeTable PG w 11 annT 1 47 (z17 w os) (piecesOf sts18 envT cT ⟨448, 0, 458, 15⟩ B1)) = eT (sT 661 62 "law_qz0101_01" 1102 150 1 5 true) 661 1163 ⟨459, 0, 510, 74⟩ w := by rw [PySem.W.Fast.te10110043849684766642, PySem.W.Fast.te14364793385576792824]; kernel_rfl
end Mine
end
section
open PySem PySem.W PySem.Calls PyProof.Rows
set_option maxRecDepth 100000
namespace Mine
theorem bi_eq : BI = sts1 ++ (sts2 ++ (sts3 ++ (sts4 ++ (sts5 ++ (sts6 ++ (sts7 ++ (sts8 ++ (sts9 ++ (sts10 ++ (sts11 ++ (sts12 ++ (sts13 ++ (sts14 ++ (sts15 ++ (sts16 ++ (sts17 ++ (sts18 ++ []))))))))))))))))) := by kernel_rfl
theorem op_eq : opening PG = plainProg PG.main.scope.names := by kernel_rfl
theorem fence_eq (s : Shared) : fenceModules? PG s = some s := by kernel_rfl
theorem open_ok : ∀ w : World, (fencedOpening treeTable PG w 10766).map (fun s => (s.heap, s.gens, s.drawn, s.toks)) = some (boot_heap w.params, Array.mk [], boot_drawn, boot_toks) :=
  boot_open op_eq (by decide +kernel) fence_eq
theorem size_ok (w : World) : ((boot_heap w.params).isNs mainGlobals && (#[] : Array GenState).size == 0, (boot_heap w.params).objs.size, (boot_heap w.params).nsMap mainGlobals "__annotations__") = (true, 11, annT) := by
  rw [PySem.W.Fast.te8920871248978507458]; kernel_rfl
theorem pre_ok (w : World) : (fun os => topGo treeTable PG w 11 annT 12 ⟨boot_heap w.params, #[], boot_drawn, boot_toks, os⟩ (topStub PG)) = fun os => some (⟨H0 w.params, gsT, drT, 187, os⟩, ⟨denote treeTable cT, cT, p0, B1⟩) := by
  rw [PySem.W.Fast.te15667345088766844465, PySem.W.Fast.te14364793385576792824, PySem.W.Fast.te11892475500146522536]; kernel_rfl
theorem block_ok (w : World) : (fun os => segRun treeTable PG w 11 annT 1 1 ⟨H0 w.params, gsT, drT, 187, os⟩ (blockOf BI envT cT p0 B1)) = fun os => some (.next, (z0 w os).abs, cT, p0) := by
  rw [PySem.W.Fast.te14374325043358763698, PySem.W.Fast.te14364793385576792824]; kernel_rfl
noncomputable def H1 (P : Params) : Heap := ⟨(objs P).toArray, lifeT⟩
theorem fin_ok (w : World) : (fun os => topRun treeTable PG w 11 annT 2 (z18 w os).abs ⟨doneF .next, cT, ⟨459, 0, 510, 74⟩, B1⟩) = fun os => some ⟨H1 w.params, gsT, drT, 1163, os⟩ := by
  rw [PySem.W.Fast.te14082659384304107361, PySem.W.Fast.te14364793385576792824]; kernel_rfl
end Mine
end
section
open PySem PySem.W PySem.Calls PyProof.Rows
set_option maxRecDepth 100000
namespace Mine
theorem run_ok (w : World) (os : OsState) : topRun treeTable PG w 11 annT (12 + (1 + (267 + (255 + (228 + (248 + (247 + (248 + (251 + (251 + (226 + (415 + (373 + (384 + (333 + (334 + (584 + (262 + (385 + (47 + 2)))))))))))))))))))) ⟨boot_heap w.params, #[], boot_drawn, boot_toks, os⟩ (topStub PG) = some ⟨H1 w.params, gsT, drT, 1163, os⟩ := by
  refine go_top (congrFun (pre_ok w) os) ?_
  refine piece_block (congrFun (block_ok w) os) ?_
  rw [show restOf BI envT cT p0 B1 = restOf (sts1 ++ (sts2 ++ (sts3 ++ (sts4 ++ (sts5 ++ (sts6 ++ (sts7 ++ (sts8 ++ (sts9 ++ (sts10 ++ (sts11 ++ (sts12 ++ (sts13 ++ (sts14 ++ (sts15 ++ (sts16 ++ (sts17 ++ (sts18 ++ [])))))))))))))))))) envT cT p0 B1 from congrArg (fun l => restOf l envT cT p0 B1) bi_eq]
  exact piece_app (segRun_of (congrFun (pc1 w) os))
    (piece_app (segRun_of (congrFun (pc2 w) os))
    (piece_app (segRun_of (congrFun (pc3 w) os))
    (piece_app (segRun_of (congrFun (pc4 w) os))
    (piece_app (segRun_of (congrFun (pc5 w) os))
    (piece_app (segRun_of (congrFun (pc6 w) os))
    (piece_app (segRun_of (congrFun (pc7 w) os))
    (piece_app (segRun_of (congrFun (pc8 w) os))
    (piece_app (segRun_of (congrFun (pc9 w) os))
    (piece_app (segRun_of (congrFun (pc10 w) os))
    (piece_app (segRun_of (congrFun (pc11 w) os))
    (piece_app (segRun_of (congrFun (pc12 w) os))
    (piece_app (segRun_of (congrFun (pc13 w) os))
    (piece_app (segRun_of (congrFun (pc14 w) os))
    (piece_app (segRun_of (congrFun (pc15 w) os))
    (piece_app (segRun_of (congrFun (pc16 w) os))
    (piece_app (segRun_of (congrFun (pc17 w) os))
    (piece_app (segRun_of (congrFun (pc18 w) os))
    (piece_nil (congrFun (fin_ok w) os)))))))))))))))))))
noncomputable def QV : Program := view PG [63]
noncomputable def lsT : List Str := [S "_wall", S "PerlError", S "Die", S "Thing", S "Scalar", S "Array", S "Hash", S "Code", S "Glob", S "Ref", S "Heap", S "value_of", S "NO_ELEMENT", S "TOO_MANY", S "drop_member", S "drop_members", S "check_room", S "element_place", S "element_scalar", S "resize_array", S "key_scalar", S "key_place", S "delete_key", S "LAST_PATTERN", S "local_tied", S "local_elem", S "local_helem", S "let_go_of", S "undo_scalar", S "undo_array", S "undo_hash", S "undo_code", S "undo_elem", S "undo_helem", S "undo_tied", S "undo_pad", S "undo_slot", S "undo_match", S "undo_package", S "UNDOERS", S "leave", S "Tie", S "kept_behind", S "held_by", S "empty_out", S "in_order", S "Counter", S "Run", S "Limits", S "_law_coin", S "_law_made", S "_law_swept", S "_law_left"]
noncomputable def kas : List Addr := [2, 3, 15, 17, 18, 20, 21, 22, 29, 31, 32, 34, 35, 36, 37, 38, 39, 42, 49, 51, 52, 54, 55, 56, 57, 58, 68, 70, 71, 73, 74, 75, 76, 77, 78, 79, 82, 89, 91, 92, 94, 95, 96, 97, 98, 101, 108, 110, 111, 113, 114, 115, 116, 117, 120, 127, 129, 130, 132, 133, 134, 135, 136, 139, 146, 148, 149, 151, 152, 153, 154, 155, 158, 165, 167, 168, 170, 171, 172, 173, 174, 184, 185, 187, 188, 190, 191, 192, 193, 194, 195, 196, 206, 208, 209, 211, 212, 213, 215, 216, 218, 219, 220, 222, 223, 225, 226, 227, 229, 230, 232, 233, 234, 236, 237, 239, 240, 241, 243, 244, 246, 247, 248, 250, 251, 253, 254, 255, 256, 257, 258, 259, 262, 264, 265, 267, 268, 269, 271, 272, 274, 275, 276, 279, 280, 281, 283, 284, 286, 287, 288, 290, 291, 293, 294, 295, 297, 298, 300, 301, 302, 304, 305, 307, 308, 309, 311, 312, 314, 315, 316, 318, 319, 321, 322, 323, 325, 326, 328, 329, 330, 331, 333, 334, 336, 337, 338, 340, 341, 343, 344, 345, 347, 348, 350, 351, 352, 354, 355, 357, 358, 359, 361, 362, 364, 365, 366, 368, 369, 371, 372, 373, 375, 376, 378, 379, 380, 382, 383, 385, 386, 387, 389, 390, 392, 393, 394, 396, 397, 399, 400, 401, 403, 404, 406, 407, 408, 410, 411, 413, 414, 415, 417, 418, 420, 421, 422, 424, 425, 427, 428, 429, 431, 432, 434, 435, 436, 437, 439, 440, 442, 443, 451, 453, 454, 456, 457, 458, 459, 460, 461, 462, 465, 467, 468, 470, 471, 472, 475, 476, 477, 479, 480, 482, 483, 484, 487, 488, 496, 498, 499, 501, 502, 503, 505, 506, 508, 509, 510, 512, 513, 515, 516, 517, 519, 520, 522, 523, 524, 526, 527, 529, 530, 531, 534, 535, 536, 538, 539, 541, 542, 543, 545, 546, 548, 549, 550, 552, 553, 555, 556, 557, 559, 560, 562, 563, 564, 566, 567, 569, 570, 571, 573, 574, 576, 577, 578, 579, 580, 581, 582, 592, 594, 595, 597, 598, 599, 600, 601, 602, 603, 613, 614, 616, 617, 619, 620, 621, 622, 623, 624, 625, 628, 630, 631, 633, 634, 635, 637, 638, 640, 641, 642, 645, 646, 647, 649, 650, 652, 653, 654, 656, 657, 659, 660]
theorem kas_ok (P : Params) : kas = (KF P).map (·.1) := by kernel_rfl
noncomputable abbrev HK : Hook := kmHook KF kas kas_ok [655]
noncomputable abbrev s1T (w : World) (os : OsState) : Shared := ⟨H1 w.params, gsT, drT, 1163, os⟩
theorem lk1 (w : World) : (fun os => (staticsOk (importedModules PG.main.body) (boot_heap w.params) (H1 w.params) && namesBound PG (H1 w.params) && gensDone (s1T w os) && laidKept (boot_heap w.params) (H1 w.params))) = fun _ => true := by kernel_rfl
theorem lk2 (w : World) : (fun os => HK.obs (s1T w os)) = fun _ => HK.val w := by kernel_rfl
end Mine
end
section
open PySem PySem.W PySem.Calls PyProof.Rows
set_option maxRecDepth 100000
namespace Mine
noncomputable abbrev RR : RowW := PySem.Challenge.rw_qz0101_01.row.toRowW
noncomputable abbrev XT (s : Shared) : Bool := xlAt QV [] s && recOk (RowW.records RR) s
theorem lk3 (w : World) : (fun os => openSeen QV lsT (importedModules PG.main.body) XT true (s1T w os)) = fun _ => openGood QV lsT := by
  rw [PySem.W.Fast.te4187177175401517315]; kernel_rfl
end Mine
end
section
open PySem PySem.W PySem.Calls PyProof.Rows
set_option maxRecDepth 100000
namespace Mine
theorem looks_ok (w : World) : (fun os => ((staticsOk (importedModules PG.main.body) (boot_heap w.params) (H1 w.params) && namesBound PG (H1 w.params) && gensDone (s1T w os) && laidKept (boot_heap w.params) (H1 w.params)),
    openSeen QV lsT (importedModules PG.main.body) XT true (s1T w os), HK.obs (s1T w os))) = fun _ => (true, openGood QV lsT, HK.val w) := by
  funext os
  have a := congrFun (lk1 w) os
  have b := congrFun (lk3 w) os
  have c := congrFun (lk2 w) os
  exact Prod.ext a (Prod.ext b c)
theorem left_ok : LeftO PG QV lsT XT HK.obs HK.val 10766 true :=
  LeftO.of_pieces (H₀ := boot_heap) (H₁ := H1) open_ok size_ok run_ok (by decide +kernel) looks_ok
theorem said : PySem.Challenge.rw_qz0101_01.wellSaid = true := by
  rw [PySem.W.Fast.te9446332074065402090]; kernel_rfl
noncomputable def dL : DefRec := ⟨S "law", fA 66, match fB 66 with | .stmts b => b | _ => [], fC 66, ⟨459, 0, 510, 74⟩⟩
theorem def_ok : defOf QV PySem.Challenge.rw_qz0101_01.row.name = some (dL, []) := by kernel_rfl
theorem the_ok : PySem.Challenge.rw_qz0101_01.row.prog.theDef PySem.Challenge.rw_qz0101_01.row.name = some (dL.params, dL.body, dL.scope) := by kernel_rfl
theorem look_ok : (chainsOk QV && opensWell PG && (frees RR && RR.within.isEmpty)) = true := by kernel_rfl
end Mine
end
section
open PySem PySem.W PySem.Calls PyProof.Rows
set_option maxRecDepth 100000
namespace Mine
theorem hdF (walk : WalkO QV lsT (XL QV []) HK.says RR dL [] fun f vs => PySem.call f vs) : PySem.Challenge.rw_qz0101_01.Holds := by
  refine holds_law said fun said => ?_
  refine holds_open (q := QV) (loose := lsT) (Xt := XT) (XP := XL QV []) (Yf := HK.obs) (Ya := HK.val) (YP := HK.says) (N := 10766) left_ok HK.of HK.keeps (fun s e => xl_of s (Bool.and_eq_true_iff.mp e).1) XL.keeps def_ok the_ok ?_ (fun s e => recFacts_of (Bool.and_eq_true_iff.mp e).2) ?_ said look_ok ?_ ?_ walk
  · rfl
  · rfl
  · exact ⟨rfl, rfl, rfl, rfl, rfl, by decide +kernel⟩
  · w_witness2
end Mine
end
section
namespace Mine
open PySem
inductive MV where
  | none | bool (b : Bool) | int (i : Int) | str (s : Str) | loc (n : Nat) | top (a : Nat) | typ (n : String) | bi (n : String) | junk
  deriving DecidableEq
inductive MO where
  | inst (C : Nat) (fs : List (String × MV))
  | list (vs : List MV)
  | tup (vs : List MV)
  | dI (es : List (Int × MV))
  | dS (es : List (Str × MV))
  | cell (v : Option MV)
  | fn (k : Nat) (cs : List (String × Nat))
  | codes (ps : List (Nat × Nat))
structure MS where
  obj : Nat → Option MO
  next : Nat
noncomputable def MS.put (σ : MS) (n : Nat) (o : MO) : MS := ⟨fun k => if k = n then some o else σ.obj k, σ.next⟩
noncomputable def MS.new (σ : MS) (o : MO) : MS := ⟨fun k => if k = σ.next then some o else σ.obj k, σ.next + 1⟩
structure MF where
  loc : List (String × MV)
  cel : List (String × Nat)
  law : Bool
noncomputable def setL {β : Type} (x : String) (v : β) : List (String × β) → List (String × β)
  | [] => [(x, v)]
  | (y, u) :: r => if y = x then (y, v) :: r else (y, u) :: setL x v r
noncomputable def getL' {β : Type} (x : String) : List (String × β) → Option β
  | [] => none
  | (y, u) :: r => if y = x then some u else getL' x r
inductive BOp | add | sub | mul | fdiv | mod
  deriving DecidableEq
inductive COp | eq | ne | lt | le | gt | ge | isN | notN | inn | nin
  deriving DecidableEq
set_option genInjectivity false
set_option genSizeOf false
set_option genSizeOfSpec false
inductive ME where
  | none | bool (b : Bool) | int (i : Int) | str (s : String)
  | var (x : String) | cel (x : String) | val (v : MV)
  | attr (e : ME) (x : String)
  | call (f : ME) (as : List ME)
  | callk (f : ME) (k : String) (v : ME)
  | meth (e : ME) (x : String) (as : List ME)
  | bin (op : BOp) (a b : ME)
  | not (a : ME) | and (a b : ME) | or (a b : ME)
  | cmp (op : COp) (a b : ME)
  | cmp2 (o1 o2 : COp) (a b c : ME)
  | ife (t a b : ME)
  | sub (e i : ME)
  | sliceF (e lo : ME)
  | sliceT (e hi : ME)
  | list (es : List ME)
  | tup (es : List ME)
  | dict (ks : List String) (es : List ME)
  | comp (elt : ME) (x : String) (fv : List String) (it : ME) (cond : Option ME)
  | lam (k l c : Nat) (fv : List String)
  | bad
inductive MT where
  | var (x : String) | cel (x : String) | attr (e : ME) (x : String) | sub (e i : ME)
inductive MSt where
  | expr (e : ME)
  | asg (t : MT) (e : ME)
  | asgT (xs : List MT) (e : ME)
  | asgSw (xs : List String) (e : ME)
  | aug (t : MT) (op : BOp) (e : ME)
  | ite (t : ME) (a b : List MSt)
  | whl (t : ME) (b : List MSt)
  | forL (x : String) (e : ME) (b : List MSt)
  | forR (x : String) (e : ME) (b : List MSt)
  | ret (e : ME)
  | retN
  | defn (t : MT) (k l c : Nat) (fv : List String)
  | pass
  | bad
inductive MFl where
  | next | ret (v : MV)
end Mine
end
section
namespace Mine
open PySem
noncomputable def tabAt {α : Type} (a : Nat) : List (Nat × α) → Option α
  | [] => none
  | (b, x) :: l => if Nat.beq b a then some x else tabAt a l
theorem tabAt_mem {α : Type} {a : Nat} {x : α} : ∀ {l : List (Nat × α)}, tabAt a l = some x → (a, x) ∈ l
  | [], h => by cases h
  | (b, y) :: l, h => by
    rw [tabAt] at h
    split at h
    · rename_i e
      cases h
      rw [Nat.eq_of_beq_eq_true e]; exact .head _
    · exact .tail _ (tabAt_mem h)
noncomputable def methList : List (Nat × String × Nat) := [(257, "next_number", 219), (257, "new_scalar", 226), (257, "new_array", 233), (257, "new_hash", 240), (580, "hold", 509), (580, "let_go", 516), (580, "take", 530), (580, "put_off", 535), (580, "store", 542), (580, "fresh", 549), (580, "drop", 556), (580, "settle", 563), (580, "finish", 570), (580, "free", 577)]
noncomputable def methIn (C : Nat) (x : String) : List (Nat × String × Nat) → Option Nat
  | [] => none
  | (D, y, f) :: l => if Nat.beq D C && y == x then some f else methIn C x l
noncomputable def methTab (C : Nat) (x : String) : Option Nat := methIn C x methList
theorem methIn_mem {C f : Nat} {x : String} : ∀ {l : List (Nat × String × Nat)}, methIn C x l = some f → (C, x, f) ∈ l
  | [], h => by cases h
  | (D, y, g) :: l, h => by
    rw [methIn] at h
    split at h
    · rename_i e
      cases h
      have e1 := Nat.eq_of_beq_eq_true (Bool.and_eq_true_iff.mp e).1
      have e2 := eq_of_beq (Bool.and_eq_true_iff.mp e).2
      rw [e1, e2]; exact .head _
    · exact .tail _ (methIn_mem h)
noncomputable def initList : List (Nat × Nat) := [(98, 95), (117, 114), (136, 133), (194, 191), (257, 212), (580, 502), (601, 598), (623, 620)]
noncomputable def initTab (a : Nat) : Option Nat := tabAt a initList
noncomputable def thingAttrs : List String := ["number", "count", "blessed", "weak", "is_destroyed", "is_freed"]
noncomputable def attrTab : Nat → List String
  | 98 => "value" :: "magic" :: thingAttrs
  | 117 => "items" :: "tied" :: thingAttrs
  | 136 => "table" :: "at" :: "tied" :: thingAttrs
  | 194 => ["target", "is_weak"]
  | 257 => ["limits", "last", "zero"]
  | 580 => ["heap", "destroy", "places", "empties"]
  | 601 => ["heap", "counter", "stash", "limits", "nodes", "lvs", "statements", "funcs", "operators", "out", "err", "saves", "frames", "match", "patterns", "steps", "methods", "call_code", "compile_text"]
  | 623 => ["width", "depth", "steps", "text", "items"]
  | _ => []
noncomputable def instList : List Nat := [98, 117, 136, 194, 257, 580, 601, 623]
noncomputable def isClass : List Nat := [77, 98, 117, 136, 155, 174, 194, 460]
noncomputable def subTab (C D : Nat) : Bool := C == D || (D == 77 && (C == 98 || C == 117 || C == 136))
noncomputable def dLen : MO → Option Nat
  | .dI es => some es.length
  | .dS es => some es.length
  | _ => none
noncomputable def insertI (k : Int) : List Int → List Int
  | [] => [k]
  | y :: r => if k ≤ y then k :: y :: r else y :: insertI k r
noncomputable def sortI : List Int → List Int
  | [] => []
  | k :: r => insertI k (sortI r)
noncomputable def okV : MV → Bool
  | .bi _ => false
  | .junk => false
  | _ => true
noncomputable def plainV : MV → Bool
  | .none => true
  | .bool _ => true
  | .int _ => true
  | .str _ => true
  | .loc _ => true
  | _ => false
noncomputable def mCels (fr : MF) : List String → Option (List (String × Nat))
  | [] => some []
  | x :: r => match getL' x fr.cel with
    | some n => (mCels fr r).map ((x, n) :: ·)
    | none => none
end Mine
end
section
namespace Mine
open PySem
structure MFun where
  params : List String
  dflt : List (String × MV)
  cells : List String
  body : List MSt
noncomputable def b74 : List MSt := [.asg (.attr (.var "self") "number") (.var "number"),
 .asg (.attr (.var "self") "count") (.int 0),
 .asg (.attr (.var "self") "blessed") (.none),
 .asg (.attr (.var "self") "weak") (.list []),
 .asg (.attr (.var "self") "is_destroyed") (.bool false),
 .asg (.attr (.var "self") "is_freed") (.bool false)]
noncomputable def b95 : List MSt := [.expr (.meth (.val (.top 77)) "__init__" [.var "self", .var "number"]),
 .asg (.attr (.var "self") "value") (.var "value"),
 .asg (.attr (.var "self") "magic") (.none)]
noncomputable def b114 : List MSt := [.expr (.meth (.val (.top 77)) "__init__" [.var "self", .var "number"]),
 .asg (.attr (.var "self") "items") (.list []),
 .asg (.attr (.var "self") "tied") (.none)]
noncomputable def b133 : List MSt := [.expr (.meth (.val (.top 77)) "__init__" [.var "self", .var "number"]),
 .asg (.attr (.var "self") "table") (.dict [] []),
 .asg (.attr (.var "self") "at") (.int 0),
 .asg (.attr (.var "self") "tied") (.none)]
noncomputable def b191 : List MSt := [.asg (.attr (.var "self") "target") (.var "target"),
 .asg (.attr (.var "self") "is_weak") (.var "is_weak")]
noncomputable def b212 : List MSt := [.asg (.attr (.var "self") "limits") (.var "limits"),
 .asg (.attr (.var "self") "last") (.int 0),
 .asg (.attr (.var "self") "zero") (.list [])]
noncomputable def b219 : List MSt := [.aug (.attr (.var "self") "last") (.add) (.int 1),
 .ret (.attr (.var "self") "last")]
noncomputable def b226 : List MSt := [.ret
   (.call
     (.val (.top 98))
     [.meth (.var "self") "next_number" [], .var "value"])]
noncomputable def b233 : List MSt := [.ret (.call (.val (.top 117)) [.meth (.var "self") "next_number" []])]
noncomputable def b240 : List MSt := [.ret (.call (.val (.top 136)) [.meth (.var "self") "next_number" []])]
noncomputable def b268 : List MSt := [.ite
   (.not (.call (.val (.bi "isinstance")) [.var "x", .val (.top 98)]))
   [.ret (.var "x")]
   [],
 .ite
   (.cmp (.notN) (.attr (.var "x") "magic") (.none))
   [.ret (.meth (.attr (.var "x") "magic") "get" [])]
   [],
 .ret (.attr (.var "x") "value")]
noncomputable def b275 : List MSt := [.ite (.cmp (.isN) (.var "member") (.none)) [.ret (.none)] [],
 .asg (.var "value") (.call (.val (.top 268)) [.var "member"]),
 .expr (.meth (.var "counter") "drop" [.var "member"]),
 .ret (.var "value")]
noncomputable def b287 : List MSt := [.ite
   (.cmp
     (.gt)
     (.var "size")
     (.attr (.attr (.attr (.var "counter") "heap") "limits") "items"))
   [.bad]
   []]
noncomputable def b294 : List MSt := [.ite
   (.cmp (.lt) (.var "index") (.int 0))
   [.aug
      (.var "index")
      (.add)
      (.call (.val (.bi "len")) [.attr (.var "array") "items"]),
    .ite (.cmp (.lt) (.var "index") (.int 0)) [.ret (.int (-1))] []]
   [],
 .ret (.var "index")]
noncomputable def b301 : List MSt := [.asg
   (.var "place")
   (.call (.val (.top 294)) [.var "array", .var "index"]),
 .ite (.cmp (.lt) (.var "place") (.int 0)) [.bad] [],
 .ite
   (.cmp
     (.ge)
     (.var "place")
     (.call (.val (.bi "len")) [.attr (.var "array") "items"]))
   [.expr
      (.call
        (.val (.top 308))
        [.var "counter",
         .var "array",
         .bin (.add) (.var "place") (.int 1),
         .var "most"])]
   [],
 .ite
   (.cmp
     (.isN)
     (.sub (.attr (.var "array") "items") (.var "place"))
     (.none))
   [.asg
      (.sub (.attr (.var "array") "items") (.var "place"))
      (.meth (.var "counter") "fresh" [.none])]
   [],
 .ret (.sub (.attr (.var "array") "items") (.var "place"))]
noncomputable def b308 : List MSt := [.asg (.var "size") (.call (.val (.bi "max")) [.var "size", .int 0]),
 .ite (.cmp (.gt) (.var "size") (.var "most")) [.bad] [],
 .ite
   (.cmp
     (.lt)
     (.var "size")
     (.call (.val (.bi "len")) [.attr (.var "array") "items"]))
   [.bad,
    .bad,
    .expr (.call (.val (.top 280)) [.var "counter", .var "gone"])]
   [.expr
      (.meth
        (.attr (.var "array") "items")
        "extend"
        [.bin
           (.mul)
           (.list [.none])
           (.bin
             (.sub)
             (.var "size")
             (.call (.val (.bi "len")) [.attr (.var "array") "items"]))])]]
noncomputable def b315 : List MSt := [.ite
   (.cmp (.nin) (.var "key") (.attr (.var "table_thing") "table"))
   [.expr
      (.call
        (.val (.top 287))
        [.var "counter",
         .bin
           (.add)
           (.call (.val (.bi "len")) [.attr (.var "table_thing") "table"])
           (.int 1)]),
    .asg
      (.sub (.attr (.var "table_thing") "table") (.var "key"))
      (.meth (.var "counter") "fresh" [.none])]
   [],
 .ret (.sub (.attr (.var "table_thing") "table") (.var "key"))]
noncomputable def b322 : List MSt := [.asg (.var "place") (.int 0),
 .forL "other" (.attr (.var "table_thing") "table") [.ite (.cmp .eq (.var "other") (.var "key")) [.ret (.var "place")] [], .aug (.var "place") .add (.int 1)],
 .ret (.int (-1))]
noncomputable def b329 : List MSt := [.ite
   (.cmp (.nin) (.var "key") (.attr (.var "table_thing") "table"))
   [.ret (.none)]
   [],
 .ite
   (.cmp
     (.lt)
     (.call (.val (.top 322)) [.var "table_thing", .var "key"])
     (.attr (.var "table_thing") "at"))
   [.aug (.attr (.var "table_thing") "at") (.sub) (.int 1)]
   [],
 .ret
   (.call
     (.val (.top 275))
     [.var "counter",
      .meth (.attr (.var "table_thing") "table") "pop" [.var "key"]])]
noncomputable def b344 : List MSt := [.ite
   (.cmp (.notN) (.attr (.var "array") "tied") (.none))
   [.asg
      (.var "index")
      (.meth (.attr (.var "array") "tied") "place" [.var "index"]),
    .ite (.cmp (.lt) (.var "index") (.int 0)) [.bad] [],
    .ret
      (.call
        (.val (.top 337))
        [.var "run", .str "tiedelem", .var "array", .var "index"])]
   [],
 .asg (.var "items") (.attr (.var "array") "items"),
 .ite
   (.cmp (.lt) (.var "index") (.int 0))
   [.aug
      (.var "index")
      (.add)
      (.call (.val (.bi "len")) [.var "items"])]
   [],
 .ite (.cmp (.lt) (.var "index") (.int 0)) [.bad] [],
 .ite
   (.cmp
     (.ge)
     (.var "index")
     (.call
       (.val (.bi "max"))
       [.call (.val (.bi "len")) [.var "items"],
        .attr (.attr (.var "run") "limits") "items"]))
   [.bad]
   [],
 .whl
   (.cmp
     (.le)
     (.call (.val (.bi "len")) [.var "items"])
     (.var "index"))
   [.expr (.meth (.var "items") "append" [.none])],
 .expr
   (.meth
     (.attr (.var "run") "saves")
     "append"
     [.tup
        [.str "elem",
         .var "array",
         .var "index",
         .sub (.var "items") (.var "index")]]),
 .expr (.meth (.attr (.var "run") "counter") "hold" [.var "array"]),
 .asg
   (.sub (.var "items") (.var "index"))
   (.meth (.attr (.var "run") "counter") "fresh" [.none]),
 .ret (.sub (.var "items") (.var "index"))]
noncomputable def b351 : List MSt := [.ite
   (.cmp (.notN) (.attr (.var "table_thing") "tied") (.none))
   [.ret
      (.call
        (.val (.top 337))
        [.var "run", .str "tiedkey", .var "table_thing", .var "key"])]
   [],
 .expr
   (.meth
     (.attr (.var "run") "saves")
     "append"
     [.tup
        [.str "helem",
         .var "table_thing",
         .var "key",
         .meth (.attr (.var "table_thing") "table") "get" [.var "key"]]]),
 .expr (.meth (.attr (.var "run") "counter") "hold" [.var "table_thing"]),
 .asg
   (.sub (.attr (.var "table_thing") "table") (.var "key"))
   (.meth (.attr (.var "run") "counter") "fresh" [.none]),
 .ret (.sub (.attr (.var "table_thing") "table") (.var "key"))]
noncomputable def b358 : List MSt := [.ite
   (.cmp (.notN) (.var "thing") (.none))
   [.expr (.meth (.attr (.var "run") "counter") "let_go" [.var "thing"])]
   []]
noncomputable def b393 : List MSt := [.asgT [.var "word", .var "array", .var "index", .var "old"] (.var "save"),
 .asg (.var "items") (.attr (.var "array") "items"),
 .ite
   (.cmp
     (.lt)
     (.var "index")
     (.call (.val (.bi "len")) [.var "items"]))
   [.expr
      (.call
        (.val (.top 358))
        [.var "run", .sub (.var "items") (.var "index")]),
    .asg (.sub (.var "items") (.var "index")) (.var "old"),
    .ite
      (.and
        (.cmp (.isN) (.var "old") (.none))
        (.cmp
          (.eq)
          (.var "index")
          (.bin
            (.sub)
            (.call (.val (.bi "len")) [.var "items"])
            (.int 1))))
      [.whl
         (.and
           (.cmp (.ne) (.var "items") (.list []))
           (.cmp (.isN) (.sub (.var "items") (.int (-1))) (.none)))
         [.expr (.meth (.var "items") "pop" [])]]
      []]
   [.ite
      (.cmp (.notN) (.var "old") (.none))
      [.whl
         (.cmp
           (.lt)
           (.call (.val (.bi "len")) [.var "items"])
           (.var "index"))
         [.expr (.meth (.var "items") "append" [.none])],
       .expr (.meth (.var "items") "append" [.var "old"])]
      []],
 .expr (.meth (.attr (.var "run") "counter") "let_go" [.var "array"])]
noncomputable def b400 : List MSt := [.asgT
   [.var "word", .var "table_thing", .var "key", .var "old"]
   (.var "save"),
 .ite
   (.cmp (.isN) (.var "old") (.none))
   [.expr
      (.call
        (.val (.top 329))
        [.attr (.var "run") "counter", .var "table_thing", .var "key"])]
   [.expr
      (.call
        (.val (.top 358))
        [.var "run", .meth (.attr (.var "table_thing") "table") "get" [.var "key"]]),
    .asg
      (.sub (.attr (.var "table_thing") "table") (.var "key"))
      (.var "old")],
 .expr (.meth (.attr (.var "run") "counter") "let_go" [.var "table_thing"])]
noncomputable def b443 : List MSt := [.whl
   (.cmp
     (.gt)
     (.call (.val (.bi "len")) [.attr (.var "run") "saves"])
     (.var "mark"))
   [.asg (.var "save") (.meth (.attr (.var "run") "saves") "pop" []),
    .expr
      (.call
        (.sub (.val (.top 436)) (.sub (.var "save") (.int 0)))
        [.var "run", .var "save"])]]
noncomputable def b471 : List MSt := [.asg (.var "behind") (.none),
 .ite
   (.call (.val (.bi "isinstance")) [.var "thing", .val (.top 98)])
   [.asg (.var "behind") (.attr (.var "thing") "magic")]
   [.ite
      (.or
        (.call (.val (.bi "isinstance")) [.var "thing", .val (.top 117)])
        (.call (.val (.bi "isinstance")) [.var "thing", .val (.top 136)]))
      [.asg (.var "behind") (.attr (.var "thing") "tied")]
      []],
 .ret
   (.ife
     (.call (.val (.bi "isinstance")) [.var "behind", .val (.top 460)])
     (.attr (.attr (.var "behind") "line") "holder")
     (.none))]
noncomputable def b476 : List MSt := [.ite
   (.call (.val (.bi "isinstance")) [.cel "thing", .val (.top 117)])
   [.asg (.var "held") (.attr (.cel "thing") "items")]
   [.ite
      (.call (.val (.bi "isinstance")) [.cel "thing", .val (.top 136)])
      [.asg
         (.var "held")
         (.comp
           (.sub (.attr (.cel "thing") "table") (.var "key"))
           "key" ["thing"]
           (.attr (.cel "thing") "table")
           none)]
      [.ite
         (.call (.val (.bi "isinstance")) [.cel "thing", .val (.top 155)])
         [.asg (.var "held") (.attr (.cel "thing") "captures")]
         [.ite
            (.call (.val (.bi "isinstance")) [.cel "thing", .val (.top 174)])
            [.asg
               (.var "held")
               (.list
                 [.attr (.cel "thing") "scalar",
                  .attr (.cel "thing") "array",
                  .attr (.cel "thing") "hash",
                  .attr (.cel "thing") "code"])]
            [.asg (.var "held") (.list [])]]]],
 .ret
   (.comp
     (.var "one")
     "one" []
     (.bin
       (.add)
       (.var "held")
       (.list [.call (.val (.top 471)) [.cel "thing"]]))
     (some (.cmp (.notN) (.var "one") (.none))))]
noncomputable def b483 : List MSt := [.ite
   (.and
     (.cmp (.notN) (.call (.val (.top 471)) [.var "thing"]) (.none))
     (.call (.val (.bi "isinstance")) [.var "thing", .val (.top 98)]))
   [.asg (.attr (.var "thing") "magic") (.none)]
   [.ite
      (.cmp (.notN) (.call (.val (.top 471)) [.var "thing"]) (.none))
      [.asg (.attr (.var "thing") "tied") (.none)]
      []],
 .ite
   (.call (.val (.bi "isinstance")) [.var "thing", .val (.top 117)])
   [.asg (.attr (.var "thing") "items") (.list [])]
   [.ite
      (.call (.val (.bi "isinstance")) [.var "thing", .val (.top 136)])
      [.asg (.attr (.var "thing") "table") (.dict [] []),
       .asg (.attr (.var "thing") "at") (.int 0)]
      [.ite
         (.call (.val (.bi "isinstance")) [.var "thing", .val (.top 155)])
         [.asg (.attr (.var "thing") "captures") (.list [])]
         [.ite
            (.call (.val (.bi "isinstance")) [.var "thing", .val (.top 174)])
            [.asg (.attr (.var "thing") "scalar") (.none),
             .asg (.attr (.var "thing") "array") (.none),
             .asg (.attr (.var "thing") "hash") (.none),
             .asg (.attr (.var "thing") "code") (.none)]
            []]]]]
noncomputable def b488 : List MSt := [.asg (.cel "found") (.dict [] []),
 .forL
   "thing"
   (.var "things")
   [.ite
      (.and
        (.cmp (.eq) (.attr (.var "thing") "count") (.int 0))
        (.not (.attr (.var "thing") "is_freed")))
      [.asg
         (.sub (.cel "found") (.attr (.var "thing") "number"))
         (.var "thing")]
      []],
 .ret
   (.comp
     (.sub (.cel "found") (.var "number"))
     "number" ["found"]
     (.call (.val (.bi "sorted")) [.cel "found"])
     none)]
noncomputable def b502 : List MSt := [.asg (.attr (.var "self") "heap") (.var "heap"),
 .asg (.attr (.var "self") "destroy") (.var "destroy"),
 .asg (.attr (.var "self") "places") (.dict [] []),
 .asg (.attr (.var "self") "empties") (.dict [] [])]
noncomputable def b509 : List MSt := [.aug (.attr (.var "thing") "count") (.add) (.int 1)]
noncomputable def b516 : List MSt := [.aug (.attr (.var "thing") "count") (.sub) (.int 1),
 .ite
   (.cmp (.eq) (.attr (.var "thing") "count") (.int 0))
   [.expr
      (.meth (.attr (.attr (.var "self") "heap") "zero") "append" [.var "thing"])]
   []]
noncomputable def b530 : List MSt := [.ite
   (.not
     (.call (.val (.bi "isinstance")) [.var "value", .val (.top 194)]))
   [.ret (.var "value")]
   [],
 .expr (.meth (.var "self") "hold" [.attr (.var "value") "target"]),
 .ite
   (.attr (.var "value") "is_weak")
   [.ret (.call (.val (.top 194)) [.attr (.var "value") "target"])]
   [],
 .ret (.var "value")]
noncomputable def b535 : List MSt := [.ite
   (.not
     (.call (.val (.bi "isinstance")) [.var "value", .val (.top 194)]))
   [.retN]
   [],
 .ite
   (.attr (.var "value") "is_weak")
   [.bad]
   [.expr (.meth (.var "self") "let_go" [.attr (.var "value") "target"])]]
noncomputable def b542 : List MSt := [.expr
   (.meth
     (.attr (.var "self") "places")
     "pop"
     [.attr (.var "scalar") "number", .none]),
 .expr
   (.meth
     (.attr (.var "self") "empties")
     "pop"
     [.attr (.var "scalar") "number", .none]),
 .ite
   (.cmp (.notN) (.attr (.var "scalar") "magic") (.none))
   [.expr (.meth (.attr (.var "scalar") "magic") "put" [.var "value"]),
    .retN]
   [],
 .asg (.var "old") (.attr (.var "scalar") "value"),
 .asg
   (.attr (.var "scalar") "value")
   (.meth (.var "self") "take" [.var "value"]),
 .expr (.meth (.var "self") "put_off" [.var "scalar", .var "old"])]
noncomputable def b549 : List MSt := [.asg
   (.var "scalar")
   (.meth
     (.attr (.var "self") "heap")
     "new_scalar"
     [.meth (.var "self") "take" [.var "value"]]),
 .asg (.attr (.var "scalar") "count") (.int 1),
 .ret (.var "scalar")]
noncomputable def b556 : List MSt := [.expr (.meth (.var "self") "let_go" [.var "scalar"])]
noncomputable def b563 : List MSt := [.whl
   (.cmp
     (.gt)
     (.call (.val (.bi "len")) [.attr (.attr (.var "self") "heap") "zero"])
     (.var "start"))
   [.asg
      (.var "dying")
      (.call
        (.val (.top 488))
        [.sliceF (.attr (.attr (.var "self") "heap") "zero") (.var "start")]),
    .asg
      (.attr (.attr (.var "self") "heap") "zero")
      (.sliceT (.attr (.attr (.var "self") "heap") "zero") (.var "start")),
    .forL
      "thing"
      (.var "dying")
      [.expr (.meth (.var "self") "finish" [.var "thing"])],
    .forL
      "thing"
      (.var "dying")
      [.ite
         (.and
           (.cmp (.eq) (.attr (.var "thing") "count") (.int 0))
           (.not (.attr (.var "thing") "is_freed")))
         [.expr (.meth (.var "self") "free" [.var "thing"])]
         []]]]
noncomputable def b570 : List MSt := [.ite
   (.or
     (.cmp (.ne) (.attr (.var "thing") "count") (.int 0))
     (.or
       (.cmp (.isN) (.attr (.var "thing") "blessed") (.none))
       (.or
         (.attr (.var "thing") "is_destroyed")
         (.cmp (.isN) (.attr (.var "self") "destroy") (.none)))))
   [.retN]
   [],
 .asg (.attr (.var "thing") "is_destroyed") (.bool true),
 .aug (.attr (.var "thing") "count") (.add) (.int 1),
 .expr (.meth (.var "self") "destroy" [.var "thing"]),
 .aug (.attr (.var "thing") "count") (.sub) (.int 1)]
noncomputable def b577 : List MSt := [.asg (.attr (.var "thing") "is_freed") (.bool true),
 .forL
   "scalar"
   (.attr (.var "thing") "weak")
   [.asg (.attr (.var "scalar") "value") (.none)],
 .asg (.attr (.var "thing") "weak") (.list []),
 .ite
   (.call (.val (.bi "isinstance")) [.var "thing", .val (.top 98)])
   [.expr
      (.meth
        (.attr (.var "self") "places")
        "pop"
        [.attr (.var "thing") "number", .none]),
    .expr
      (.meth
        (.attr (.var "self") "empties")
        "pop"
        [.attr (.var "thing") "number", .none]),
    .asg (.var "old") (.attr (.var "thing") "value"),
    .asg (.attr (.var "thing") "value") (.none),
    .expr (.meth (.var "self") "put_off" [.var "thing", .var "old"])]
   [],
 .asg (.var "gone") (.call (.val (.top 476)) [.var "thing"]),
 .expr (.call (.val (.top 483)) [.var "thing"]),
 .forL
   "one"
   (.var "gone")
   [.expr (.meth (.var "self") "let_go" [.var "one"])]]
noncomputable def b598 : List MSt := [.asg (.attr (.var "self") "heap") (.var "heap"),
 .asg (.attr (.var "self") "counter") (.var "counter"),
 .asg (.attr (.var "self") "stash") (.var "stash"),
 .asg (.attr (.var "self") "limits") (.var "limits"),
 .asg (.attr (.var "self") "nodes") (.dict [] []),
 .asg (.attr (.var "self") "lvs") (.dict [] []),
 .asg (.attr (.var "self") "statements") (.dict [] []),
 .asg (.attr (.var "self") "funcs") (.dict [] []),
 .asg (.attr (.var "self") "operators") (.dict [] []),
 .asg (.attr (.var "self") "out") (.list []),
 .asg (.attr (.var "self") "err") (.list []),
 .asg (.attr (.var "self") "saves") (.list []),
 .asg (.attr (.var "self") "frames") (.list []),
 .asg (.attr (.var "self") "match") (.none),
 .asg (.attr (.var "self") "patterns") (.dict [] []),
 .asg (.attr (.var "self") "steps") (.int 0),
 .asg (.attr (.var "self") "methods") (.none),
 .asg (.attr (.var "self") "call_code") (.none),
 .asg (.attr (.var "self") "compile_text") (.none)]
noncomputable def b620 : List MSt := [.asg (.attr (.var "self") "width") (.var "width"),
 .asg (.attr (.var "self") "depth") (.var "depth"),
 .asg (.attr (.var "self") "steps") (.var "steps"),
 .asg (.attr (.var "self") "text") (.var "text"),
 .asg (.attr (.var "self") "items") (.var "items")]
noncomputable def b634 : List MSt := [.aug (.sub (.var "purse") (.str "at")) (.add) (.int 1),
 .ite
   (.cmp
     (.le)
     (.sub (.var "purse") (.str "at"))
     (.call (.val (.bi "len")) [.sub (.var "purse") (.str "row")]))
   [.ret
      (.bin
        (.mod)
        (.sub
          (.sub (.var "purse") (.str "row"))
          (.bin (.sub) (.sub (.var "purse") (.str "at")) (.int 1)))
        (.var "faces"))]
   [],
 .ret
   (.bin
     (.mod)
     (.bin
       (.add)
       (.bin
         (.add)
         (.bin (.mul) (.int 5) (.sub (.var "purse") (.str "at")))
         (.bin
           (.fdiv)
           (.bin
             (.mul)
             (.sub (.var "purse") (.str "at"))
             (.sub (.var "purse") (.str "at")))
           (.int 3)))
       (.int 1))
     (.var "faces"))]
noncomputable def b641 : List MSt := [.asg (.var "thing") (.meth (.attr (.var "run") "heap") "new_array" []),
 .asg (.attr (.var "thing") "blessed") (.str "P"),
 .expr (.meth (.var "told") "append" [.attr (.var "thing") "number"]),
 .ret (.call (.val (.top 194)) [.var "thing"])]
noncomputable def b646 : List MSt := [.ite
   (.or
     (.sub (.cel "own") (.str "is_held"))
     (.cmp (.ne) (.sub (.cel "own") (.str "aside")) (.list [])))
   [.ret (.list [])]
   [],
 .asg
   (.var "gone")
   (.comp
     (.sub (.sub (.cel "own") (.str "row")) (.var "key"))
     "key" ["own"]
     (.sub (.cel "own") (.str "row"))
     (some (.cmp
        (.notN)
        (.sub (.sub (.cel "own") (.str "row")) (.var "key"))
        (.none)))),
 .asg (.sub (.cel "own") (.str "row")) (.dict [] []),
 .ret (.var "gone")]
noncomputable def b653 : List MSt := [.asg (.var "gone") (.list []),
 .whl
   (.cmp
     (.gt)
     (.call (.val (.bi "len")) [.sub (.var "own") (.str "aside")])
     (.var "mark"))
   [.asgT
      [.var "key", .var "was_there", .var "old"]
      (.meth (.sub (.var "own") (.str "aside")) "pop" []),
    .ite
      (.cmp
        (.notN)
        (.meth (.sub (.var "own") (.str "row")) "get" [.var "key"])
        (.none))
      [.expr
         (.meth
           (.var "gone")
           "append"
           [.sub (.sub (.var "own") (.str "row")) (.var "key")])]
      [],
    .expr
      (.meth (.sub (.var "own") (.str "row")) "pop" [.var "key", .none]),
    .ite
      (.var "was_there")
      [.asg
         (.sub (.sub (.var "own") (.str "row")) (.var "key"))
         (.var "old")]
      [],
    .expr
      (.meth (.var "gone") "extend" [.call (.val (.top 646)) [.var "own"]])],
 .ret (.var "gone")]
noncomputable def b_elem : List MSt := [.ret
   (.ife
     (.cel "is_hash")
     (.call
       (.val (.top 315))
       [.attr (.cel "run") "counter",
        .cel "thing",
        .bin
          (.add)
          (.str "k")
          (.call (.val (.typ "str")) [.var "key"])])
     (.call
       (.val (.top 301))
       [.attr (.cel "run") "counter", .cel "thing", .var "key", .int 4]))]
noncomputable def b_put : List MSt := [.expr
   (.meth
     (.attr (.cel "run") "counter")
     "store"
     [.call (.cel "elem") [.var "key"],
      .call (.val (.top 641)) [.cel "run", .cel "told"]]),
 .ite
   (.cmp
     (.notN)
     (.meth (.sub (.cel "own") (.str "row")) "get" [.var "key"])
     (.none))
   [.expr
      (.meth
        (.cel "due")
        "append"
        [.sub (.sub (.cel "own") (.str "row")) (.var "key")])]
   [],
 .asg
   (.sub (.sub (.cel "own") (.str "row")) (.var "key"))
   (.sub (.cel "told") (.int (-1)))]
noncomputable def bLaw : List MSt := [.asg
   (.var "heap")
   (.call
     (.val (.top 257))
     [.callk (.val (.top 623)) "items" (.int 4)]),
 .asgT
   [.cel "gone", .cel "told", .var "marks"]
   (.tup [.list [], .list [], .list []]),
 .asg
   (.cel "run")
   (.call
     (.val (.top 601))
     [.var "heap",
      .call (.val (.top 580)) [.var "heap", .lam 0 463 34 ["gone"]],
      .none,
      .attr (.var "heap") "limits"]),
 .asg
   (.cel "is_hash")
   (.cmp
     (.eq)
     (.call (.val (.top 634)) [.var "purse", .int 2])
     (.int 1)),
 .asg
   (.cel "thing")
   (.ife
     (.cel "is_hash")
     (.meth (.var "heap") "new_hash" [])
     (.meth (.var "heap") "new_array" [])),
 .asg
   (.var "led")
   (.meth
     (.attr (.cel "run") "counter")
     "fresh"
     [.call (.val (.top 194)) [.cel "thing"]]),
 .asg
   (.cel "own")
   (.dict ["row", "aside", "is_held"] [.dict [] [], .list [], .bool true]),
 .asg (.cel "due") (.list []),
 .defn (.cel "elem") 1 470 4 ["is_hash", "run", "thing"],
 .defn (.var "put") 2 473 4 ["due", "elem", "own", "run", "told"],
 .forR
   "key"
   (.call (.val (.top 634)) [.var "purse", .int 4])
   [.expr (.call (.var "put") [.var "key"])],
 .forR
   "_"
   (.bin
     (.add)
     (.int 1)
     (.call (.val (.top 634)) [.var "purse", .int 8]))
   [.asgSw
      ["way", "key"]
      (.tup
        [.call (.val (.top 634)) [.var "purse", .int 6],
         .call (.val (.top 634)) [.var "purse", .int 3]]),
    .asg
      (.var "is_there")
      (.or
        (.sub (.cel "own") (.str "is_held"))
        (.cmp (.ne) (.sub (.cel "own") (.str "aside")) (.list []))),
    .ite
      (.and (.cmp (.lt) (.var "way") (.int 2)) (.var "is_there"))
      [.ite
         (.or
           (.cmp (.eq) (.var "way") (.int 0))
           (.cmp (.eq) (.var "marks") (.list [])))
         [.expr
            (.meth
              (.var "marks")
              "append"
              [.call (.val (.bi "len")) [.attr (.cel "run") "saves"]])]
         [],
       .expr
         (.meth
           (.sub (.cel "own") (.str "aside"))
           "append"
           [.tup
              [.var "key",
               .cmp (.inn) (.var "key") (.sub (.cel "own") (.str "row")),
               .meth (.sub (.cel "own") (.str "row")) "get" [.var "key"]]]),
       .asg
         (.sub (.sub (.cel "own") (.str "row")) (.var "key"))
         (.none),
       .ite
         (.cel "is_hash")
         [.expr
            (.call
              (.val (.top 351))
              [.cel "run",
               .cel "thing",
               .bin
                 (.add)
                 (.str "k")
                 (.call (.val (.typ "str")) [.var "key"])])]
         [.expr
            (.call (.val (.top 344)) [.cel "run", .cel "thing", .var "key"])]]
      [.ite
         (.and (.cmp (.eq) (.var "way") (.int 2)) (.var "is_there"))
         [.expr (.call (.var "put") [.var "key"])]
         [.ite
            (.and
              (.cmp (.eq) (.var "way") (.int 3))
              (.sub (.cel "own") (.str "is_held")))
            [.asg (.sub (.cel "own") (.str "is_held")) (.bool false),
             .expr
               (.meth (.attr (.cel "run") "counter") "store" [.var "led", .none]),
             .expr
               (.meth
                 (.cel "due")
                 "extend"
                 [.call (.val (.top 646)) [.cel "own"]])]
            [.ite
               (.and
                 (.cmp (.gt) (.var "way") (.int 3))
                 (.cmp (.ne) (.var "marks") (.list [])))
               [.expr
                  (.meth
                    (.cel "due")
                    "extend"
                    [.call
                       (.val (.top 653))
                       [.cel "own", .sub (.var "marks") (.int (-1))]]),
                .expr
                  (.call
                    (.val (.top 443))
                    [.cel "run", .meth (.var "marks") "pop" []])]
               []]]],
    .expr (.meth (.attr (.cel "run") "counter") "settle" [.int 0]),
    .ite
      (.cmp
        (.ne)
        (.call (.val (.bi "sorted")) [.cel "gone"])
        (.call (.val (.bi "sorted")) [.cel "due"]))
      [.ret (.bool false)]
      []],
 .expr
   (.meth
     (.cel "due")
     "extend"
     [.call (.val (.top 653)) [.cel "own", .int 0]]),
 .expr (.call (.val (.top 443)) [.cel "run", .int 0]),
 .expr (.meth (.attr (.cel "run") "counter") "store" [.var "led", .none]),
 .asg (.sub (.cel "own") (.str "is_held")) (.bool false),
 .expr
   (.meth (.cel "due") "extend" [.call (.val (.top 646)) [.cel "own"]]),
 .expr (.meth (.attr (.cel "run") "counter") "settle" [.int 0]),
 .ret
   (.and
     (.cmp2
       (.eq)
       (.eq)
       (.call (.val (.bi "sorted")) [.cel "gone"])
       (.call (.val (.bi "sorted")) [.cel "due"])
       (.call (.val (.bi "sorted")) [.cel "told"]))
     (.cmp (.eq) (.attr (.cel "run") "saves") (.list [])))]
noncomputable def funList : List (Nat × MFun) := [(74, ⟨["self", "number"], [], [], b74⟩),
  (95, ⟨["self", "number", "value"], [], [], b95⟩),
  (114, ⟨["self", "number"], [], [], b114⟩),
  (133, ⟨["self", "number"], [], [], b133⟩),
  (191, ⟨["self", "target", "is_weak"], [("is_weak", .bool false)], [], b191⟩),
  (212, ⟨["self", "limits"], [], [], b212⟩),
  (219, ⟨["self"], [], [], b219⟩),
  (226, ⟨["self", "value"], [], [], b226⟩),
  (233, ⟨["self"], [], [], b233⟩),
  (240, ⟨["self"], [], [], b240⟩),
  (268, ⟨["x"], [], [], b268⟩),
  (275, ⟨["counter", "member"], [], [], b275⟩),
  (287, ⟨["counter", "size"], [], [], b287⟩),
  (294, ⟨["array", "index"], [], [], b294⟩),
  (301, ⟨["counter", "array", "index", "most"], [], [], b301⟩),
  (308, ⟨["counter", "array", "size", "most"], [], [], b308⟩),
  (315, ⟨["counter", "table_thing", "key"], [], [], b315⟩),
  (322, ⟨["table_thing", "key"], [], [], b322⟩),
  (329, ⟨["counter", "table_thing", "key"], [], [], b329⟩),
  (344, ⟨["run", "array", "index"], [], [], b344⟩),
  (351, ⟨["run", "table_thing", "key"], [], [], b351⟩),
  (358, ⟨["run", "thing"], [], [], b358⟩),
  (393, ⟨["run", "save"], [], [], b393⟩),
  (400, ⟨["run", "save"], [], [], b400⟩),
  (443, ⟨["run", "mark"], [], [], b443⟩),
  (471, ⟨["thing"], [], [], b471⟩),
  (476, ⟨["thing"], [], ["thing"], b476⟩),
  (483, ⟨["thing"], [], [], b483⟩),
  (488, ⟨["things"], [], ["found"], b488⟩),
  (502, ⟨["self", "heap", "destroy"], [], [], b502⟩),
  (509, ⟨["self", "thing"], [], [], b509⟩),
  (516, ⟨["self", "thing"], [], [], b516⟩),
  (530, ⟨["self", "value"], [], [], b530⟩),
  (535, ⟨["self", "scalar", "value"], [], ["scalar"], b535⟩),
  (542, ⟨["self", "scalar", "value"], [], [], b542⟩),
  (549, ⟨["self", "value"], [], [], b549⟩),
  (556, ⟨["self", "scalar"], [], [], b556⟩),
  (563, ⟨["self", "start"], [], [], b563⟩),
  (570, ⟨["self", "thing"], [], [], b570⟩),
  (577, ⟨["self", "thing"], [], [], b577⟩),
  (598, ⟨["self", "heap", "counter", "stash", "limits"], [], [], b598⟩),
  (620, ⟨["self", "width", "depth", "steps", "text", "items"], [("width", .int 64), ("depth", .int 50), ("steps", .int 1000000), ("text", .int 100000), ("items", .int 10000)], [], b620⟩),
  (634, ⟨["purse", "faces"], [], [], b634⟩),
  (641, ⟨["run", "told"], [], [], b641⟩),
  (646, ⟨["own"], [], ["own"], b646⟩),
  (653, ⟨["own", "mark"], [], [], b653⟩)]
noncomputable def funTab (a : Nat) : Option MFun := tabAt a funList
noncomputable def bDestroy : List MSt := [.ret (.meth (.cel "gone") "append" [.attr (.var "thing") "number"])]
noncomputable def lamTab : Nat → Option MFun
  | 0 => some ⟨["thing"], [], [], bDestroy⟩
  | 1 => some ⟨["key"], [], [], b_elem⟩
  | 2 => some ⟨["key"], [], [], b_put⟩
  | _ => none
noncomputable def outOf : MFl → MV
  | .next => .none
  | .ret v => v
noncomputable def keyPlace (k : Str) : List Str → Int → Int
  | [], _ => -1
  | x :: r, i => if x = k then i else keyPlace k r (i + 1)
noncomputable def initS (row : List Int) : MS := ⟨fun n =>
  if n = 0 then some (.codes []) else if n < 9 then some (.cell none) else if n = 9 then some (.list (row.map .int))
  else if n = 10 then some (.dS [(Str.ofString "at", .int 0), (Str.ofString "row", .loc 9)]) else none, 11⟩
noncomputable def initF : MF := ⟨[("purse", .loc 10)], [("due", 1), ("elem", 2), ("gone", 3), ("is_hash", 4), ("own", 5), ("run", 6), ("thing", 7), ("told", 8)], true⟩
end Mine
end
section
open PySem PySem.W PySem.Calls PyProof.Rows
set_option maxRecDepth 100000
namespace Mine
inductive Glo : Str → MV → Prop
  | top {x : Str} {a : Nat} : (∀ P, nsIn (KF P) mainGlobals x = some (some (.ref a))) → Glo x (.top a)
  | bi {x : Str} {n : String} : (∀ P, nsIn (KF P) mainGlobals x = some none) → bootBuiltins x = some (.builtin n) → x ≠ "__name__" → Glo x (.bi n)
  | typ {x : Str} {n : String} : (∀ P, nsIn (KF P) mainGlobals x = some none) → bootBuiltins x = some (.type n) → x ≠ "__name__" → Glo x (.typ n)
inductive COpR : PySem.CmpOp → COp → Prop
  | eq : COpR .Eq .eq | ne : COpR .NotEq .ne | lt : COpR .Lt .lt | le : COpR .LtE .le | gt : COpR .Gt .gt | ge : COpR .GtE .ge
  | isN : COpR .Is .isN | notN : COpR .IsNot .notN | inn : COpR .In .inn | nin : COpR .NotIn .nin
inductive BOpR : PySem.Operator → BOp → Prop
  | add : BOpR .Add .add | sub : BOpR .Sub .sub | mul : BOpR .Mult .mul | fdiv : BOpR .FloorDiv .fdiv | mod : BOpR .Mod .mod
noncomputable def plainBase : Expr → Bool
  | .Name .. => true
  | .Attribute .. => true
  | .Subscript .. => true
  | _ => false
noncomputable def notAttr : Expr → Bool
  | .Attribute .. => false
  | _ => true
noncomputable def notSlice : Expr → Bool
  | .Slice .. => false
  | .Name .. => true
  | .Constant .. => true
  | .UnaryOp .. => true
  | .BinOp .. => true
  | .Subscript .. => true
  | .Attribute .. => true
  | _ => false
noncomputable def noSet : Expr → Bool
  | .Set .. => false
  | _ => true
noncomputable def relabelN (inner outer : List (Str × NameKind)) : List (Str × NameKind) :=
  inner.map fun (n, k) => if (k == .free && outer.lookup n == some .cell) then (n, .cell) else (n, k)
structure CompOk (scope : Scope) (x : String) (outer : List (Str × NameKind)) (fv : List String) : Prop where
  kind : scope.kind = .function
  names : ∀ y ∈ scope.names, y.2 = .local → scope.names.lookup y.1 = some .local
  cell : ∀ y ∈ scope.names, y.2 ≠ .cell
  var : scope.names.lookup (Str.ofString x) = some .local
  free : (scope.names.filter fun y => y.2 == .free).map (·.1) = fv.map Str.ofString
noncomputable def notComp : Expr → Bool
  | .ListComp .. => false
  | .SetComp .. => false
  | .DictComp .. => false
  | _ => true
end Mine
end
section
open PySem PySem.W PySem.Calls PyProof.Rows
set_option maxRecDepth 100000
namespace Mine
theorem fnt {P : Prop} (h : false = true) : P := absurd h Bool.false_ne_true
theorem and2 {a b : Bool} (h : (a && b) = true) : a = true ∧ b = true := by cases a; exact fnt h; exact ⟨rfl, h⟩
theorem and3 {a b c : Bool} (h : (a && b && c) = true) : a = true ∧ b = true ∧ c = true := ⟨(and2 (and2 h).1).1, (and2 (and2 h).1).2, (and2 h).2⟩
theorem and4 {a b c d : Bool} (h : (a && b && c && d) = true) : a = true ∧ b = true ∧ c = true ∧ d = true := ⟨(and3 (and2 h).1).1, (and3 (and2 h).1).2.1, (and3 (and2 h).1).2.2, (and2 h).2⟩
theorem and5 {a b c d e : Bool} (h : (a && b && c && d && e) = true) : a = true ∧ b = true ∧ c = true ∧ d = true ∧ e = true := let x := and4 (and2 h).1; ⟨x.1, x.2.1, x.2.2.1, x.2.2.2, (and2 h).2⟩
theorem and6 {a b c d e f : Bool} (h : (a && b && c && d && e && f) = true) : a = true ∧ b = true ∧ c = true ∧ d = true ∧ e = true ∧ f = true := let x := and5 (and2 h).1; ⟨x.1, x.2.1, x.2.2.1, x.2.2.2.1, x.2.2.2.2, (and2 h).2⟩
theorem and7 {a b c d e f g : Bool} (h : (a && b && c && d && e && f && g) = true) : a = true ∧ b = true ∧ c = true ∧ d = true ∧ e = true ∧ f = true ∧ g = true := let x := and6 (and2 h).1; ⟨x.1, x.2.1, x.2.2.1, x.2.2.2.1, x.2.2.2.2.1, x.2.2.2.2.2, (and2 h).2⟩
theorem or2 {a b : Bool} (h : (a || b) = true) : a = true ∨ b = true := by cases a; exact .inr h; exact .inl rfl
theorem not1 {a : Bool} (h : (!a) = true) : a = false := by cases a; rfl; exact fnt h
theorem view_ok {c : Prop} [Decidable c] {t : c → Bool} {P : Prop} (h : (dite c t fun _ => false) = true) (k : ∀ hh : c, t hh = true → P) : P := by
  by_cases hh : c
  · rw [dif_pos hh] at h; exact k hh h
  · rw [dif_neg hh] at h; exact fnt h
noncomputable def vConst (x0 : Expr) (f0 : Const → Nat → Pos → Bool) : Bool := dite (x0.ctorIdx = 19) (fun h0 => Expr.Constant.elim x0 h0 f0) fun _ => false
@[elab_as_elim] theorem vConst_el {P : Expr → Prop} {x0 : Expr} {f0 : Const → Nat → Pos → Bool} (h0 : vConst x0 f0 = true) : (∀ c k p, f0 c k p = true → P (.Constant c k p)) → P x0 := view_ok h0 fun hh => Expr.Constant.elim (motive_1 := fun x0 => ∀ hh : x0.ctorIdx = 19, Expr.Constant.elim x0 hh f0 = true → (∀ c k p, f0 c k p = true → P (.Constant c k p)) → P x0) x0 hh (fun c k p _ h0 k0 => k0 c k p h0) hh
noncomputable def vUn (x0 : Expr) (f0 : PySem.UnaryOp → Expr → Pos → Bool) : Bool := dite (x0.ctorIdx = 3) (fun h0 => Expr.UnaryOp.elim x0 h0 f0) fun _ => false
@[elab_as_elim] theorem vUn_el {P : Expr → Prop} {x0 : Expr} {f0 : PySem.UnaryOp → Expr → Pos → Bool} (h0 : vUn x0 f0 = true) : (∀ o a p, f0 o a p = true → P (.UnaryOp o a p)) → P x0 := view_ok h0 fun hh => Expr.UnaryOp.elim (motive_1 := fun x0 => ∀ hh : x0.ctorIdx = 3, Expr.UnaryOp.elim x0 hh f0 = true → (∀ o a p, f0 o a p = true → P (.UnaryOp o a p)) → P x0) x0 hh (fun o a p _ h0 k0 => k0 o a p h0) hh
noncomputable def vName (x0 : Expr) (f0 : Str → Pos → Bool) : Bool := dite (x0.ctorIdx = 23) (fun h0 => Expr.Name.elim x0 h0 f0) fun _ => false
@[elab_as_elim] theorem vName_el {P : Expr → Prop} {x0 : Expr} {f0 : Str → Pos → Bool} (h0 : vName x0 f0 = true) : (∀ y p, f0 y p = true → P (.Name y p)) → P x0 := view_ok h0 fun hh => Expr.Name.elim (motive_1 := fun x0 => ∀ hh : x0.ctorIdx = 23, Expr.Name.elim x0 hh f0 = true → (∀ y p, f0 y p = true → P (.Name y p)) → P x0) x0 hh (fun y p _ h0 k0 => k0 y p h0) hh
noncomputable def vAttr (x0 : Expr) (f0 : Expr → Str → Pos → Bool) : Bool := dite (x0.ctorIdx = 20) (fun h0 => Expr.Attribute.elim x0 h0 f0) fun _ => false
@[elab_as_elim] theorem vAttr_el {P : Expr → Prop} {x0 : Expr} {f0 : Expr → Str → Pos → Bool} (h0 : vAttr x0 f0 = true) : (∀ a y p, f0 a y p = true → P (.Attribute a y p)) → P x0 := view_ok h0 fun hh => Expr.Attribute.elim (motive_1 := fun x0 => ∀ hh : x0.ctorIdx = 20, Expr.Attribute.elim x0 hh f0 = true → (∀ a y p, f0 a y p = true → P (.Attribute a y p)) → P x0) x0 hh (fun a y p _ h0 k0 => k0 a y p h0) hh
noncomputable def vCall (x0 : Expr) (f0 : Expr → List Expr → List Keyword → Pos → Bool) : Bool := dite (x0.ctorIdx = 16) (fun h0 => Expr.Call.elim x0 h0 f0) fun _ => false
@[elab_as_elim] theorem vCall_el {P : Expr → Prop} {x0 : Expr} {f0 : Expr → List Expr → List Keyword → Pos → Bool} (h0 : vCall x0 f0 = true) : (∀ f as ks p, f0 f as ks p = true → P (.Call f as ks p)) → P x0 := view_ok h0 fun hh => Expr.Call.elim (motive_1 := fun x0 => ∀ hh : x0.ctorIdx = 16, Expr.Call.elim x0 hh f0 = true → (∀ f as ks p, f0 f as ks p = true → P (.Call f as ks p)) → P x0) x0 hh (fun f as ks p _ h0 k0 => k0 f as ks p h0) hh
noncomputable def vBin (x0 : Expr) (f0 : Expr → PySem.Operator → Expr → Pos → Bool) : Bool := dite (x0.ctorIdx = 2) (fun h0 => Expr.BinOp.elim x0 h0 f0) fun _ => false
@[elab_as_elim] theorem vBin_el {P : Expr → Prop} {x0 : Expr} {f0 : Expr → PySem.Operator → Expr → Pos → Bool} (h0 : vBin x0 f0 = true) : (∀ a o b p, f0 a o b p = true → P (.BinOp a o b p)) → P x0 := view_ok h0 fun hh => Expr.BinOp.elim (motive_1 := fun x0 => ∀ hh : x0.ctorIdx = 2, Expr.BinOp.elim x0 hh f0 = true → (∀ a o b p, f0 a o b p = true → P (.BinOp a o b p)) → P x0) x0 hh (fun a o b p _ h0 k0 => k0 a o b p h0) hh
noncomputable def vBool (x0 : Expr) (f0 : PySem.BoolOp → List Expr → Pos → Bool) : Bool := dite (x0.ctorIdx = 0) (fun h0 => Expr.BoolOp.elim x0 h0 f0) fun _ => false
@[elab_as_elim] theorem vBool_el {P : Expr → Prop} {x0 : Expr} {f0 : PySem.BoolOp → List Expr → Pos → Bool} (h0 : vBool x0 f0 = true) : (∀ o vs p, f0 o vs p = true → P (.BoolOp o vs p)) → P x0 := view_ok h0 fun hh => Expr.BoolOp.elim (motive_1 := fun x0 => ∀ hh : x0.ctorIdx = 0, Expr.BoolOp.elim x0 hh f0 = true → (∀ o vs p, f0 o vs p = true → P (.BoolOp o vs p)) → P x0) x0 hh (fun o vs p _ h0 k0 => k0 o vs p h0) hh
noncomputable def vCmp (x0 : Expr) (f0 : Expr → List PySem.CmpOp → List Expr → Pos → Bool) : Bool := dite (x0.ctorIdx = 15) (fun h0 => Expr.Compare.elim x0 h0 f0) fun _ => false
@[elab_as_elim] theorem vCmp_el {P : Expr → Prop} {x0 : Expr} {f0 : Expr → List PySem.CmpOp → List Expr → Pos → Bool} (h0 : vCmp x0 f0 = true) : (∀ a os bs p, f0 a os bs p = true → P (.Compare a os bs p)) → P x0 := view_ok h0 fun hh => Expr.Compare.elim (motive_1 := fun x0 => ∀ hh : x0.ctorIdx = 15, Expr.Compare.elim x0 hh f0 = true → (∀ a os bs p, f0 a os bs p = true → P (.Compare a os bs p)) → P x0) x0 hh (fun a os bs p _ h0 k0 => k0 a os bs p h0) hh
noncomputable def vIf (x0 : Expr) (f0 : Expr → Expr → Expr → Pos → Bool) : Bool := dite (x0.ctorIdx = 5) (fun h0 => Expr.IfExp.elim x0 h0 f0) fun _ => false
@[elab_as_elim] theorem vIf_el {P : Expr → Prop} {x0 : Expr} {f0 : Expr → Expr → Expr → Pos → Bool} (h0 : vIf x0 f0 = true) : (∀ t a b p, f0 t a b p = true → P (.IfExp t a b p)) → P x0 := view_ok h0 fun hh => Expr.IfExp.elim (motive_1 := fun x0 => ∀ hh : x0.ctorIdx = 5, Expr.IfExp.elim x0 hh f0 = true → (∀ t a b p, f0 t a b p = true → P (.IfExp t a b p)) → P x0) x0 hh (fun t a b p _ h0 k0 => k0 t a b p h0) hh
noncomputable def vSub (x0 : Expr) (f0 : Expr → Expr → Pos → Bool) : Bool := dite (x0.ctorIdx = 21) (fun h0 => Expr.Subscript.elim x0 h0 f0) fun _ => false
@[elab_as_elim] theorem vSub_el {P : Expr → Prop} {x0 : Expr} {f0 : Expr → Expr → Pos → Bool} (h0 : vSub x0 f0 = true) : (∀ a i p, f0 a i p = true → P (.Subscript a i p)) → P x0 := view_ok h0 fun hh => Expr.Subscript.elim (motive_1 := fun x0 => ∀ hh : x0.ctorIdx = 21, Expr.Subscript.elim x0 hh f0 = true → (∀ a i p, f0 a i p = true → P (.Subscript a i p)) → P x0) x0 hh (fun a i p _ h0 k0 => k0 a i p h0) hh
noncomputable def vSlice (x0 : Expr) (f0 : Option Expr → Option Expr → Option Expr → Pos → Bool) : Bool := dite (x0.ctorIdx = 26) (fun h0 => Expr.Slice.elim x0 h0 f0) fun _ => false
@[elab_as_elim] theorem vSlice_el {P : Expr → Prop} {x0 : Expr} {f0 : Option Expr → Option Expr → Option Expr → Pos → Bool} (h0 : vSlice x0 f0 = true) : (∀ l h s p, f0 l h s p = true → P (.Slice l h s p)) → P x0 := view_ok h0 fun hh => Expr.Slice.elim (motive_1 := fun x0 => ∀ hh : x0.ctorIdx = 26, Expr.Slice.elim x0 hh f0 = true → (∀ l h s p, f0 l h s p = true → P (.Slice l h s p)) → P x0) x0 hh (fun l h s p _ h0 k0 => k0 l h s p h0) hh
noncomputable def vList (x0 : Expr) (f0 : List Expr → Pos → Bool) : Bool := dite (x0.ctorIdx = 24) (fun h0 => Expr.List.elim x0 h0 f0) fun _ => false
@[elab_as_elim] theorem vList_el {P : Expr → Prop} {x0 : Expr} {f0 : List Expr → Pos → Bool} (h0 : vList x0 f0 = true) : (∀ es p, f0 es p = true → P (.List es p)) → P x0 := view_ok h0 fun hh => Expr.List.elim (motive_1 := fun x0 => ∀ hh : x0.ctorIdx = 24, Expr.List.elim x0 hh f0 = true → (∀ es p, f0 es p = true → P (.List es p)) → P x0) x0 hh (fun es p _ h0 k0 => k0 es p h0) hh
noncomputable def vTup (x0 : Expr) (f0 : List Expr → Nat → Pos → Bool) : Bool := dite (x0.ctorIdx = 25) (fun h0 => Expr.Tuple.elim x0 h0 f0) fun _ => false
@[elab_as_elim] theorem vTup_el {P : Expr → Prop} {x0 : Expr} {f0 : List Expr → Nat → Pos → Bool} (h0 : vTup x0 f0 = true) : (∀ es k p, f0 es k p = true → P (.Tuple es k p)) → P x0 := view_ok h0 fun hh => Expr.Tuple.elim (motive_1 := fun x0 => ∀ hh : x0.ctorIdx = 25, Expr.Tuple.elim x0 hh f0 = true → (∀ es k p, f0 es k p = true → P (.Tuple es k p)) → P x0) x0 hh (fun es k p _ h0 k0 => k0 es k p h0) hh
noncomputable def vDict (x0 : Expr) (f0 : List (Option Expr) → List Expr → Pos → Bool) : Bool := dite (x0.ctorIdx = 6) (fun h0 => Expr.Dict.elim x0 h0 f0) fun _ => false
@[elab_as_elim] theorem vDict_el {P : Expr → Prop} {x0 : Expr} {f0 : List (Option Expr) → List Expr → Pos → Bool} (h0 : vDict x0 f0 = true) : (∀ ks vs p, f0 ks vs p = true → P (.Dict ks vs p)) → P x0 := view_ok h0 fun hh => Expr.Dict.elim (motive_1 := fun x0 => ∀ hh : x0.ctorIdx = 6, Expr.Dict.elim x0 hh f0 = true → (∀ ks vs p, f0 ks vs p = true → P (.Dict ks vs p)) → P x0) x0 hh (fun ks vs p _ h0 k0 => k0 ks vs p h0) hh
noncomputable def vComp (x0 : Expr) (f0 : Expr → List Comprehension → Scope → Pos → Bool) : Bool := dite (x0.ctorIdx = 8) (fun h0 => Expr.ListComp.elim x0 h0 f0) fun _ => false
@[elab_as_elim] theorem vComp_el {P : Expr → Prop} {x0 : Expr} {f0 : Expr → List Comprehension → Scope → Pos → Bool} (h0 : vComp x0 f0 = true) : (∀ e gs s p, f0 e gs s p = true → P (.ListComp e gs s p)) → P x0 := view_ok h0 fun hh => Expr.ListComp.elim (motive_1 := fun x0 => ∀ hh : x0.ctorIdx = 8, Expr.ListComp.elim x0 hh f0 = true → (∀ e gs s p, f0 e gs s p = true → P (.ListComp e gs s p)) → P x0) x0 hh (fun e gs s p _ h0 k0 => k0 e gs s p h0) hh
noncomputable def vLam (x0 : Expr) (f0 : Arguments → Expr → Scope → Pos → Bool) : Bool := dite (x0.ctorIdx = 4) (fun h0 => Expr.Lambda.elim x0 h0 f0) fun _ => false
@[elab_as_elim] theorem vLam_el {P : Expr → Prop} {x0 : Expr} {f0 : Arguments → Expr → Scope → Pos → Bool} (h0 : vLam x0 f0 = true) : (∀ a b s p, f0 a b s p = true → P (.Lambda a b s p)) → P x0 := view_ok h0 fun hh => Expr.Lambda.elim (motive_1 := fun x0 => ∀ hh : x0.ctorIdx = 4, Expr.Lambda.elim x0 hh f0 = true → (∀ a b s p, f0 a b s p = true → P (.Lambda a b s p)) → P x0) x0 hh (fun a b s p _ h0 k0 => k0 a b s p h0) hh
noncomputable def sExpr (x0 : Stmt) (f0 : Expr → Pos → Bool) : Bool := dite (x0.ctorIdx = 24) (fun h0 => Stmt.Expr.elim x0 h0 f0) fun _ => false
@[elab_as_elim] theorem sExpr_el {P : Stmt → Prop} {x0 : Stmt} {f0 : Expr → Pos → Bool} (h0 : sExpr x0 f0 = true) : (∀ e p, f0 e p = true → P (.Expr e p)) → P x0 := view_ok h0 fun hh => Stmt.Expr.elim (motive_2 := fun x0 => ∀ hh : x0.ctorIdx = 24, Stmt.Expr.elim x0 hh f0 = true → (∀ e p, f0 e p = true → P (.Expr e p)) → P x0) x0 hh (fun e p _ h0 k0 => k0 e p h0) hh
noncomputable def sAsg (x0 : Stmt) (f0 : List Expr → Expr → Pos → Bool) : Bool := dite (x0.ctorIdx = 5) (fun h0 => Stmt.Assign.elim x0 h0 f0) fun _ => false
@[elab_as_elim] theorem sAsg_el {P : Stmt → Prop} {x0 : Stmt} {f0 : List Expr → Expr → Pos → Bool} (h0 : sAsg x0 f0 = true) : (∀ ts e p, f0 ts e p = true → P (.Assign ts e p)) → P x0 := view_ok h0 fun hh => Stmt.Assign.elim (motive_2 := fun x0 => ∀ hh : x0.ctorIdx = 5, Stmt.Assign.elim x0 hh f0 = true → (∀ ts e p, f0 ts e p = true → P (.Assign ts e p)) → P x0) x0 hh (fun ts e p _ h0 k0 => k0 ts e p h0) hh
noncomputable def sAug (x0 : Stmt) (f0 : Expr → PySem.Operator → Expr → Pos → Bool) : Bool := dite (x0.ctorIdx = 7) (fun h0 => Stmt.AugAssign.elim x0 h0 f0) fun _ => false
@[elab_as_elim] theorem sAug_el {P : Stmt → Prop} {x0 : Stmt} {f0 : Expr → PySem.Operator → Expr → Pos → Bool} (h0 : sAug x0 f0 = true) : (∀ t o e p, f0 t o e p = true → P (.AugAssign t o e p)) → P x0 := view_ok h0 fun hh => Stmt.AugAssign.elim (motive_2 := fun x0 => ∀ hh : x0.ctorIdx = 7, Stmt.AugAssign.elim x0 hh f0 = true → (∀ t o e p, f0 t o e p = true → P (.AugAssign t o e p)) → P x0) x0 hh (fun t o e p _ h0 k0 => k0 t o e p h0) hh
noncomputable def sFor (x0 : Stmt) (f0 : Expr → Expr → List Stmt → List Stmt → Pos → Bool) : Bool := dite (x0.ctorIdx = 9) (fun h0 => Stmt.For.elim x0 h0 f0) fun _ => false
@[elab_as_elim] theorem sFor_el {P : Stmt → Prop} {x0 : Stmt} {f0 : Expr → Expr → List Stmt → List Stmt → Pos → Bool} (h0 : sFor x0 f0 = true) : (∀ t e b o p, f0 t e b o p = true → P (.For t e b o p)) → P x0 := view_ok h0 fun hh => Stmt.For.elim (motive_2 := fun x0 => ∀ hh : x0.ctorIdx = 9, Stmt.For.elim x0 hh f0 = true → (∀ t e b o p, f0 t e b o p = true → P (.For t e b o p)) → P x0) x0 hh (fun t e b o p _ h0 k0 => k0 t e b o p h0) hh
noncomputable def sWhl (x0 : Stmt) (f0 : Expr → List Stmt → List Stmt → Pos → Bool) : Bool := dite (x0.ctorIdx = 11) (fun h0 => Stmt.While.elim x0 h0 f0) fun _ => false
@[elab_as_elim] theorem sWhl_el {P : Stmt → Prop} {x0 : Stmt} {f0 : Expr → List Stmt → List Stmt → Pos → Bool} (h0 : sWhl x0 f0 = true) : (∀ t b o p, f0 t b o p = true → P (.While t b o p)) → P x0 := view_ok h0 fun hh => Stmt.While.elim (motive_2 := fun x0 => ∀ hh : x0.ctorIdx = 11, Stmt.While.elim x0 hh f0 = true → (∀ t b o p, f0 t b o p = true → P (.While t b o p)) → P x0) x0 hh (fun t b o p _ h0 k0 => k0 t b o p h0) hh
noncomputable def sIf (x0 : Stmt) (f0 : Expr → List Stmt → List Stmt → Pos → Bool) : Bool := dite (x0.ctorIdx = 12) (fun h0 => Stmt.If.elim x0 h0 f0) fun _ => false
@[elab_as_elim] theorem sIf_el {P : Stmt → Prop} {x0 : Stmt} {f0 : Expr → List Stmt → List Stmt → Pos → Bool} (h0 : sIf x0 f0 = true) : (∀ t a b p, f0 t a b p = true → P (.If t a b p)) → P x0 := view_ok h0 fun hh => Stmt.If.elim (motive_2 := fun x0 => ∀ hh : x0.ctorIdx = 12, Stmt.If.elim x0 hh f0 = true → (∀ t a b p, f0 t a b p = true → P (.If t a b p)) → P x0) x0 hh (fun t a b p _ h0 k0 => k0 t a b p h0) hh
noncomputable def sRet (x0 : Stmt) (f0 : Option Expr → Pos → Bool) : Bool := dite (x0.ctorIdx = 3) (fun h0 => Stmt.Return.elim x0 h0 f0) fun _ => false
@[elab_as_elim] theorem sRet_el {P : Stmt → Prop} {x0 : Stmt} {f0 : Option Expr → Pos → Bool} (h0 : sRet x0 f0 = true) : (∀ e p, f0 e p = true → P (.Return e p)) → P x0 := view_ok h0 fun hh => Stmt.Return.elim (motive_2 := fun x0 => ∀ hh : x0.ctorIdx = 3, Stmt.Return.elim x0 hh f0 = true → (∀ e p, f0 e p = true → P (.Return e p)) → P x0) x0 hh (fun e p _ h0 k0 => k0 e p h0) hh
noncomputable def sPass (x0 : Stmt) (f0 : Pos → Bool) : Bool := dite (x0.ctorIdx = 25) (fun h0 => Stmt.Pass.elim x0 h0 f0) fun _ => false
noncomputable def sDef (x0 : Stmt) (f0 : Str → Arguments → List Stmt → List Expr → Option Expr → List TypeParam → Scope → Option Scope → Str → Pos → Bool) : Bool := dite (x0.ctorIdx = 0) (fun h0 => Stmt.FunctionDef.elim x0 h0 f0) fun _ => false
@[elab_as_elim] theorem sDef_el {P : Stmt → Prop} {x0 : Stmt} {f0 : Str → Arguments → List Stmt → List Expr → Option Expr → List TypeParam → Scope → Option Scope → Str → Pos → Bool} (h0 : sDef x0 f0 = true) : (∀ n a b ds r tp s ts bi p, f0 n a b ds r tp s ts bi p = true → P (.FunctionDef n a b ds r tp s ts bi p)) → P x0 := view_ok h0 fun hh => Stmt.FunctionDef.elim (motive_2 := fun x0 => ∀ hh : x0.ctorIdx = 0, Stmt.FunctionDef.elim x0 hh f0 = true → (∀ n a b ds r tp s ts bi p, f0 n a b ds r tp s ts bi p = true → P (.FunctionDef n a b ds r tp s ts bi p)) → P x0) x0 hh (fun n a b ds r tp s ts bi p _ h0 k0 => k0 n a b ds r tp s ts bi p h0) hh
section
variable {α : Type}
noncomputable def vCons (l : List α) (f : α → List α → Bool) : Bool := match l with | a :: r => f a r | [] => false
@[elab_as_elim] theorem vCons_el {P : List α → Prop} {l : List α} {f} (h : vCons l f = true) (k : ∀ a r, f a r = true → P (a :: r)) : P l := by
  cases l with
  | nil => exact fnt h
  | cons a r => exact k a r h
@[elab_as_elim] theorem nil_el {P : List α → Prop} {l : List α} (h : l.isEmpty = true) (k : P []) : P l := by cases l; exact k; exact fnt h
noncomputable def v1 (l : List α) (f : α → Bool) : Bool := vCons l fun a r => r.isEmpty && f a
@[elab_as_elim] theorem v1_el {P : List α → Prop} {l : List α} {f} (h : v1 l f = true) (k : ∀ a, f a = true → P [a]) : P l :=
  vCons_el h fun a r h => nil_el (P := fun r => P (a :: r)) (and2 h).1 (k a (and2 h).2)
noncomputable def vSome (o : Option α) (f : α → Bool) : Bool := match o with | some a => f a | none => false
@[elab_as_elim] theorem vSome_el {P : Option α → Prop} {o : Option α} {f} (h : vSome o f = true) (k : ∀ a, f a = true → P (some a)) : P o := by
  cases o with
  | none => exact fnt h
  | some a => exact k a h
@[elab_as_elim] theorem none_el {P : Option α → Prop} {o : Option α} (h : o.isNone = true) (k : P none) : P o := by cases o; exact k; exact fnt h
@[elab_as_elim] theorem dec_el {P : α → Prop} {a b : α} [Decidable (a = b)] (h : decide (a = b) = true) (k : P b) : P a := by rw [of_decide_eq_true h]; exact k
@[elab_as_elim] theorem beq_el {P : α → Prop} [BEq α] [LawfulBEq α] {a b : α} (h : (a == b) = true) (k : P b) : P a := by rw [eq_of_beq h]; exact k
end
theorem vSome_ok {α : Type} {o : Option α} {f} (h : vSome o f = true) : ∃ a, o = some a ∧ f a = true := vSome_el (P := fun o => ∃ a, o = some a ∧ f a = true) h fun a h => ⟨a, rfl, h⟩
noncomputable def isK (ns : List (Str × NameKind)) (y : Str) (k : NameKind) : Bool := vSome (ns.lookup y) fun j => j == k
theorem isK_eq {ns : List (Str × NameKind)} {y : Str} {k : NameKind} (h : isK ns y k = true) : ns.lookup y = some k := vSome_el (P := fun o => o = some k) h fun _ h => congrArg some (eq_of_beq h)
noncomputable def nD (y : Str) : Bool := !(y == ("__debug__" : Str))
theorem nD_eq {y : Str} (h : nD y = true) : (y == ("__debug__" : Str)) = false := not1 h
noncomputable def nm (x : String) (y : Str) : Bool := y == Str.ofString x
@[elab_as_elim] theorem nm_el {P : Str → Prop} {x : String} {y : Str} (h : nm x y = true) (k : P (Str.ofString x)) : P y := beq_el h k
noncomputable def cop : COp → PySem.CmpOp
  | .eq => .Eq | .ne => .NotEq | .lt => .Lt | .le => .LtE | .gt => .Gt | .ge => .GtE | .isN => .Is | .notN => .IsNot | .inn => .In | .nin => .NotIn
noncomputable def copB (o : PySem.CmpOp) (c : COp) : Bool := decide (o = cop c)
theorem copB_eq {o : PySem.CmpOp} {c : COp} (h : copB o c = true) : COpR o c := by
  have := of_decide_eq_true h
  subst this
  cases c <;> constructor
noncomputable def bop : BOp → PySem.Operator
  | .add => .Add | .sub => .Sub | .mul => .Mult | .fdiv => .FloorDiv | .mod => .Mod
noncomputable def bopB (o : PySem.Operator) (c : BOp) : Bool := decide (o = bop c)
theorem bopB_eq {o : PySem.Operator} {c : BOp} (h : bopB o c = true) : BOpR o c := by
  have := of_decide_eq_true h
  subst this
  cases c <;> constructor
noncomputable def notStar (e : Expr) : Bool := !(Nat.beq e.ctorIdx 22)
noncomputable def chkL {α β : Type} (f : α → β → Bool) : List α → List β → Bool
  | [], bs => bs.isEmpty
  | a :: as, bs => vCons bs fun b r => f a b && chkL f as r
theorem chkL_ok {α β : Type} {f : α → β → Bool} {R : α → β → Prop} {S : List α → List β → Prop} (h1 : ∀ a b, f a b = true → R a b) (h0 : S [] []) (h2 : ∀ a b as bs, R a b → S as bs → S (a :: as) (b :: bs)) : ∀ {as : List α} {bs : List β}, chkL f as bs = true → S as bs
  | [], _, h => nil_el h h0
  | a :: as, _, h => vCons_el h fun b r h => h2 _ _ _ _ (h1 _ _ (and2 h).1) (chkL_ok h1 h0 h2 (and2 h).2)
noncomputable def freeB (scope : Scope) (fv : List String) : Bool := (scope.names.filter fun y => y.2 == .free).map (·.1) == fv.map Str.ofString
theorem freeB_eq {scope : Scope} {fv : List String} (h : freeB scope fv = true) : (scope.names.filter fun y => y.2 == .free).map (·.1) = fv.map Str.ofString := eq_of_beq h
noncomputable def compB (scope : Scope) (x : String) (fv : List String) : Bool :=
  (scope.kind == .function) && (scope.names.all fun y => !(y.2 == .local) || isK scope.names y.1 .local) && (scope.names.all fun y => !(y.2 == .cell)) && isK scope.names (Str.ofString x) .local && freeB scope fv
theorem compB_eq {scope : Scope} {x : String} {ns : List (Str × NameKind)} {fv : List String} (h : compB scope x fv = true) : CompOk scope x ns fv := by
  obtain ⟨h1, h2, h3, h4, h5⟩ := and5 h
  refine ⟨eq_of_beq h1, fun y hy e => ?_, fun y hy e => ?_, isK_eq h4, freeB_eq h5⟩
  · have := List.all_eq_true.mp h2 y hy
    rw [e] at this
    exact isK_eq this
  · have := List.all_eq_true.mp h3 y hy
    rw [e] at this
    exact fnt this
noncomputable def chkP (ns : List (Str × NameKind)) : Nat → Expr → ME → Bool
  | 0, _, _ => false
  | n + 1, e, m => match m with
    | .none => vConst e fun c _ _ => decide (c = .none)
    | .bool b => vConst e fun c _ _ => decide (c = .bool b)
    | .int i => vConst e fun c _ _ => decide (c = .int i)
    | .str x => vConst e fun c _ _ => decide (c = .str (Str.ofString x))
    | .var x => vName e fun y _ => nm x y && isK ns (Str.ofString x) .local && nD (Str.ofString x)
    | .cel x => vName e fun y _ => nm x y && nD (Str.ofString x) && (isK ns (Str.ofString x) .cell || (isK ns (Str.ofString x) .free && !(Str.ofString x == ("__classdict__" : Str))))
    | .attr a x => vAttr e fun b y _ => nm x y && plainBase b && chkP ns n b a
    | .sub a i => vSub e fun b j _ => notSlice j && chkP ns n b a && chkP ns n j i
    | .cmp c a b => vCmp e fun a' os bs _ => v1 os fun o => v1 bs fun b' => copB o c && noSet b' && chkP ns n a' a && chkP ns n b' b
    | _ => false
noncomputable def chkC (ns : List (Str × NameKind)) (n : Nat) (ifs : List Expr) (cond : Option ME) : Bool := match cond with
  | none => ifs.isEmpty
  | some c => v1 ifs fun c' => chkP ns n c' c
noncomputable def gTab : List (String × MV) := [("isinstance", .bi "isinstance"), ("len", .bi "len"), ("max", .bi "max"), ("sorted", .bi "sorted"), ("str", .typ "str"),
  ("Thing", .top 77), ("Scalar", .top 98), ("Array", .top 117), ("Hash", .top 136), ("Code", .top 155), ("Glob", .top 174), ("Ref", .top 194), ("Heap", .top 257), ("value_of", .top 268), ("drop_member", .top 275), ("check_room", .top 287),
  ("element_place", .top 294), ("element_scalar", .top 301), ("resize_array", .top 308), ("key_scalar", .top 315), ("key_place", .top 322), ("delete_key", .top 329), ("local_elem", .top 344), ("local_helem", .top 351), ("let_go_of", .top 358),
  ("UNDOERS", .top 436), ("leave", .top 443), ("Tie", .top 460), ("kept_behind", .top 471), ("held_by", .top 476), ("empty_out", .top 483), ("in_order", .top 488), ("Counter", .top 580), ("Run", .top 601), ("Limits", .top 623),
  ("_law_coin", .top 634), ("_law_made", .top 641), ("_law_swept", .top 646), ("_law_left", .top 653), ("local_tied", .top 337), ("drop_members", .top 280)]
noncomputable def gOk (K : Frag) (g : String × MV) : Bool := match g.2 with
  | .top a => (match nsIn K mainGlobals (Str.ofString g.1) with | some (some (.ref b)) => Nat.beq b a | _ => false)
  | .bi n => (match nsIn K mainGlobals (Str.ofString g.1) with | some none => true | _ => false) && (match bootBuiltins (Str.ofString g.1) with | some (.builtin i) => i == n | _ => false) && !(Str.ofString g.1 == ("__name__" : Str))
  | .typ n => (match nsIn K mainGlobals (Str.ofString g.1) with | some none => true | _ => false) && (match bootBuiltins (Str.ofString g.1) with | some (.type i) => i == n | _ => false) && !(Str.ofString g.1 == ("__name__" : Str))
  | _ => false
theorem gTab_all (P : Params) : gTab.all (gOk (KF P)) = true := by kernel_rfl
theorem gOk_ok (P₀ : Params) {g : String × MV} (h : ∀ P, gOk (KF P) g = true) : Glo (Str.ofString g.1) g.2 := by
  obtain ⟨x, v⟩ := g
  cases v with
  | top a =>
    refine .top fun P => ?_
    have := h P
    simp only [gOk] at this
    split at this
    · rename_i b e
      rw [e, Nat.eq_of_beq_eq_true this]
    · cases this
  | bi i =>
    have h0 := h P₀
    simp only [gOk, Bool.and_eq_true] at h0
    refine .bi (fun P => ?_) ?_ ?_
    · have := h P
      simp only [gOk, Bool.and_eq_true] at this
      obtain ⟨⟨h1, _⟩, _⟩ := this
      split at h1
      · assumption
      · cases h1
    · obtain ⟨⟨_, h1⟩, _⟩ := h0
      split at h1
      · rename_i j e
        rw [e, eq_of_beq h1]
      · cases h1
    · have := h0.2
      intro e
      dsimp only at e
      rw [e] at this
      simp at this
  | typ i =>
    have h0 := h P₀
    simp only [gOk, Bool.and_eq_true] at h0
    refine .typ (fun P => ?_) ?_ ?_
    · have := h P
      simp only [gOk, Bool.and_eq_true] at this
      obtain ⟨⟨h1, _⟩, _⟩ := this
      split at h1
      · assumption
      · cases h1
    · obtain ⟨⟨_, h1⟩, _⟩ := h0
      split at h1
      · rename_i j e
        rw [e, eq_of_beq h1]
      · cases h1
    · have := h0.2
      intro e
      dsimp only at e
      rw [e] at this
      simp at this
  | _ => have := h P₀; simp [gOk] at this
noncomputable def gHas (y : Str) (v : MV) : Bool := gTab.any fun g => Str.ofString g.1 == y && decide (g.2 = v)
theorem gHas_ok (P₀ : Params) {y : Str} {v : MV} (h : gHas y v = true) : Glo y v := by
  unfold gHas at h
  obtain ⟨g, hg, h⟩ := List.any_eq_true.mp h
  simp only [Bool.and_eq_true, decide_eq_true_eq] at h
  have := gOk_ok P₀ (g := g) fun P => List.all_eq_true.mp (gTab_all P) g hg
  rw [← eq_of_beq h.1, ← h.2]
  exact this
noncomputable def keysB : List String → List (Option Expr) → Bool
  | [], l => l.isEmpty
  | k :: ks, l => vCons l fun o r => vSome o fun e => vConst e (fun c _ _ => decide (c = .str (Str.ofString k))) && keysB ks r
theorem keysB_ok : ∀ {ks : List String} {es : List (Option Expr)}, keysB ks es = true → ∃ mks : List (String × Nat × Pos), es = mks.map (fun q => some (Expr.Constant (.str (Str.ofString q.1)) q.2.1 q.2.2)) ∧ mks.map (·.1) = ks
  | [], _, h => ⟨[], List.isEmpty_iff.mp h, rfl⟩
  | k :: ks, _, h => vCons_el h fun o r g => vSome_el g fun e g => by
    obtain ⟨mks, h2, h3⟩ := keysB_ok (and2 g).2
    exact vConst_el (and2 g).1 fun c a b h4 => dec_el h4 ⟨(k, a, b) :: mks, by rw [h2]; rfl, by rw [← h3]; rfl⟩
noncomputable def swpB (ns : List (Str × NameKind)) (ts : List Expr) (value : Expr) : Option (List Str) :=
  match value with
  | .Tuple vs _ _ =>
    if !(ts.length == 2 || ts.length == 3) || vs.length != ts.length then none
    else if vs.any fun | .Starred .. => true | _ => false then none
    else
      let line := (ts.head?.map (·.pos.line)).getD 0
      let names := ts.filterMap fun
        | .Name id pos => if ns.lookup id == some .local && pos.line == line then some id else none
        | _ => none
      if names.length != ts.length || names.eraseDups.length != names.length then none
      else if vs.all (foldedForSure 8) then none
      else if vs.all (constantsAlone 8) then none
      else some names
  | _ => none
noncomputable def swpFine (ns : List (Str × NameKind)) (ts : List Expr) (value : Expr) : Bool :=
  match value with
  | .Tuple vs _ _ => !(vs.all (constantsAlone 8)) || vs.all (foldedForSure 8)
  | _ => true
theorem swp_ok {ns : List (Str × NameKind)} {ts : List Expr} {tk : Nat} {tp : Pos} {e : Expr} (hf : swpFine ns ts e = true) (env : Env) (hs : env.scope.names = ns) (hk : env.scope.kind = .function) : swappedStores [.Tuple ts tk tp] e env = pure (swpB ns ts e) := by
  have hb : env.blockKind = .function := by unfold Env.blockKind; rw [hk]; rfl
  have hkn : ∀ id, env.kindOf id = ns.lookup id := fun id => by unfold Env.kindOf; rw [hs]
  cases e with
  | Tuple vs a b =>
    unfold swappedStores swpB
    simp only [hb, hkn]
    unfold swpFine at hf
    simp only at hf
    have hfn : (ScopeKind.function != ScopeKind.function) = false := rfl
    simp only [hfn, Bool.or_false]
    simp only [Bool.or_eq_true, Bool.not_eq_true'] at hf
    (repeat' split) <;> first | rfl | contradiction | (exfalso; rcases hf with hf | hf <;> first | contradiction | (simp_all; done))
  | _ => rfl
section
variable (cl : Nat → Arguments → FuncBody → Scope → Bool) (ns : List (Str × NameKind))
noncomputable def chkE : Nat → Expr → ME → Bool
  | 0, _, _ => false
  | n + 1, e, m => match m with
    | .bad => true
    | .none => vConst e fun c _ _ => decide (c = .none)
    | .bool b => vConst e fun c _ _ => decide (c = .bool b)
    | .int i => vConst e (fun c _ _ => decide (c = .int i)) || vUn e fun o a _ => decide (o = .USub) && vConst a fun c _ _ => decide (c = .int (-i))
    | .str x => vConst e fun c _ _ => decide (c = .str (Str.ofString x))
    | .var x => vName e fun y _ => nm x y && isK ns (Str.ofString x) .local && nD (Str.ofString x)
    | .cel x => vName e fun y _ => nm x y && nD (Str.ofString x) && (isK ns (Str.ofString x) .cell || (isK ns (Str.ofString x) .free && !(Str.ofString x == ("__classdict__" : Str))))
    | .val v => vName e fun y _ => isK ns y .globalImplicit && nD y && gHas y v
    | .attr a x => vAttr e fun b y _ => nm x y && plainBase b && chkE n b a
    | .call f as => vCall e fun g bs ks _ => ks.isEmpty && notAttr g && chkE n g f && chkL (fun b a => notStar b && chkE n b a) bs as
    | .callk f k v => vCall e fun g bs ks _ => bs.isEmpty && v1 ks fun kw => decide (kw.arg = some (Str.ofString k)) && notAttr g && chkE n g f && chkE n kw.value v
    | .meth o x as => vCall e fun g bs ks p => ks.isEmpty && vAttr g fun o' y ap => nm x y && plainBase o' && Nat.blt bs.length 20 && (ap.endLine == p.line) && chkE n o' o && chkL (fun b a => notStar b && chkE n b a) bs as
    | .bin c a b => vBin e fun a' o b' _ => bopB o c && chkE n a' a && chkE n b' b
    | .not a => vUn e fun o a' _ => decide (o = .Not) && chkE n a' a
    | .and a b => vBool e fun o vs _ => decide (o = .And) && vCons vs fun a' r => v1 r fun b' => chkE n a' a && chkE n b' b
    | .or a b => vBool e fun o vs p => decide (o = .Or) && vCons vs fun a' r => vCons r fun b' q => chkE n a' a && ((q.isEmpty && chkE n b' b) || (vCons q fun c' q => chkE n (.BoolOp .Or (b' :: c' :: q) p) b))
    | .cmp c a b => vCmp e fun a' os bs _ => v1 os fun o => v1 bs fun b' => copB o c && noSet b' && chkE n a' a && chkE n b' b
    | .cmp2 c1 c2 a b d => vCmp e fun a' os bs _ => vCons os fun o1 os => v1 os fun o2 => vCons bs fun b' bs => v1 bs fun d' => copB o1 c1 && copB o2 c2 && noSet b' && noSet d' && chkE n a' a && chkE n b' b && chkE n d' d
    | .ife t a b => vIf e fun t' a' b' _ => chkE n t' t && chkE n a' a && chkE n b' b
    | .sub a i => vSub e fun b j _ => notSlice j && chkE n b a && chkE n j i
    | .sliceF a i => vSub e fun b j _ => vSlice j fun lo hi st _ => hi.isNone && st.isNone && vSome lo fun j => chkE n b a && chkE n j i
    | .sliceT a i => vSub e fun b j _ => vSlice j fun lo hi st _ => lo.isNone && st.isNone && vSome hi fun j => chkE n b a && chkE n j i
    | .list as => vList e fun bs _ => chkL (fun b a => notStar b && chkE n b a) bs as
    | .tup as => vTup e fun bs _ _ => chkL (fun b a => notStar b && chkE n b a) bs as
    | .dict ks as => vDict e fun ks' bs _ => keysB ks ks' && chkL (fun b a => notStar b && chkE n b a) bs as && (!ks.isEmpty || bs.isEmpty)
    | .comp elt x fv it cond => vComp e fun elt' gs scope _ => v1 gs fun g => vName g.target (fun y _ => nm x y) && decide (g.is_async = 0) && noSet g.iter && compB scope x fv && chkE n g.iter it && chkP (relabelN scope.names ns) n elt' elt && chkC (relabelN scope.names ns) n g.ifs cond
    | .lam k l c fv => vLam e fun params body scope pos => (pos.line == l) && (pos.col == c) && cl k params (.expr body) scope && freeB scope fv
noncomputable def chkT (n : Nat) (e : Expr) (m : MT) : Bool := match m with
  | .var x => vName e fun y _ => nm x y && isK ns (Str.ofString x) .local
  | .cel x => vName e fun y _ => nm x y && isK ns (Str.ofString x) .cell
  | .attr a x => vAttr e fun b y _ => nm x y && chkE cl ns n b a
  | .sub a i => vSub e fun b j _ => notSlice j && chkE cl ns n b a && chkE cl ns n j i
noncomputable def asCompB (n : Nat) (t' e : Expr) (t : MT) (a : ME) : Bool := match t with
  | .var x => (match a with
    | .comp elt z fv it cond => vName t' fun y xp => nm x y && isK ns (Str.ofString x) .local && vComp e fun elt' gs scope p => (xp.line == p.line) && !(scope.names.any fun (n, k) => n == Str.ofString x && (k == .local || k == .cell)) && v1 gs fun g =>
        vName g.target (fun y _ => nm z y) && decide (g.is_async = 0) && noSet g.iter && compB scope z fv && chkE cl ns n g.iter it && chkP (relabelN scope.names ns) n elt' elt && chkC (relabelN scope.names ns) n g.ifs cond
    | _ => false)
  | _ => false
noncomputable def chkS : Nat → Stmt → MSt → Bool
  | 0, _, _ => false
  | n + 1, st, m => match m with
    | .bad => true
    | .expr a => sExpr st fun e _ => notComp e && chkE cl ns n e a
    | .asg t a => sAsg st fun ts e _ => v1 ts fun t' => (notComp e && chkT cl ns n t' t && chkE cl ns n e a) || asCompB cl ns n t' e t a
    | .asgT ts a => sAsg st fun us e _ => v1 us fun u => vTup u fun ts' _ _ => notComp e && swpFine ns ts' e && (swpB ns ts' e).isNone && chkL (chkT cl ns n) ts' ts && chkE cl ns n e a
    | .asgSw xs a => sAsg st fun us e _ => v1 us fun u => vTup u fun ts' _ _ => notComp e && swpFine ns ts' e && (swpB ns ts' e == some (xs.map Str.ofString)) && (xs.all fun x => isK ns (Str.ofString x) .local) && chkE cl ns n e a
    | .aug t c a => sAug st fun t' o e _ => bopB o c && chkE cl ns n e a && (match t with
      | .var x => vName t' fun y _ => nm x y && isK ns (Str.ofString x) .local
      | .attr b x => vAttr t' fun b' y _ => nm x y && chkE cl ns n b' b
      | .sub b i => vSub t' fun b' j _ => notSlice j && chkE cl ns n b' b && chkE cl ns n j i
      | .cel _ => false)
    | .ite t a b => sIf st fun t' a' b' _ => chkE cl ns n t' t && chkL (chkS n) a' a && chkL (chkS n) b' b
    | .whl t a => sWhl st fun t' a' o _ => o.isEmpty && chkE cl ns n t' t && chkL (chkS n) a' a
    | .forL x e b => sFor st fun t' e' b' o _ => o.isEmpty && (vName t' fun y _ => nm x y && isK ns (Str.ofString x) .local) && noSet e' && chkE cl ns n e' e && chkL (chkS n) b' b
    | .forR x e b => sFor st fun t' e' b' o _ => o.isEmpty && (vName t' fun y _ => nm x y && isK ns (Str.ofString x) .local) && chkL (chkS n) b' b && vCall e' fun f as ks _ => ks.isEmpty && (vName f fun r _ => decide (r = ("range" : Str))) && isK ns ("range" : Str) .globalImplicit && v1 as fun e' => notStar e' && chkE cl ns n e' e
    | .ret e => sRet st fun o _ => vSome o fun e' => chkE cl ns n e' e
    | .retN => sRet st fun o _ => o.isNone
    | .pass => sPass st fun _ => true
    | .defn t k l c fv => sDef st fun y params body ds rt tps scope ts q pos => ds.isEmpty && rt.isNone && tps.isEmpty && ts.isNone && true && (pos.line == l) && ((pos.col == c) && cl k params (.stmts body) scope && freeB scope fv && (match t with
      | .var x => nm x y && nm x q && isK ns (Str.ofString x) .local
      | .cel x => nm x y && nm x q && isK ns (Str.ofString x) .cell
      | _ => false))
end
structure FOk (cl : Nat → Arguments → FuncBody → Scope → Bool) (fd : MFun) (params : Arguments) (body : FuncBody) (scope : Scope) : Prop where
  names : params.args.map (·.arg) = fd.params.map Str.ofString
  only : params.posonlyargs = [] ∧ params.vararg = none ∧ params.kwonlyargs = [] ∧ params.kwarg = none ∧ params.kw_defaults = [] ∧ params.defaults.length = fd.dflt.length
  kind : scope.kind = .function
  gen : scope.isGenerator = false
  coro : scope.isCoroutine = false
  cells : (scope.names.filter fun y => y.2 == .cell).map (·.1) = fd.cells.map Str.ofString
  nodup : fd.cells.Nodup
  locs : ∀ x ∈ fd.params, scope.names.lookup (Str.ofString x) = some (if fd.cells.contains x then .cell else .local)
  text : match body with
    | .stmts b => ∃ n, chkL (chkS cl scope.names n) b fd.body = true
    | .expr e => ∃ n me, fd.body = [.ret me] ∧ chkE cl scope.names n e me = true
noncomputable def noCl : Nat → Arguments → FuncBody → Scope → Bool := fun _ _ _ _ => false
noncomputable def chkB (cl : Nat → Arguments → FuncBody → Scope → Bool) (n : Nat) (scope : Scope) (b : List MSt) : FuncBody → Bool
  | .stmts b' => chkL (chkS cl scope.names n) b' b
  | .expr e => v1 b fun s => match s with
    | .ret me => chkE cl scope.names n e me
    | _ => false
noncomputable def chkF (cl : Nat → Arguments → FuncBody → Scope → Bool) (n : Nat) (fd : MFun) (params : Arguments) (body : FuncBody) (scope : Scope) : Bool :=
  ((params.args.map (·.arg) == fd.params.map Str.ofString) && params.posonlyargs.isEmpty && params.vararg.isNone && params.kwonlyargs.isEmpty && params.kwarg.isNone && params.kw_defaults.isEmpty && Nat.beq params.defaults.length fd.dflt.length) &&
  ((scope.kind == .function) && !scope.isGenerator && !scope.isCoroutine && ((scope.names.filter fun y => y.2 == .cell).map (·.1) == fd.cells.map Str.ofString) && decide fd.cells.Nodup &&
  (fd.params.all fun x => isK scope.names (Str.ofString x) (if fd.cells.contains x then .cell else .local)) && chkB cl n scope fd.body body)
theorem chkF_ok {cl : Nat → Arguments → FuncBody → Scope → Bool} {n : Nat} {fd : MFun} {params : Arguments} {body : FuncBody} {scope : Scope} (h : chkF cl n fd params body scope = true) : FOk cl fd params body scope := by
  obtain ⟨ha, hb⟩ := and2 h
  obtain ⟨h1, h2, h3, h4, h5, h6, h7⟩ := and7 ha
  obtain ⟨h8, h9, h10, h11, h12, h13, h14⟩ := and7 hb
  refine ⟨eq_of_beq h1, ⟨List.isEmpty_iff.mp h2, Option.isNone_iff_eq_none.mp h3, List.isEmpty_iff.mp h4, Option.isNone_iff_eq_none.mp h5, List.isEmpty_iff.mp h6, Nat.eq_of_beq_eq_true h7⟩, eq_of_beq h8, not1 h9, not1 h10, eq_of_beq h11, of_decide_eq_true h12, fun x hx => isK_eq (List.all_eq_true.mp h13 x hx), ?_⟩
  cases body with
  | stmts b => exact ⟨n, h14⟩
  | expr e =>
    show ∃ n me, fd.body = [.ret me] ∧ chkE cl scope.names n e me = true
    exact v1_el (P := fun b => ∃ n me, b = [.ret me] ∧ chkE cl scope.names n e me = true) h14 fun s h => by
      cases s with
      | ret me => exact ⟨n, me, rfl, h⟩
      | _ => exact fnt h
noncomputable def noAnn (p : Arguments) : Bool := p.posonlyargs.isEmpty && p.vararg.isNone && p.kwonlyargs.isEmpty && p.kwarg.isNone && p.args.all fun a => a.annotation.isNone
theorem noAnn_ok {p : Arguments} (h : noAnn p = true) (env : Env) : annTrees p none env = [] := by
  obtain ⟨po, a, va, ko, kd, kwa, d⟩ := p
  obtain ⟨h1, h2, h3, h4, h5⟩ := and5 h
  cases List.isEmpty_iff.mp h1
  cases Option.isNone_iff_eq_none.mp h2
  cases List.isEmpty_iff.mp h3
  cases Option.isNone_iff_eq_none.mp h4
  have : annotationsOf a env = [] := by
    clear h1 h2 h3 h4 h
    induction a with
    | nil => rfl
    | cons x l ih =>
      obtain ⟨n, an, ps⟩ := x
      obtain ⟨h, h5⟩ := and2 h5
      cases Option.isNone_iff_eq_none.mp h
      exact ih h5
  unfold annTrees
  simp only [Option.toList_none, List.append_nil]
  rw [this]
  rfl
noncomputable def chkCl (k : Nat) (params : Arguments) (body : FuncBody) (scope : Scope) : Bool := vSome (lamTab k) fun fd => fd.cells.isEmpty && fd.dflt.isEmpty && (scope.names.all fun y => !(y.2 == .cell)) && noAnn params && chkF noCl 40 fd params body scope
noncomputable def ClF (k : Nat) (params : Arguments) (body : FuncBody) (scope : Scope) : Prop := chkCl k params body scope = true
theorem clF_ok {k : Nat} {params : Arguments} {body : FuncBody} {scope : Scope} (h : ClF k params body scope) : ∃ fd, lamTab k = some fd ∧ fd.cells = [] ∧ fd.dflt = [] ∧ FOk noCl fd params body scope ∧ (∀ y ∈ scope.names, y.2 ≠ .cell) ∧ ∀ env, annTrees params none env = [] := by
  obtain ⟨fd, e, h⟩ := vSome_ok h
  obtain ⟨h1, h2, h3, h4, h5⟩ := and5 h
  refine ⟨fd, e, List.isEmpty_iff.mp h1, List.isEmpty_iff.mp h2, chkF_ok h5, fun y hy e => ?_, noAnn_ok h4⟩
  have := List.all_eq_true.mp h3 y hy
  rw [e] at this
  exact fnt this
noncomputable def isSt : FuncBody → Bool
  | .stmts _ => true
  | _ => false
noncomputable def isNo (v : Value) : Bool := Nat.beq v.ctorIdx 0
noncomputable def chkD (K : Frag) (mf : MFun) (fd : FuncData) : Bool := Nat.beq fd.globals mainGlobals && fd.closure.isEmpty && Nat.beq fd.builtins builtinsNs && codeIn K fd.code fd.qualname && isSt fd.body && (!mf.dflt.isEmpty || isNo fd.defaults) && (decide mf.params.Nodup && chkF noCl 60 mf fd.params fd.body fd.scope)
noncomputable def chkK (K : Frag) (a : Nat) (mf : MFun) : Bool := match K.lookup a with
  | some ⟨_, _, .func fd, _⟩ => chkD K mf fd
  | _ => false
structure FunK (K : Frag) (a : Nat) (mf : MFun) : Prop where
  ex : ∃ oc od fd osl, K.lookup a = some ⟨oc, od, .func fd, osl⟩ ∧ fd.globals = mainGlobals ∧ fd.closure = [] ∧ fd.builtins = builtinsNs ∧ codeIn K fd.code fd.qualname = true ∧ (∃ b, fd.body = .stmts b) ∧ (mf.dflt = [] → fd.defaults = .none) ∧ mf.params.Nodup ∧ FOk noCl mf fd.params fd.body fd.scope
theorem isNo_eq {v : Value} (h : isNo v = true) : v = .none := by cases v <;> first | rfl | exact fnt h
theorem chkK_ok {K : Frag} {a : Nat} {mf : MFun} (h : chkK K a mf = true) : FunK K a mf := by
  unfold chkK at h
  split at h
  · rename_i oc od fd osl e
    obtain ⟨h1, h2, h3, h4, h5, h6, h7⟩ := and7 h
    refine ⟨oc, od, fd, osl, e, Nat.eq_of_beq_eq_true h1, List.isEmpty_iff.mp h2, Nat.eq_of_beq_eq_true h3, h4, ?_, fun e => ?_, of_decide_eq_true (and2 h7).1, chkF_ok (and2 h7).2⟩
    · cases hb : fd.body with
      | stmts b => exact ⟨b, rfl⟩
      | expr e => rw [hb] at h5; exact fnt h5
    · rw [e] at h6
      exact isNo_eq h6
  · exact fnt h
theorem funs_all (P : Params) : funList.all (fun q => chkK (KF P) q.1 q.2) = true := by kernel_rfl
theorem funK {a : Nat} {mf : MFun} (P : Params) (h : funTab a = some mf) : FunK (KF P) a mf := chkK_ok (List.all_eq_true.mp (funs_all P) _ (tabAt_mem h))
end Mine
end
section
open PySem PySem.W PySem.Calls PyProof.Rows
set_option maxRecDepth 100000
namespace Mine
noncomputable abbrev PR : Program := PySem.Challenge.rw_qz0101_01.row.prog
noncomputable abbrev KK (w : World) : Frag := KF w.params
noncomputable abbrev AD := List (Addr × Addr)
inductive VR (ad : AD) : MV → Value → Prop
  | none : VR ad .none .none
  | bool (b) : VR ad (.bool b) (.bool b)
  | int (i t) : VR ad (.int i) (.int i t)
  | str (s t) : VR ad (.str s) (.str s t)
  | loc {n p} : ad[n]? = some p → VR ad (.loc n) (.ref p.1)
  | top (a) : VR ad (.top a) (.ref a)
  | typ (n) : VR ad (.typ n) (.type n)
  | bi (n) : VR ad (.bi n) (.builtin n)
  | junk (v) : VR ad .junk v
noncomputable def Pre (a b : AD) : Prop := ∀ (n : Nat) (p : Addr × Addr), a[n]? = some p → b[n]? = some p
theorem Pre.refl (a : AD) : Pre a a := fun _ _ h => h
theorem Pre.trans {a b c : AD} (h : Pre a b) (k : Pre b c) : Pre a c := fun n p e => k n p (h n p e)
theorem Pre.snoc (a : AD) (p : Addr × Addr) : Pre a (a ++ [p]) := fun n q e => by
  rw [List.getElem?_append_left (List.getElem?_eq_some_iff.mp e).1]; exact e
theorem VR.mono {a b : AD} (h : Pre a b) {m : MV} {v : Value} (x : VR a m v) : VR b m v := by
  cases x with
  | loc e => exact .loc (h _ _ e)
  | _ => constructor
inductive All2 {α β : Type} (R : α → β → Prop) : List α → List β → Prop
  | nil : All2 R [] []
  | cons {a b as bs} : R a b → All2 R as bs → All2 R (a :: as) (b :: bs)
section
variable {α β : Type} {R S : α → β → Prop}
theorem All2.mono (h : ∀ a b, R a b → S a b) {as bs} (x : All2 R as bs) : All2 S as bs := by
  induction x with
  | nil => exact .nil
  | cons r _ ih => exact .cons (h _ _ r) ih
theorem All2.length {as bs} (x : All2 R as bs) : as.length = bs.length := by
  induction x with
  | nil => rfl
  | cons _ _ ih => simp [ih]
theorem All2.append {as bs cs ds} (x : All2 R as bs) (y : All2 R cs ds) : All2 R (as ++ cs) (bs ++ ds) := by
  induction x with
  | nil => exact y
  | cons r _ ih => exact .cons r ih
theorem All2.get {as bs} (x : All2 R as bs) {i : Nat} {a : α} (h : as[i]? = some a) : ∃ b, bs[i]? = some b ∧ R a b := by
  induction x generalizing i with
  | nil => simp at h
  | cons r _ ih =>
    cases i with
    | zero => simp at h; subst h; exact ⟨_, by simp, r⟩
    | succ i => simp at h; simpa using ih h
theorem All2.set {as bs} (x : All2 R as bs) {a : α} {b : β} (r : R a b) (i : Nat) : All2 R (as.set i a) (bs.set i b) := by
  induction x generalizing i with
  | nil => exact .nil
  | cons r' t ih =>
    cases i with
    | zero => exact .cons r t
    | succ i => exact .cons r' (ih i)
theorem All2.drop {as bs} (x : All2 R as bs) (i : Nat) : All2 R (as.drop i) (bs.drop i) := by
  induction x generalizing i with
  | nil => simp; exact .nil
  | cons r t ih => cases i with
    | zero => exact .cons r t
    | succ i => simpa using ih i
theorem All2.take {as bs} (x : All2 R as bs) (i : Nat) : All2 R (as.take i) (bs.take i) := by
  induction x generalizing i with
  | nil => simp; exact .nil
  | cons r t ih => cases i with
    | zero => exact .nil
    | succ i => exact .cons r (ih i)
theorem All2.dropLast {as bs} (x : All2 R as bs) : All2 R as.dropLast bs.dropLast := by
  rw [List.dropLast_eq_take, List.dropLast_eq_take, x.length]; exact x.take _
theorem All2.map {γ δ : Type} {T : γ → δ → Prop} {f : α → γ} {g : β → δ} (h : ∀ a b, R a b → T (f a) (g b)) {as bs} (x : All2 R as bs) : All2 T (as.map f) (bs.map g) := by
  induction x with
  | nil => exact .nil
  | cons r _ ih => exact .cons (h _ _ r) ih
end
noncomputable def EntR (P : Params) (ad : AD) (f : String × MV) (e : DictEntry) : Prop :=
  e.hash = PyData.keyHash P (Str.ofString f.1) ∧ (∃ t, e.key = .str (Str.ofString f.1) t) ∧ VR ad f.2 e.val
noncomputable def KvR {K : Type} (ad : AD) (f : K × MV) (e : K × Value) : Prop := f.1 = e.1 ∧ VR ad f.2 e.2
noncomputable abbrev fnD (name qual : Str) (params : Arguments) (body : FuncBody) (scope : Scope) (cl : List (Str × Addr)) (doc pm cdv ct : Value) : FuncData :=
  { name, qualname := qual, params, body, scope, globals := mainGlobals, closure := cl, defaults := .none, kwdefaults := .none, doc, pyModule := pm, annotations := none, code := cdv, closureTuple := ct, builtins := builtinsNs }
theorem codeRec_keep {h h' : Heap} {c : Addr} {q : Str} (x : h.CodeRec (.ref c) q) (hk : ∀ ob, h.get? c = some ob → h'.get? c = some ob) : h'.CodeRec (.ref c) q := by
  obtain ⟨c', o, vs, t, e, g, r⟩ := x
  cases e
  exact ⟨c, o, vs, t, rfl, hk _ g, r⟩
noncomputable def ObjAt (w : World) (base : Heap) (ad : AD) (h : Heap) (p : Addr × Addr) : MO → Prop
  | .inst C fs => h.get? p.1 = some (instObj C p.2) ∧ ∃ es ep, h.get? p.2 = some (dictOf es ep) ∧ All2 (EntR w.params ad) fs es
  | .list vs => ∃ rs n, h.get? p.1 = some (listOf rs.toArray n) ∧ All2 (VR ad) vs rs
  | .tup vs => ∃ rs n, h.get? p.1 = some { cls := .type "tuple", data := .seq rs.toArray n } ∧ All2 (VR ad) vs rs
  | .dI es => (p.1 == sysModules) = false ∧ ∃ rs, h.DictOf (PySem.intKind PR w) p.1 rs ∧ All2 (KvR ad) es rs
  | .dS es => (p.1 == sysModules) = false ∧ ∃ rs, h.DictOf (PySem.strKind PR w) p.1 rs ∧ All2 (KvR ad) es rs
  | .cell v => ∃ o r, h.get? p.1 = some o ∧ o.data = .cell r ∧ (match v, r with | none, none => True | some v, some r => VR ad v r | _, _ => False)
  | .fn k cs => ∃ (o : Obj) (name qual : Str) (params : Arguments) (body : FuncBody) (scope : Scope) (clos : List (Str × Addr)) (doc pm ct : Value), h.get? p.1 = some o ∧ o.data = .func (fnD name qual params body scope clos doc pm (.ref p.2) ct) ∧
      h.CodeRec (.ref p.2) qual ∧ ClF k params body scope ∧ ∀ x n, getL' x cs = some n → ∃ q : Addr × Addr, ad[n]? = some q ∧ clos.lookup (Str.ofString x) = some q.1
  | .codes l => p = (655, 655) ∧ ∃ ps, h.get? 655 = some (tabObj ps) ∧ TriplesOk ps.toList ∧ ∀ pos : Pos, (pos.line, pos.col) ∉ l → codeAmong pos ps.toList = none
noncomputable def Own (p : Addr × Addr) (b : Addr) : Prop := b = p.1 ∨ b = p.2
theorem ObjAt.keep {w : World} {base : Heap} {a b : AD} {h h' : Heap} {p : Addr × Addr} {o : MO} (x : ObjAt w base a h p o) (hp : Pre a b)
    (hk : ∀ c ob, Own p c → h.get? c = some ob → h'.get? c = some ob) : ObjAt w base b h' p o := by
  cases o with
  | inst C fs =>
    obtain ⟨h1, es, ep, h2, h3⟩ := x
    exact ⟨hk _ _ (.inl rfl) h1, es, ep, hk _ _ (.inr rfl) h2, h3.mono fun f e r => ⟨r.1, r.2.1, r.2.2.mono hp⟩⟩
  | list vs => obtain ⟨rs, n, h1, h2⟩ := x; exact ⟨rs, n, hk _ _ (.inl rfl) h1, h2.mono fun _ _ r => r.mono hp⟩
  | tup vs => obtain ⟨rs, n, h1, h2⟩ := x; exact ⟨rs, n, hk _ _ (.inl rfl) h1, h2.mono fun _ _ r => r.mono hp⟩
  | dI es =>
    obtain ⟨lo, rs, ⟨o, es, ep, ho, r⟩, h2⟩ := x
    exact ⟨lo, rs, ⟨o, es, ep, hk _ _ (.inl rfl) ho, r⟩, h2.mono fun _ _ r => ⟨r.1, r.2.mono hp⟩⟩
  | dS es =>
    obtain ⟨lo, rs, ⟨o, es, ep, ho, r⟩, h2⟩ := x
    exact ⟨lo, rs, ⟨o, es, ep, hk _ _ (.inl rfl) ho, r⟩, h2.mono fun _ _ r => ⟨r.1, r.2.mono hp⟩⟩
  | cell v =>
    obtain ⟨o, r, h1, h2, h3⟩ := x
    refine ⟨o, r, hk _ _ (.inl rfl) h1, h2, ?_⟩
    cases v <;> cases r <;> first | exact h3 | exact h3.mono hp
  | fn k cs =>
    obtain ⟨o, name, qual, params, body, scope, clos, doc, pm, ct, h1, h2, h3, h4, h5⟩ := x
    refine ⟨o, name, qual, params, body, scope, clos, doc, pm, ct, hk _ _ (.inl rfl) h1, h2, codeRec_keep h3 fun ob e => hk _ _ (.inr rfl) e, h4, fun y n e => ?_⟩
    obtain ⟨q, h6, h7⟩ := h5 y n e
    exact ⟨q, hp _ _ h6, h7⟩
  | codes l =>
    obtain ⟨rfl, ps, h1, h2, h3⟩ := x
    exact ⟨rfl, ps, hk _ _ (.inl rfl) h1, h2, h3⟩
structure HR (w : World) (base : Heap) (σ : MS) (ad : AD) (h : Heap) : Prop where
  len : ad.length = σ.next
  obj : ∀ n o, σ.obj n = some o → ∃ p, ad[n]? = some p ∧ ObjAt w base ad h p o
  apart : ∀ (n m : Nat) (p q : Addr × Addr) (b : Addr), ad[n]? = some p → ad[m]? = some q → Own p b → Own q b → n = m
  off : ∀ (n : Nat) (p : Addr × Addr) (b : Addr), ad[n]? = some p → Own p b → base.get? b = none ∧ ∃ o, h.get? b = some o
  three : ∃ o, base.get? 3 = some o
  stays : base.StaysIn h
structure Step (ad : AD) (h : Heap) (ad' : AD) (h' : Heap) : Prop where
  ext : Pre ad ad'
  keep : ∀ b o, h.get? b = some o → (∀ (n : Nat) (p : Addr × Addr), ad[n]? = some p → ¬ Own p b) → h'.get? b = some o
  fresh : ∀ (n : Nat) (p : Addr × Addr) (b : Addr), ad'[n]? = some p → ad.length ≤ n → Own p b → h.get? b = none
theorem Step.refl (ad : AD) (h : Heap) : Step ad h ad h :=
  ⟨.refl _, fun _ _ e _ => e, fun _ _ _ e hn _ => absurd (List.getElem?_eq_some_iff.mp e).1 (Nat.not_lt.mpr hn)⟩
theorem Step.trans {w : World} {base : Heap} {σ : MS} {a b c : AD} {h i j : Heap} (x : Step a h b i) (H : HR w base σ b i) (y : Step b i c j) : Step a h c j where
  ext := x.ext.trans y.ext
  keep := fun d o e hn => by
    refine y.keep d o (x.keep d o e hn) fun n p hp ho => ?_
    by_cases q : n < a.length
    · have e1 : a[n]? = some a[n] := List.getElem?_eq_getElem q
      have e2 := x.ext _ _ e1
      rw [hp] at e2
      cases e2
      exact hn n _ e1 ho
    · rw [x.fresh n p d hp (Nat.not_lt.mp q) ho] at e; cases e
  fresh := fun n p d hp hn ho => by
    by_cases q : n < b.length
    · have e1 : b[n]? = some b[n] := List.getElem?_eq_getElem q
      have e2 := y.ext _ _ e1
      rw [hp] at e2
      cases e2
      exact x.fresh n _ d e1 hn ho
    · have z := y.fresh n p d hp (Nat.not_lt.mp q) ho
      cases e : h.get? d with
      | none => rfl
      | some o =>
        by_cases q : ∃ (m : Nat) (p' : Addr × Addr), a[m]? = some p' ∧ Own p' d
        · obtain ⟨m, p', hm, ho'⟩ := q
          obtain ⟨_, o', ho''⟩ := H.off m p' d (x.ext _ _ hm) ho'
          rw [z] at ho''; cases ho''
        · have := x.keep d o e fun m p' hm ho' => q ⟨m, p', hm, ho'⟩
          rw [z] at this; cases this
section
variable {w : World} {base : Heap} {σ : MS} {ad : AD} {h h' : Heap}
theorem HR.big (x : HR w base σ ad h) : 2 < h.objs.size := by
  obtain ⟨o, e⟩ := x.three
  exact Nat.lt_trans (Nat.lt_succ_self 2) (Heap.lt_size (x.stays 3 o e))
theorem HR.keep (x : HR w base σ ad h) (hk : ∀ b o, h.get? b = some o → h'.get? b = some o) : HR w base σ ad h' where
  len := x.len
  obj := fun n o e => let ⟨p, hp, r⟩ := x.obj n o e; ⟨p, hp, r.keep (.refl _) fun c ob _ e => hk c ob e⟩
  apart := x.apart
  off := fun n p b e ho => let ⟨a, o, d⟩ := x.off n p b e ho; ⟨a, o, hk _ _ d⟩
  three := x.three
  stays := fun b o e => hk b o (x.stays b o e)
theorem Step.keeps (hk : ∀ b o, h.get? b = some o → h'.get? b = some o) : Step ad h ad h' :=
  ⟨.refl _, fun b o e _ => hk b o e, fun _ _ _ e hn _ => absurd (List.getElem?_eq_some_iff.mp e).1 (Nat.not_lt.mpr hn)⟩
theorem HR.put (x : HR w base σ ad h) {n : Nat} {p : Addr × Addr} {o : MO} (hp : ad[n]? = some p) (hk : ∀ b ob, ¬ Own p b → h.get? b = some ob → h'.get? b = some ob)
    (he : ∀ b, Own p b → ∃ o, h'.get? b = some o) (ho : ObjAt w base ad h' p o) : HR w base (σ.put n o) ad h' ∧ Step ad h ad h' := by
  refine ⟨⟨x.len, fun m o' e => ?_, x.apart, fun m q b e ob => ?_, x.three, fun b ob e => ?_⟩, .refl _, fun b ob e hn => hk b ob (hn n p hp) e, ?_⟩
  · unfold MS.put at e
    dsimp only at e
    by_cases q : m = n
    · subst q
      rw [if_pos rfl] at e
      cases e
      exact ⟨p, hp, ho⟩
    · rw [if_neg q] at e
      obtain ⟨r, hr, r'⟩ := x.obj m o' e
      exact ⟨r, hr, r'.keep (.refl _) fun c ob oc e => hk c ob (fun z => q (x.apart m n r p c hr hp oc z)) e⟩
  · obtain ⟨a, o, d⟩ := x.off m q b e ob
    by_cases z : Own p b
    · exact ⟨a, he b z⟩
    · exact ⟨a, o, hk _ _ z d⟩
  · refine hk b ob (fun z => ?_) (x.stays b ob e)
    rw [(x.off n p b hp z).1] at e; cases e
  · exact fun n _ _ e hn _ => absurd (List.getElem?_eq_some_iff.mp e).1 (Nat.not_lt.mpr hn)
theorem HR.new (x : HR w base σ ad h) {p : Addr × Addr} {o : MO} (hk : ∀ b ob, h.get? b = some ob → h'.get? b = some ob)
    (hf : ∀ b, Own p b → h.get? b = none ∧ ∃ o, h'.get? b = some o) (ho : ObjAt w base (ad ++ [p]) h' p o) : HR w base (σ.new o) (ad ++ [p]) h' ∧ Step ad h (ad ++ [p]) h' := by
  have hb : ∀ b, h.get? b = none → base.get? b = none := fun b hb => by
    cases q : base.get? b with
    | none => rfl
    | some o => rw [x.stays b o q] at hb; cases hb
  have at_ : ∀ {n : Nat} {q : Addr × Addr}, (ad ++ [p])[n]? = some q → ad[n]? = some q ∨ (n = ad.length ∧ q = p) := fun {n q} e => by
    by_cases l : n < ad.length
    · rw [List.getElem?_append_left l] at e; exact .inl e
    · rw [List.getElem?_append_right (Nat.not_lt.mp l)] at e
      cases z : n - ad.length with
      | zero => rw [z] at e; simp at e; exact .inr ⟨by lia, e.symm⟩
      | succ k => rw [z] at e; simp at e
  have no : ∀ {n : Nat} {q : Addr × Addr} {b : Addr}, ad[n]? = some q → Own q b → Own p b → False := fun {n q b} e oq op => by
    obtain ⟨_, o, d⟩ := x.off n q b e oq
    rw [(hf b op).1] at d; cases d
  refine ⟨⟨by simp [MS.new, x.len], fun m o' e => ?_, fun n m q r b hq hr oq or' => ?_, fun n q b e ob => ?_, x.three, fun b ob e => hk b ob (x.stays b ob e)⟩, .snoc _ _, fun b ob e _ => hk b ob e, fun n q b e hn ob => ?_⟩
  · unfold MS.new at e
    dsimp only at e
    by_cases q : m = σ.next
    · subst q
      rw [if_pos rfl] at e
      cases e
      refine ⟨p, ?_, ho⟩
      rw [← x.len]; simp
    · rw [if_neg q] at e
      obtain ⟨r, hr, r'⟩ := x.obj m o' e
      exact ⟨r, Pre.snoc _ _ _ _ hr, r'.keep (.snoc _ _) fun c ob _ e => hk c ob e⟩
  · rcases at_ hq with h1 | ⟨h1, e1⟩ <;> rcases at_ hr with h2 | ⟨h2, e2⟩
    · exact x.apart n m q r b h1 h2 oq or'
    · exact (no h1 oq (e2 ▸ or')).elim
    · exact (no h2 or' (e1 ▸ oq)).elim
    · rw [h1, h2]
  · rcases at_ e with e | ⟨_, rfl⟩
    · obtain ⟨a, o, d⟩ := x.off n q b e ob
      exact ⟨a, o, hk _ _ d⟩
    · exact ⟨hb b (hf b ob).1, (hf b ob).2⟩
  · rcases at_ e with e | ⟨_, rfl⟩
    · exact absurd (List.getElem?_eq_some_iff.mp e).1 (Nat.not_lt.mpr hn)
    · exact (hf b ob).1
theorem HR.at_new (x : HR w base σ ad h) (p : Addr × Addr) : (ad ++ [p])[σ.next]? = some p := by rw [← x.len]; simp
end
end Mine
end
section
open PySem PySem.W PySem.Calls PyProof.Rows
set_option maxRecDepth 100000
namespace Mine
noncomputable def isNN : Option (Option Value) → Bool
  | some none => true
  | _ => false
theorem isNN_eq {x : Option (Option Value)} (h : isNN x = true) : x = some none := by
  cases x with
  | none => cases h
  | some y => cases y with
    | none => rfl
    | some _ => cases h
noncomputable def isBi (i : String) : Option (Option Value) → Bool
  | some (some (.builtin j)) => j == i
  | _ => false
theorem isBi_eq {i : String} {x : Option (Option Value)} (h : isBi i x = true) : x = some (some (.builtin i)) := by
  unfold isBi at h
  split at h
  · rw [beq_iff_eq.mp h]
  · cases h
noncomputable def isRf (f : Nat) : Option (Option Value) → Bool
  | some (some (.ref j)) => Nat.beq j f
  | _ => false
theorem isRf_eq {i : Nat} {x : Option (Option Value)} (h : isRf i x = true) : x = some (some (.ref i)) := by
  unfold isRf at h
  split at h
  · rw [Nat.eq_of_beq_eq_true h]
  · cases h
noncomputable def okCls (K : Frag) (C : Nat) : Bool := plainGet K C Str.empty && hasDictIn K C && plainOver K C && isBi "object.__setattr__" (findIn K (.ref C) "__setattr__") && (attrTab C).all fun x => isNN (findIn K (.ref C) (Str.ofString x))
noncomputable abbrev clsList : List Nat := instList
theorem okCls_all (P : Params) : clsList.all (okCls (KF P)) = true := by kernel_rfl
theorem mem_clsList {C : Nat} {x : String} (h : (attrTab C).contains x = true) : C ∈ clsList := by
  unfold attrTab at h
  split at h <;> first | decide | (exact absurd h (by simp))
structure ClsOk (K : Frag) (C : Nat) : Prop where
  get : ∀ n, plainGet K C n = true
  dict : hasDictIn K C = true
  over : plainOver K C = true
  set : findIn K (.ref C) "__setattr__" = some (some (.builtin "object.__setattr__"))
theorem clsOk {w : World} {C : Nat} (h : C ∈ clsList) : ClsOk (KK w) C ∧ ∀ x, (attrTab C).contains x = true → findIn (KK w) (.ref C) (Str.ofString x) = some none := by
  have := List.all_eq_true.mp (okCls_all w.params) C h
  unfold okCls at this
  simp only [Bool.and_eq_true] at this
  obtain ⟨⟨⟨⟨a, b⟩, c⟩, d⟩, e⟩ := this
  exact ⟨⟨fun n => a, b, c, isBi_eq d⟩, fun x hx => isNN_eq (List.all_eq_true.mp e x (List.contains_iff_mem.mp hx))⟩
theorem cps_inj {x y : String} (h : Str.ofString x = Str.ofString y) : x = y := by
  rw [Str.ofString_eq_toList, Str.ofString_eq_toList] at h
  have h1 : (x.toList.map Char.toNat) = (y.toList.map Char.toNat) := by
    have := congrArg Str.cps h
    simpa using this
  have h2 : x.toList = y.toList := by
    have inj : Function.Injective Char.toNat := fun a b e => by
      apply Char.ext
      apply UInt32.toNat_inj.mp
      exact e
    exact (List.map_inj_right fun a b e => inj e).mp h1
  exact String.toList_inj.mp h2
noncomputable def optB (x : Option Bool) (b : Bool) : Bool := match x with
  | some c => c == b
  | none => false
theorem optB_eq {x : Option Bool} {b : Bool} (h : optB x b = true) : x = some b := by
  unfold optB at h
  split at h
  · rw [beq_iff_eq.mp h]
  · cases h
noncomputable def okIsi (K : Frag) (D : Nat) : Bool := isBi "object.__class__" (findIn K (.ref D) "__class__") && optB (mroIn K D (.type "object")) true && isClass.all fun C => optB (kitOne K (.ref D) (.ref C)) (subTab D C)
theorem okIsi_all (P : Params) : clsList.all (okIsi (KF P)) = true := by kernel_rfl
theorem okIsiN_all (P : Params) : (isBi "getset_descriptor.__get__" (specialIn (KF P) (.builtin "object.__class__") "__get__") && optB (takesIn (KF P) (.builtin "object.__class__")) true &&
  isClass.all fun C => optB (kitOne (KF P) (.type "NoneType") (.ref C)) false) = true := by kernel_rfl
section
variable {w : World} {A : Around} {E : Value → Shared → Prop} {s : Shared} {Q : Value → Shared → Prop}
theorem isi_inst {x C D : Addr} {ox od : Obj} (X : (KK w).In s.heap) (I : PySem.W.InstAt s.heap x ox D (some od)) (hD : D ∈ clsList) (hC : C ∈ isClass) (h : ∀ tk, Q (.bool (subTab D C)) { s with toks := tk }) :
    wpAny (model PR w) A (call (.builtin "isinstance") [.ref x, .ref C]) Q E s := by
  have a := List.all_eq_true.mp (okIsi_all w.params) D hD
  have b := okIsiN_all w.params
  obtain ⟨k, _⟩ := clsOk (w := w) hD
  unfold okIsi at a
  simp only [Bool.and_eq_true] at a b
  obtain ⟨⟨a1, a2⟩, a3⟩ := a
  obtain ⟨⟨b1, b2⟩, _⟩ := b
  exact kia_one (kitx_own (k.get _) k.dict (isBi_eq a1) (isBi_eq b1) (optB_eq b2) (optB_eq a2)) X I (optB_eq (List.all_eq_true.mp a3 C hC)) (by intro e; cases e) h
theorem isi_none {C : Addr} (X : (KK w).In s.heap) (hC : C ∈ isClass) (h : ∀ tk, Q (.bool false) { s with toks := tk }) :
    wpAny (model PR w) A (call (.builtin "isinstance") [.none, .ref C]) Q E s := by
  have b := okIsiN_all w.params
  simp only [Bool.and_eq_true] at b
  exact kia_one kitx_none X trivial (optB_eq (List.all_eq_true.mp b.2 C hC)) (by intro e; cases e) h
end
end Mine
end
section
open PySem PySem.W PySem.Calls PyProof.Rows
set_option maxRecDepth 100000
namespace Mine
theorem isStr_eq (n m : Str) (t : Tok) : (Value.str m t).isStr n = decide (m = n) := by
  show (m == n) = _
  by_cases h : m = n <;> simp [h]
theorem refKey_str {e : DictEntry} {x : Str} {t : Tok} (h : e.key = .str x t) : e.refKey = false := by
  unfold DictEntry.refKey
  rw [h]
theorem ent_find {P : Params} {ad : AD} {fs : List (String × MV)} {es : List DictEntry} (h : All2 (EntR P ad) fs es) {x : String} {v : MV} (hx : getL' x fs = some v) :
    ∃ u, PySem.W.getL (Str.ofString x) es = some (some u) ∧ VR ad v u := by
  induction h with
  | nil => cases hx
  | @cons f e fs es r hr ih =>
    obtain ⟨y, u⟩ := f
    obtain ⟨_, ⟨t, hk⟩, hv⟩ := r
    dsimp only at hk hv
    unfold getL' at hx
    unfold PySem.W.getL at ih ⊢
    rw [List.find?_cons, hk, isStr_eq]
    by_cases q : y = x
    · subst q
      rw [if_pos rfl] at hx
      cases hx
      simp only [decide_true]
      exact ⟨_, rfl, hv⟩
    · rw [if_neg q] at hx
      have : ¬ Str.ofString y = Str.ofString x := fun e => q (cps_inj e)
      simp only [decide_eq_false this]
      obtain ⟨w, h1, h2⟩ := ih hx
      refine ⟨w, ?_, h2⟩
      rw [← h1]
      cases List.find? (fun x_1 => x_1.key.isStr (Str.ofString x)) es with
      | some _ => rfl
      | none =>
        dsimp only
        rw [List.any_cons, refKey_str hk, Bool.false_or]
theorem ent_keys {P : Params} {ad : AD} {fs : List (String × MV)} {es : List DictEntry} (h : All2 (EntR P ad) fs es) : es.any (·.refKey) = false := by
  induction h with
  | nil => rfl
  | cons r _ ih =>
    obtain ⟨_, ⟨t, hk⟩, _⟩ := r
    rw [List.any_cons, ih, refKey_str hk]; rfl
theorem ent_none {P : Params} {ad : AD} {fs : List (String × MV)} {es : List DictEntry} (h : All2 (EntR P ad) fs es) {x : String} (hx : getL' x fs = none) :
    PySem.W.getL (Str.ofString x) es = some none := by
  induction h with
  | nil => rfl
  | @cons f e fs es r hr ih =>
    obtain ⟨y, u⟩ := f
    obtain ⟨_, ⟨t, hk⟩, hv⟩ := r
    dsimp only at hk hv
    unfold getL' at hx
    unfold PySem.W.getL at ih ⊢
    rw [List.find?_cons, hk, isStr_eq]
    by_cases q : y = x
    · rw [if_pos q] at hx; cases hx
    · rw [if_neg q] at hx
      have : ¬ Str.ofString y = Str.ofString x := fun e => q (cps_inj e)
      simp only [decide_eq_false this]
      have h1 := ih hx
      refine Eq.trans ?_ h1
      cases List.find? (fun x_1 => x_1.key.isStr (Str.ofString x)) es with
      | some _ => rfl
      | none =>
        dsimp only
        rw [List.any_cons, refKey_str hk, Bool.false_or]
theorem ent_put {P : Params} {ad : AD} {fs : List (String × MV)} {es : List DictEntry} (h : All2 (EntR P ad) fs es) (x : String) {v : MV} {u : Value} {t : Tok} (hv : VR ad v u) :
    All2 (EntR P ad) (setL x v fs) (putL (Str.ofString x) (PyData.keyHash P (Str.ofString x)) (.str (Str.ofString x) t) u es) := by
  induction h with
  | nil => exact .cons ⟨rfl, ⟨t, rfl⟩, hv⟩ .nil
  | @cons f e fs es r hr ih =>
    obtain ⟨y, z⟩ := f
    obtain ⟨hh, ⟨t', hk⟩, hz⟩ := r
    dsimp only at hk hz hh
    unfold setL putL
    rw [hk, isStr_eq]
    by_cases q : y = x
    · subst q
      rw [if_pos rfl]
      simp only [decide_true, if_true]
      exact .cons ⟨hh, ⟨t', rfl⟩, hv⟩ hr
    · rw [if_neg q]
      have : ¬ Str.ofString y = Str.ofString x := fun e => q (cps_inj e)
      simp only [decide_eq_false this, Bool.false_eq_true, if_false]
      exact .cons ⟨hh, ⟨t', hk⟩, hz⟩ ih
theorem setL_length (x : String) (v : MV) (fs : List (String × MV)) : (setL x v fs).length ≤ fs.length + 1 := by
  induction fs with
  | nil => simp [setL]
  | cons f fs ih =>
    obtain ⟨y, u⟩ := f
    unfold setL
    split <;> simp <;> lia
theorem instAt {h : Heap} {x dx C : Addr} {od : Obj} (h1 : h.get? x = some (instObj C dx)) (h2 : h.get? dx = some od) : PySem.W.InstAt h x (instObj C dx) C (some od) := ⟨h1, rfl, rfl, h2⟩
section
variable {w : World} {A : Around} {E : Value → Shared → Prop} {s : Shared}
theorem handed_ok {ad : AD} {m : MV} {v : Value} (h : VR ad m v) (k : okV m = true) : handedIn v = true := by
  cases h <;> first | rfl | cases k
theorem getAttr_inst {x dx C : Addr} {fs : List (String × MV)} {es : List DictEntry} {ep : Nat} {ad : AD} {n : String} {m : MV} {expr : Bool} {Q : Value → Shared → Prop} (X : (KK w).In s.heap)
    (h1 : s.heap.get? x = some (instObj C dx)) (h2 : s.heap.get? dx = some (dictOf es ep)) (h3 : All2 (EntR w.params ad) fs es) (hc : (attrTab C).contains n = true) (hm : getL' n fs = some m) (hk : okV m = true)
    (h : ∀ v, VR ad m v → Q v { s with toks := s.toks + 1 }) : wpAny (model PR w) A (getAttr (.ref x) (Str.ofString n) expr) Q E s := by
  obtain ⟨ko, kn⟩ := clsOk (w := w) (mem_clsList hc)
  obtain ⟨u, hu, hv⟩ := ent_find h3 hm
  refine get_value X (instAt h1 h2) (plainGet_of (ko.get Str.empty)).1 (findObj_own ko.dict (kn n hc) rfl ?_) (handed_ok hv hk) (h u hv)
  rw [lookIn_dict, hu]
theorem setAttr_inst {x dx C : Addr} {fs : List (String × MV)} {es : List DictEntry} {ep : Nat} {ad : AD} {n : String} {m : MV} {v : Value} {Q : Unit → Shared → Prop} (X : (KK w).In s.heap)
    (h1 : s.heap.get? x = some (instObj C dx)) (h2 : s.heap.get? dx = some (dictOf es ep)) (h3 : All2 (EntR w.params ad) fs es) (hc : (attrTab C).contains n = true) (hl : fs.length < 100) (hv : VR ad m v)
    (h : ∀ h' es' ep', Heap.SameBut dx s.heap h' → h'.get? dx = some (dictOf es' ep') → All2 (EntR w.params ad) (setL n m fs) es' → Q () { s with heap := h', toks := s.toks + 1 + 1 }) :
    wpAny (model PR w) A (setAttr (.ref x) (Str.ofString n) v) Q E s := by
  obtain ⟨ko, kn⟩ := clsOk (w := w) (mem_clsList hc)
  have I := instAt h1 h2
  refine set_plain X I ko.set (osa_open (s := { s with toks := s.toks + 1 }) X I ko.over (r := none) ?_ fun b => ?_)
  · unfold takerIn
    rw [kn n hc]; rfl
  obtain ⟨cd, hcc, hd'⟩ := any_some ko.dict
  have X' : (KK w).In ({ s with toks := s.toks + 1 } : Shared).heap := X
  refine wpAny_bind (wpAny_pure (wpAny_bind (wpAny_bind (wpAny_loadPart h1 (wpAny_bind ((looks_clsIn X' hcc).here ?_))))))
  rw [hd']
  refine wpAny_pure (a := some dx) (wpAny_bind (wpAny_pure (wpAny_bind ?_)))
  unfold nsSet
  refine wpAny_bind (wpAny_bind (wpAny_askSetting (wpAny_pure (wpAny_bind (wpAny_mkText (wpAny_bind (wpAny_loadPart h2 ?_)))))))
  have c : (!es.toArray.any (·.key.isStr (Str.ofString n)) && es.toArray.any (·.refKey)) = false := by
    rw [List.any_toArray, List.any_toArray, ent_keys h3, Bool.and_false]
  dsimp only
  rw [aRefKeyMayBeTheName_at, c]
  have upd : (s.heap.update dx (Obj.putName (Str.ofString n) (PyData.keyHash w.params (Str.ofString n)) (.str (Str.ofString n) (s.toks + 1)) v)).get? dx =
      some (dictOf (putL (Str.ofString n) (PyData.keyHash w.params (Str.ofString n)) (.str (Str.ofString n) (s.toks + 1)) v es) (putN (Str.ofString n) es ep)) := by
    rw [Heap.get?_update_self _ h2 (by rw [putName_dict]; rfl), putName_dict]
  have pt := ent_put h3 n (t := s.toks + 1) hv
  refine wpAny_updatePart h2 ?_
  refine wpAny_bind (wpAny_lookBehind upd (pastItsLine_dict ?_) ?_)
  · rw [List.size_toArray, sizeLine_eq, ← pt.length]
    have := setL_length n m fs
    lia
  · exact wpAny_pure (h _ _ _ (Heap.SameBut.update ..) upd pt)
end
end Mine
end
section
open PySem PySem.W PySem.Calls PyProof.Rows
set_option maxRecDepth 100000
namespace Mine
structure Room (A : Around) (n : Nat) : Prop where
  hand : A.handled = none
  depth : A.depth + 4 * n + 10 < 1000
  units : A.units + 20 * n + 200 < 9900
structure Bs (w : World) (base : Heap) : Prop where
  k : (KK w).In base
  limit : base.NoLimit
noncomputable abbrev Cont (w : World) (base : Heap) (σ' : MS) (ad : AD) (r : MV) (s : Shared) (Q : Value → Shared → Prop) : Prop :=
  ∀ ad' h' tk v, Step ad s.heap ad' h' → HR w base σ' ad' h' → VR ad' r v → Q v { s with heap := h', toks := tk }
structure BiM (w : World) (base : Heap) (f : Value) (args : List MV) (σ : MS) (v : MV) (σ' : MS) : Prop where
  go : ∀ {ad : AD} {A : Around} {s : Shared} {E Q : Value → Shared → Prop} {vs : List Value}, Room A 0 → HR w base σ ad s.heap → All2 (VR ad) args vs → Cont w base σ' ad v s Q → wpAny (model PR w) A (call f vs) Q E s
section
variable {α β : Type} {R : α → β → Prop} {a b : α} {vs : List β}
theorem all1 (h : All2 R [a] vs) : ∃ x, vs = [x] ∧ R a x := by cases h with | cons r t => cases t; exact ⟨_, rfl, r⟩
theorem all2 (h : All2 R [a, b] vs) : ∃ x y, vs = [x, y] ∧ R a x ∧ R b y := by cases h with | cons r t => cases t with | cons r' t => cases t; exact ⟨_, _, rfl, r, r'⟩
end
section
variable {w : World} {base : Heap} {σ σ' : MS} {ad : AD} {A : Around} {E : Value → Shared → Prop} {s : Shared} {Q : Value → Shared → Prop} {r v u : MV} {n m i j : Nat} {us : List MV} {o : MO}
theorem VR.isInt {k : Int} {u : Value} (h : VR ad (.int k) u) : ∃ t, u = .int k t := by cases h; exact ⟨_, rfl⟩
theorem VR.isStr {k : Str} {u : Value} (h : VR ad (.str k) u) : ∃ t, u = .str k t := by cases h; exact ⟨_, rfl⟩
theorem VR.isTop {a : Nat} {u : Value} (h : VR ad (.top a) u) : u = .ref a := by cases h; rfl
theorem HR.at (x : HR w base σ ad s.heap) {u : Value} (g : σ.obj n = some o) (v : VR ad (.loc n) u) : ∃ p, ad[n]? = some p ∧ u = .ref p.1 ∧ ObjAt w base ad s.heap p o := by
  obtain ⟨p, hp, r⟩ := x.obj _ _ g
  cases v with
  | loc h => rw [hp] at h; cases h; exact ⟨p, hp, rfl, r⟩
theorem Cont.same (k : Cont w base σ ad r s Q) (x : HR w base σ ad s.heap) {v : Value} (hv : VR ad r v) (tk : Nat) : Q v { s with toks := tk } :=
  k ad s.heap tk v (.refl _ _) x hv
theorem isL {h : Heap} {a : Addr} {rs : Array Value} {n : Nat} (e : h.get? a = some (listOf rs n)) : h.IsList a rs := ⟨_, e, rfl, n, rfl⟩
theorem HR.fresh (x : HR w base σ ad s.heap) {a : Addr} (ha : s.heap.objs.size ≤ a) : s.heap.get? a = none :=
  Heap.get?_none_of_le ha
theorem HR.new1 (x : HR w base σ ad s.heap) {h' : Heap} {a : Addr} {o : MO} (hk : ∀ b ob, s.heap.get? b = some ob → h'.get? b = some ob)
    (ha : s.heap.get? a = none) (he : ∃ ob, h'.get? a = some ob) (ho : ObjAt w base (ad ++ [(a, a)]) h' (a, a) o) :
    HR w base (σ.new o) (ad ++ [(a, a)]) h' ∧ Step ad s.heap (ad ++ [(a, a)]) h' ∧ VR (ad ++ [(a, a)]) (.loc σ.next) (.ref a) := by
  have := x.new (p := (a, a)) (o := o) hk (fun b hb => by
    have : b = a := by rcases hb with e | e <;> exact e
    subst this; exact ⟨ha, he⟩) ho
  exact ⟨this.1, this.2, .loc (x.at_new (a, a))⟩
theorem new_list (x : HR w base σ ad s.heap) {h' : Heap} {a : Addr} {rs : List Value} {n : Nat} {vs : List MV} (hk : ∀ b ob, s.heap.get? b = some ob → h'.get? b = some ob)
    (ha : s.heap.get? a = none) (ho : h'.get? a = some (listOf rs.toArray n)) (hv : All2 (VR ad) vs rs) : HR w base (σ.new (.list vs)) (ad ++ [(a, a)]) h' ∧ Step ad s.heap (ad ++ [(a, a)]) h' ∧ VR (ad ++ [(a, a)]) (.loc σ.next) (.ref a) :=
  x.new1 hk ha ⟨_, ho⟩ ⟨rs, n, ho, hv.mono fun _ _ r => r.mono (.snoc _ _)⟩
theorem HR.put1 (x : HR w base σ ad s.heap) {p : Addr × Addr} {o : MO} {h' : Heap} (hp : ad[n]? = some p) (hs : Heap.SameBut p.1 s.heap h') (he : ∃ ob, h'.get? p.1 = some ob)
    (ho : ObjAt w base ad h' p o) : HR w base (σ.put n o) ad h' ∧ Step ad s.heap ad h' :=
  x.put hp (fun b ob nb e => (hs.2 b fun z => nb (.inl z)).trans e) (fun b ob => by
    by_cases z : b = p.1
    · rw [z]; exact he
    · obtain ⟨_, o, d⟩ := x.off n p b hp ob
      exact ⟨o, (hs.2 b z).trans d⟩) ho
theorem im_len (g : σ.obj n = some (.list us)) (c : us.length < 1000) : BiM w base (.builtin "len") [.loc n] σ (.int us.length) σ := ⟨fun R x ha k => by
  obtain ⟨_, rfl, v⟩ := all1 ha
  obtain ⟨p, hp, rfl, rs, c, ho, hv⟩ := x.at g v
  have hl := hv.length
  refine call_len_list (isL ho) (by rw [List.size_toArray]; lia) ?_
  rw [List.size_toArray, ← hl]
  exact k.same x (.int _ _) _⟩
theorem im_lenI {es : List (Int × MV)} (g : σ.obj n = some (.dI es)) (c : es.length < 1000) : BiM w base (.builtin "len") [.loc n] σ (.int es.length) σ := ⟨fun R x ha k => by
  obtain ⟨_, rfl, v⟩ := all1 ha
  obtain ⟨p, hp, rfl, lo, rs, ho, hv⟩ := x.at g v
  have hl := hv.length
  refine call_len_dict lo ho (by lia) ?_
  rw [← hl]
  exact k.same x (.int _ _) _⟩
theorem im_lenS {es : List (Str × MV)} (g : σ.obj n = some (.dS es)) (c : es.length < 1000) : BiM w base (.builtin "len") [.loc n] σ (.int es.length) σ := ⟨fun R x ha k => by
  obtain ⟨_, rfl, v⟩ := all1 ha
  obtain ⟨p, hp, rfl, lo, rs, ho, hv⟩ := x.at g v
  have hl := hv.length
  refine call_len_dict lo ho (by lia) ?_
  rw [← hl]
  exact k.same x (.int _ _) _⟩
theorem im_maxL {a b : Int} (h : ¬ b > a) : BiM w base (.builtin "max") [.int a, .int b] σ (.int a) σ := ⟨fun R x ha k => by
  obtain ⟨_, _, rfl, v, u⟩ := all2 ha
  obtain ⟨_, rfl⟩ := v.isInt
  obtain ⟨_, rfl⟩ := u.isInt
  refine max_two_ints R.hand fun h' tk hk => ?_
  rw [if_neg h]; exact k _ h' tk _ (.keeps hk) (x.keep hk) (.int _ _)⟩
theorem im_maxR {a b : Int} (h : b > a) : BiM w base (.builtin "max") [.int a, .int b] σ (.int b) σ := ⟨fun R x ha k => by
  obtain ⟨_, _, rfl, v, u⟩ := all2 ha
  obtain ⟨_, rfl⟩ := v.isInt
  obtain ⟨_, rfl⟩ := u.isInt
  refine max_two_ints R.hand fun h' tk hk => ?_
  rw [if_pos h]; exact k _ h' tk _ (.keeps hk) (x.keep hk) (.int _ _)⟩
theorem im_isi (B : Bs w base) {D K : Nat} {fs : List (String × MV)} {p : Bool} (g : σ.obj n = some (.inst K fs)) (h : isClass.contains D = true) (h2 : instList.contains K = true) (h3 : subTab K D = p) : BiM w base (.builtin "isinstance") [.loc n, .top D] σ (.bool p) σ := ⟨fun R x ha k => by
  obtain ⟨_, _, rfl, v, u⟩ := all2 ha
  cases u.isTop
  obtain ⟨q, hp, rfl, h1, es, ep, h2', h3'⟩ := x.at g v
  subst h3
  exact isi_inst (B.k.keeps x.stays) (instAt h1 h2') (List.contains_iff_mem.mp h2) (List.contains_iff_mem.mp h) fun tk => k.same x (.bool _) tk⟩
theorem im_isiN (B : Bs w base) {D : Nat} (h : isClass.contains D = true) : BiM w base (.builtin "isinstance") [.none, .top D] σ (.bool false) σ := ⟨fun R x ha k => by
  obtain ⟨_, _, rfl, v, u⟩ := all2 ha
  cases u.isTop
  cases v
  exact isi_none (B.k.keeps x.stays) (List.contains_iff_mem.mp h) fun tk => k.same x (.bool _) tk⟩
theorem im_str {z : Int} (hi : 0 ≤ z ∧ z < 10) : BiM w base (.type "str") [.int z] σ (.str (Str.ofString (toString z))) σ := ⟨fun R x ha k => by
  obtain ⟨_, rfl, v⟩ := all1 ha
  obtain ⟨_, rfl⟩ := v.isInt
  refine PySem.P.str_of_int ?_ (k.same x (.str _ _) _)
  have : z.natAbs < 10 := by lia
  have h2 : z.natAbs.log2 ≤ z.natAbs := by
    by_cases q : z.natAbs = 0
    · rw [q]; decide
    · exact Nat.le_of_lt ((Nat.log2_lt q).mpr (Nat.lt_two_pow_self))
  lia⟩
theorem im_append (g : σ.obj n = some (.list us)) (c : us.length < 1000) : BiM w base (.builtin "list.append") [.loc n, v] σ .none (σ.put n (.list (us ++ [v]))) := ⟨fun R x ha k => by
  obtain ⟨_, _, rfl, hv, hu⟩ := all2 ha
  obtain ⟨p, hp, rfl, rs, c, ho, hrs⟩ := x.at g hv
  have hl := hrs.length
  refine append_at ho (fun h' hs ho' => ?_) (by rw [List.size_toArray, sizeLine_eq]; lia)
  obtain ⟨x', st⟩ := x.put1 (o := .list (us ++ [v])) hp (h' := h') hs ⟨_, ho'⟩ ⟨rs ++ [_], c + 1, by rw [ho']; simp, hrs.append (.cons hu .nil)⟩
  exact k _ h' _ _ st x' .none⟩
end
end Mine
end
section
open PySem PySem.W PySem.Calls PyProof.Rows
set_option maxRecDepth 100000
namespace Mine
inductive OptR {α β : Type} (R : α → β → Prop) : Option α → Option β → Prop
  | none : OptR R none none
  | some {a b} : R a b → OptR R (some a) (some b)
section
variable {K : Type} [DecidableEq K] {ad : AD}
theorem kv_find {es : List (K × MV)} {rs : List (K × Value)} (h : All2 (KvR ad) es rs) (k : K) : OptR (VR ad) ((es.find? (fun e => e.1 = k)).map (·.2)) (valueAt rs k) := by
  unfold valueAt
  induction h with
  | nil => exact .none
  | @cons a b as bs r t ih =>
    obtain ⟨r1, r2⟩ := r
    rw [List.find?_cons, List.find?_cons, r1]
    by_cases q : b.1 = k
    · simp only [decide_eq_true q]; exact .some r2
    · simp only [decide_eq_false q]; exact ih
theorem kv_any {es : List (K × MV)} {rs : List (K × Value)} (h : All2 (KvR ad) es rs) (k : K) : es.any (fun e => e.1 = k) = rs.any (fun e => e.1 = k) := by
  induction h with
  | nil => rfl
  | @cons a b as bs r t ih =>
    rw [List.any_cons, List.any_cons, r.1, ih]
theorem kv_stored {es : List (K × MV)} {rs : List (K × Value)} (h : All2 (KvR ad) es rs) (k : K) {m : MV} {v : Value} (hv : VR ad m v) :
    All2 (KvR ad) (if es.any (fun e => e.1 = k) then es.map (fun e => if e.1 = k then (e.1, m) else e) else es ++ [(k, m)]) (stored rs k v) := by
  unfold stored
  rw [kv_any h k]
  by_cases q : rs.any (fun e => e.1 = k) = true
  · rw [if_pos q, if_pos q]
    refine h.map fun a b r => ?_
    obtain ⟨r1, r2⟩ := r
    rw [r1]
    by_cases z : b.1 = k
    · rw [if_pos z, if_pos z]; exact ⟨rfl, hv⟩
    · rw [if_neg z, if_neg z]; exact ⟨r1, r2⟩
  · rw [if_neg q, if_neg q]
    exact h.append (.cons ⟨rfl, hv⟩ .nil)
theorem kv_without {es : List (K × MV)} {rs : List (K × Value)} (h : All2 (KvR ad) es rs) (k : K) : All2 (KvR ad) (es.filter fun e => decide (e.1 ≠ k)) (without rs k) := by
  unfold without
  induction h with
  | nil => exact .nil
  | @cons a b as bs r t ih =>
    rw [List.filter_cons, List.filter_cons, r.1]
    by_cases q : b.1 = k
    · simp only [decide_eq_false (fun z : b.1 ≠ k => z q), Bool.false_eq_true, if_false]; exact ih
    · simp only [ne_eq, q, not_false_eq_true, decide_true, if_true]; exact .cons r ih
end
section
variable {w : World} {base : Heap} {σ σ' : MS} {ad : AD} {A : Around} {E : Value → Shared → Prop} {s : Shared} {Q : Value → Shared → Prop} {r u v : MV} {n i : Nat}
section
variable {K : Type} [DecidableEq K] {knd : KeyKind PR w K} {d : Addr} {rs : List (K × Value)} {k : K} {key : Value}
theorem get_k (hkey : knd.is k key = true) (hd : (d == sysModules) = false) (D : s.heap.DictOf knd d rs) (h : Q ((valueAt rs k).getD .none) { s with toks := s.toks + 1 }) :
    wpAny (model PR w) A (call (.builtin "dict.get") [.ref d, key]) Q E s :=
  call_meetsIn PySem.F.slot_dict_get D.typeIs PySem.F.entry_dict_get (PySem.F.args_dict_get_2 _ _) (meets_dict_get knd d hkey hd) ⟨_, D.mapOf, h⟩
theorem pop_k (hkey : knd.is k key = true) (D : s.heap.DictOf knd d rs) (hl : rs.length < 1000) (hp : (keyPart key).isSome = true) {rest : List Value} (hr : rest = [] ∨ ∃ x, rest = [x]) {v : Value} (hv : valueAt rs k = some v)
    (h : ∀ h', h'.DictOf knd d (without rs k) → Heap.SameBut d s.heap h' → Q v { s with heap := h', toks := s.toks + 1 }) :
    wpAny (model PR w) A (call (.builtin "dict.pop") (.ref d :: key :: rest)) Q E s := by
  have hz : rs.length ≤ sizeLine := by rw [sizeLine_eq]; lia
  rcases hr with rfl | ⟨x, rfl⟩
  · exact call_meetsIn PySem.F.slot_dict_pop D.typeIs PySem.F.entry_dict_pop (PySem.F.args_dict_pop_2 _ _) (meets_dict_pop_there knd d hkey [] (.inl rfl) hp) ⟨_, _, D, hz, hv, h⟩
  · exact call_meetsIn PySem.F.slot_dict_pop D.typeIs PySem.F.entry_dict_pop (PySem.F.args_dict_pop_3 _ _ _) (meets_dict_pop_there knd d hkey [x] (.inr ⟨x, rfl⟩) hp) ⟨_, _, D, hz, hv, h⟩
theorem pop_n (hkey : knd.is k key = true) (hd : (d == sysModules) = false) (D : s.heap.DictOf knd d rs) (hp : (keyPart key).isSome = true) {x : Value} (hv : valueAt rs k = none)
    (h : Q x { s with toks := s.toks + 1 }) : wpAny (model PR w) A (call (.builtin "dict.pop") [.ref d, key, x]) Q E s :=
  call_meetsIn PySem.F.slot_dict_pop D.typeIs PySem.F.entry_dict_pop (PySem.F.args_dict_pop_3 _ _ _) (meets_dict_pop_default knd d hkey hd hp x) ⟨_, D, hv, h⟩
end
theorem dict_empty {d : Addr} {h : Heap} (D : h.DictOf (PySem.intKind PR w) d []) : h.DictOf (PySem.strKind PR w) d [] := by
  obtain ⟨o, es, ep, ho, hc, hd, hk, hp, hn⟩ := D
  have : es.toList = [] := by cases e : es.toList with
    | nil => rfl
    | cons a b => rw [e] at hp; cases hp
  refine ⟨o, es, ep, ho, hc, hd, fun e he => ?_, by rw [this]; exact .nil, List.nodup_nil⟩
  have : e ∈ es.toList := Array.mem_toList_iff.mpr he
  simp_all
structure DK (w : World) (K : Type) [DecidableEq K] where
  knd : KeyKind PR w K
  ob : List (K × MV) → MO
  key : K → MV
  at_ : ∀ {base : Heap} {ad : AD} {h : Heap} {p : Addr × Addr} {es : List (K × MV)}, ObjAt w base ad h p (ob es) ↔ ((p.1 == sysModules) = false ∧ ∃ rs, h.DictOf knd p.1 rs ∧ All2 (KvR ad) es rs)
  is_ : ∀ {ad : AD} {k : K} {v : Value}, VR ad (key k) v → knd.is k v = true ∧ (keyPart v).isSome = true
@[reducible] noncomputable def dkI (w : World) : DK w Int := ⟨PySem.intKind PR w, .dI, .int, Iff.rfl, fun h => by cases h; exact ⟨intKind_is PR w _ _, rfl⟩⟩
@[reducible] noncomputable def dkS (w : World) : DK w Str := ⟨PySem.strKind PR w, .dS, .str, Iff.rfl, fun h => by cases h; exact ⟨strKind_is PR w _ _, rfl⟩⟩
theorem dictOf_get {K : Type} [DecidableEq K] {knd : KeyKind PR w K} {h : Heap} {d : Addr} {rs : List (K × Value)} (D : h.DictOf knd d rs) : ∃ ob, h.get? d = some ob :=
  let ⟨o, _, _, ho, _⟩ := D; ⟨o, ho⟩
section
variable {K : Type} [DecidableEq K] (D : DK w K) {es : List (K × MV)} {k k' : K}
theorem kv_at {rs : List (K × Value)} (h : All2 (KvR ad) es rs) (hf : es.find? (fun e => e.1 = k) = some (k', v)) : ∃ z, valueAt rs k = some z ∧ VR ad v z := by
  have := kv_find h k
  rw [hf] at this
  cases q : valueAt rs k with
  | none => rw [q] at this; cases this
  | some z => rw [q] at this; cases this with | some r => exact ⟨z, rfl, r⟩
theorem kv_no {rs : List (K × Value)} (h : All2 (KvR ad) es rs) (hf : es.find? (fun e => e.1 = k) = none) : valueAt rs k = none := by
  have := kv_find h k
  rw [hf] at this
  cases q : valueAt rs k with
  | none => rfl
  | some z => rw [q] at this; cases this
theorem im_get1 (g : σ.obj n = some (D.ob es)) (hf : es.find? (fun e => e.1 = k) = some (k', v)) : BiM w base (.builtin "dict.get") [.loc n, D.key k] σ v σ := ⟨fun R x ha q => by
  obtain ⟨_, _, rfl, hv, hu⟩ := all2 ha
  obtain ⟨p, hp, rfl, ho⟩ := x.at g hv
  obtain ⟨lo, rs, D', hr⟩ := D.at_.mp ho
  obtain ⟨z, h1, h2⟩ := kv_at hr hf
  refine get_k (D.is_ hu).1 lo D' ?_
  rw [h1]; exact q.same x h2 _⟩
theorem im_get0 (g : σ.obj n = some (D.ob es)) (hf : es.find? (fun e => e.1 = k) = none) : BiM w base (.builtin "dict.get") [.loc n, D.key k] σ .none σ := ⟨fun R x ha q => by
  obtain ⟨_, _, rfl, hv, hu⟩ := all2 ha
  obtain ⟨p, hp, rfl, ho⟩ := x.at g hv
  obtain ⟨lo, rs, D', hr⟩ := D.at_.mp ho
  refine get_k (D.is_ hu).1 lo D' ?_
  rw [kv_no hr hf]; exact q.same x .none _⟩
theorem im_pop1 (g : σ.obj n = some (D.ob es)) (hf : es.find? (fun e => e.1 = k) = some (k', v)) (c : es.length < 1000) : BiM w base (.builtin "dict.pop") [.loc n, D.key k] σ v (σ.put n (D.ob (es.filter fun e => decide (e.1 ≠ k)))) := ⟨fun R x ha q => by
  obtain ⟨_, _, rfl, hv, hu⟩ := all2 ha
  obtain ⟨p, hp, rfl, ho⟩ := x.at g hv
  obtain ⟨lo, rs, D', hr⟩ := D.at_.mp ho
  obtain ⟨z, h1, h2⟩ := kv_at hr hf
  have hl := hr.length
  refine pop_k (D.is_ hu).1 D' (by lia) (D.is_ hu).2 (.inl rfl) h1 fun h' D2 hs => ?_
  obtain ⟨x', st⟩ := x.put1 hp hs (dictOf_get D2) (D.at_.mpr ⟨lo, _, D2, kv_without hr k⟩)
  exact q _ h' _ _ st x' h2⟩
theorem im_pop2 (g : σ.obj n = some (D.ob es)) (hf : es.find? (fun e => e.1 = k) = some (k', v)) (c : es.length < 1000) : BiM w base (.builtin "dict.pop") [.loc n, D.key k, u] σ v (σ.put n (D.ob (es.filter fun e => decide (e.1 ≠ k)))) := ⟨fun R x ha q => by
  cases ha with
  | cons hv ha =>
  obtain ⟨_, _, rfl, hu, hd⟩ := all2 ha
  obtain ⟨p, hp, rfl, ho⟩ := x.at g hv
  obtain ⟨lo, rs, D', hr⟩ := D.at_.mp ho
  obtain ⟨z, h1, h2⟩ := kv_at hr hf
  have hl := hr.length
  refine pop_k (D.is_ hu).1 D' (by lia) (D.is_ hu).2 (.inr ⟨_, rfl⟩) h1 fun h' D2 hs => ?_
  obtain ⟨x', st⟩ := x.put1 hp hs (dictOf_get D2) (D.at_.mpr ⟨lo, _, D2, kv_without hr k⟩)
  exact q _ h' _ _ st x' h2⟩
theorem im_pop0 (g : σ.obj n = some (D.ob es)) (hf : es.find? (fun e => e.1 = k) = none) : BiM w base (.builtin "dict.pop") [.loc n, D.key k, u] σ u σ := ⟨fun R x ha q => by
  cases ha with
  | cons hv ha =>
  obtain ⟨_, _, rfl, hu, hd⟩ := all2 ha
  obtain ⟨p, hp, rfl, ho⟩ := x.at g hv
  obtain ⟨lo, rs, D', hr⟩ := D.at_.mp ho
  exact pop_n (D.is_ hu).1 lo D' (D.is_ hu).2 (kv_no hr hf) (q.same x hd _)⟩
end
theorem empty_S {p : Addr × Addr} {h : Heap} (ho : ObjAt w base ad h p (.dI [])) : ObjAt w base ad h p (.dS []) := by
  obtain ⟨lo, rs, D, hr⟩ := ho
  cases hr
  exact ⟨lo, [], dict_empty D, .nil⟩
theorem HR.emptyS (x : HR w base σ ad s.heap) (g : σ.obj n = some (.dI [])) : HR w base (σ.put n (.dS [])) ad s.heap := by
  obtain ⟨p, hp, ho⟩ := x.obj _ _ g
  refine (x.put hp (fun _ _ _ e => e) (fun b ob => ?_) (empty_S ho)).1
  exact (x.off _ _ _ hp ob).2
end
end Mine
end
section
open PySem PySem.W PySem.Calls PyProof.Rows
set_option maxRecDepth 100000
namespace Mine
theorem insertI_perm (k : Int) : ∀ l, (Mine.insertI k l).Perm (k :: l)
  | [] => .refl _
  | y :: r => by
    unfold insertI
    split
    · exact .refl _
    · exact ((insertI_perm k r).cons y).trans (.swap ..)
theorem sortI_perm : ∀ l, (Mine.sortI l).Perm l
  | [] => .refl _
  | k :: r => (insertI_perm k _).trans ((sortI_perm r).cons k)
theorem insertI_sorted (k : Int) : ∀ l : List Int, l.Pairwise (· ≤ ·) → (Mine.insertI k l).Pairwise (· ≤ ·)
  | [], _ => by simp [insertI]
  | y :: r, h => by
    unfold insertI
    rw [List.pairwise_cons] at h
    split
    · rename_i q
      rw [List.pairwise_cons]
      refine ⟨fun z hz => ?_, List.pairwise_cons.mpr h⟩
      rcases List.mem_cons.mp hz with rfl | hz
      · exact q
      · exact Int.le_trans q (h.1 z hz)
    · rename_i q
      rw [List.pairwise_cons]
      refine ⟨fun z hz => ?_, insertI_sorted k r h.2⟩
      rcases List.mem_cons.mp ((insertI_perm k r).mem_iff.mp hz) with rfl | hz
      · lia
      · exact h.1 z hz
theorem sortI_sorted : ∀ l : List Int, (Mine.sortI l).Pairwise (· ≤ ·)
  | [] => .nil
  | k :: r => insertI_sorted k _ (sortI_sorted r)
theorem sortI_eq {a b : List Int} (p : a.Perm b) (h : a.Pairwise (· ≤ ·)) : a = Mine.sortI b :=
  List.Perm.eq_of_pairwise (fun _ _ _ _ a b => Int.le_antisymm a b) h (sortI_sorted b) (p.trans (sortI_perm b).symm)
theorem intsAre_all2 {ad : AD} : ∀ {vs : List Value} {is : List Int}, IntsAre vs is → All2 (VR ad) (is.map MV.int) vs
  | _, _, .nil => .nil
  | _, _, .cons _ _ h => .cons (.int _ _) (intsAre_all2 h)
theorem hkeys {w : World} {ad : AD} : ∀ (l : List Value) (es : List (Int × MV)) (rs : List (Int × Value)), l.length = rs.length → All2 (KvR ad) es rs → (∀ (j : Nat) (v : Value), l[j]? = some v → ∃ k x, rs[j]? = some (k, x) ∧ (PySem.intKind PR w).is k v = true) → IntsAre l (es.map (·.1)) := by
  intro l
  induction l with
  | nil =>
    intro es rs h1 h2 _
    cases h2 with
    | nil => exact .nil
    | cons _ _ => simp at h1
  | cons v l ih =>
    intro es rs h1 h2 h3
    cases h2 with
    | nil => simp at h1
    | cons r t =>
      obtain ⟨k, y, hk1, hk2⟩ := h3 0 v rfl
      simp at hk1
      subst hk1
      have hr : _ = k := r.1
      have : ∃ t, v = .int k t := by
        cases v <;> simp [PySem.intKind, Value.isInt] at hk2
        exact ⟨_, by rw [hk2]⟩
      obtain ⟨tk, rfl⟩ := this
      rw [List.map_cons, hr]
      exact .cons _ _ (ih _ _ (by simpa using h1) t fun j v e => h3 (j + 1) v e)
section
variable {w : World} {base : Heap} {σ σ' : MS} {ad : AD} {A : Around} {E : Value → Shared → Prop} {s : Shared} {Q : Value → Shared → Prop} {r u v : MV} {n m i j : Nat} {us ws : List MV}
theorem im_pop (g : σ.obj n = some (.list (us ++ [v]))) (c : us.length + 1 < 1000) : BiM w base (.builtin "list.pop") [.loc n] σ v (σ.put n (.list us)) := ⟨fun {ad A s E Q vs} R x ha k => by
  obtain ⟨_, rfl, hv⟩ := all1 ha
  obtain ⟨p, hp, rfl, rs, c', ho, hrs⟩ := x.at g hv
  have hl := hrs.length
  rw [List.length_append] at hl
  have hl : us.length + 1 = rs.length := hl
  obtain ⟨y, hy, hvy⟩ := hrs.get (i := us.length) (a := v) (by simp)
  have hz : rs.toArray.size ≤ sizeLine := by rw [List.size_toArray, sizeLine_eq]; lia
  have hy' : rs.toArray[rs.toArray.size - 1]? = some y := by rw [List.size_toArray, ← hl]; simpa using hy
  have q := PySem.IsL.update ho fun xs => xs.eraseIdxIfInBounds (rs.toArray.size - 1)
  refine call_meets PySem.F.slot_list_pop ⟨_, ho, rfl⟩ PySem.F.entry_list_pop (PySem.F.args_list_pop_1 _) (PySem.MeetsSeq.list_pop_last p.1 _ c' y hy' hz) ⟨ho, ?_⟩
  have er : rs.toArray.eraseIdxIfInBounds (rs.toArray.size - 1) = rs.dropLast.toArray := by
    have hlt : rs.toArray.size - 1 < rs.toArray.size := by rw [List.size_toArray]; lia
    unfold Array.eraseIdxIfInBounds
    rw [dif_pos hlt]
    apply Array.toList_inj.mp
    rw [Array.toList_eraseIdx]
    simp only [List.size_toArray]
    exact List.eraseIdx_length_sub_one
  have hd := hrs.dropLast
  rw [List.dropLast_concat] at hd
  obtain ⟨x', st⟩ := x.put1 (o := .list us) hp (h' := s.heap.update p.1 (Obj.mapSeq fun xs => xs.eraseIdxIfInBounds (rs.toArray.size - 1))) (Heap.SameBut.update ..) ⟨_, q⟩ ⟨rs.dropLast, _, by rw [q, er], hd⟩
  exact k _ _ s.toks _ st x' hvy⟩
theorem im_extend (g : σ.obj n = some (.list us)) (g2 : σ.obj m = some (.list ws)) (c : us.length < 1000) (c2 : ws.length < 1000) : BiM w base (.builtin "list.extend") [.loc n, .loc m] σ .none (σ.put n (.list (us ++ ws))) := ⟨fun {ad A s E Q vs} R x ha k => by
  obtain ⟨_, _, rfl, hv, hu⟩ := all2 ha
  obtain ⟨p, hp, rfl, rs, c, ho, hrs⟩ := x.at g hv
  obtain ⟨q, hq, rfl, rs2, c2, ho2, hrs2⟩ := x.at g2 hu
  have hl := hrs.length
  have hl2 := hrs2.length
  have hz1 : rs.toArray.size ≤ sizeLine := by rw [List.size_toArray, sizeLine_eq]; lia
  have hz2 : rs.toArray.size + rs2.toArray.size ≤ sizeLine + 1 := by rw [List.size_toArray, List.size_toArray, sizeLine_eq]; lia
  have hb : ¬(!rs.toArray.isEmpty && Builtin.List.listTooLong (rs.toArray.size + rs2.toArray.size)) = true := by
    have : Builtin.List.listTooLong (rs.toArray.size + rs2.toArray.size) = false := by
      unfold Builtin.List.listTooLong
      rw [List.size_toArray, List.size_toArray]
      exact decide_eq_false (by rw [sizeLine_eq]; lia)
    rw [this, Bool.and_false]; exact Bool.false_ne_true
  have qq := PySem.IsL.update ho fun xs => xs ++ rs2.toArray
  refine call_meets PySem.F.slot_list_extend ⟨_, ho, rfl⟩ PySem.F.entry_list_extend (PySem.F.args_list_extend_2 _ _) (PySem.AutoSeq1.list_extend_list_list_0 p.1 _ c q.1 _ c2 hb hz1 hz2) ⟨ho, ho2, ?_⟩
  obtain ⟨x', st⟩ := x.put1 (o := .list (us ++ ws)) hp (h' := s.heap.update p.1 (Obj.mapSeq fun xs => xs ++ rs2.toArray)) (Heap.SameBut.update ..) ⟨_, qq⟩
    ⟨rs ++ rs2, _, by rw [List.append_toArray] at qq; exact qq, hrs.append hrs2⟩
  exact k _ _ s.toks _ st x' .none⟩
theorem ints_of {ad : AD} : ∀ {is : List Int} {rs : List Value}, All2 (VR ad) (is.map MV.int) rs → IntsAre rs is
  | [], _, h => by cases h; exact .nil
  | _ :: _, _, h => by
    cases h with
    | cons r t => cases r; exact .cons _ _ (ints_of t)
theorem HR.fresh_of (x : HR w base σ ad s.heap) {h' : Heap} (hk : ∀ b ob, s.heap.get? b = some ob → h'.get? b = some ob) {a : Addr} (ha : h'.objs.size ≤ a) : s.heap.get? a = none := by
  cases q : s.heap.get? a with
  | none => rfl
  | some o => exact absurd (Nat.lt_of_lt_of_le (Heap.lt_size (hk _ _ q)) ha) (Nat.lt_irrefl _)
theorem sort_new {d : Addr} {us : List Value} {is : List Int} {h₁ : Heap} {tk : Nat} {n : Nat} (hd : h₁.get? d = some (listOf us.toArray n)) (hI : IntsAre us is) (h64 : us.length < 64)
    (h : ∀ (h' : Heap) (rs : List Value) (e : Nat), (∀ b o, b ≠ d → h₁.get? b = some o → h'.get? b = some o) → h'.get? d = some (listOf rs.toArray e) → IntsAre rs (Mine.sortI is) → Q (.ref d) { s with heap := h', toks := tk }) :
    wpAny (model PR w) A (call (.builtin "list.sort") [.ref d]) (fun _ s' => Q (.ref d) s') E { s with heap := h₁, toks := tk } := by
  refine wpAny_call_entry slot_list_sort ⟨_, hd, rfl⟩ entry_list_sort (list_sort_tree hd hI h64 fun out ns' a1 a2 a3 => ⟨_, rfl, ?_⟩) (args_list_sort _)
  obtain ⟨e, he⟩ := sortedHeap_at (vs := us) (out := out) hd
  refine h _ out.toList e (fun b o nb hb => ?_) (by rw [Array.toArray_toList]; exact he) (by rw [← sortI_eq a2 a3]; exact a1)
  exact (sortedHeap_old nb (Heap.lt_size hb)).trans hb
theorem im_sorted {is : List Int} (g : σ.obj n = some (.list (is.map .int))) (c : is.length < 64) : BiM w base (.builtin "sorted") [.loc n] σ (.loc σ.next) (σ.new (.list ((sortI is).map .int))) := ⟨fun {ad A s E Q vs} R x ha k => by
  obtain ⟨_, rfl, hv⟩ := all1 ha
  obtain ⟨p, hp, rfl, rs, c', ho, hrs⟩ := x.at g hv
  have hI := ints_of hrs
  have hl := hrs.length
  rw [List.length_map] at hl
  refine sorted_ints (isL ho) hI (by lia) fun out ns' a1 a2 a3 => ?_
  obtain ⟨e', he⟩ := sortedAll_at s.heap rs out
  have := sortI_eq a2 a3
  subst this
  obtain ⟨x', st, hv'⟩ := new_list x (a := s.heap.objs.size + 1) (rs := out.toList) (fun _ _ => sortedAll_old (out := out) (vs := rs)) (x.fresh (Nat.le_succ _)) (by rw [Array.toArray_toList]; exact he) (intsAre_all2 a1)
  exact k _ _ s.toks _ st x' hv'⟩
theorem im_sortedI {es : List (Int × MV)} (g : σ.obj n = some (.dI es)) (c : es.length < 64) : BiM w base (.builtin "sorted") [.loc n] σ (.loc σ.next) (σ.new (.list ((sortI (es.map (·.1))).map .int))) := ⟨fun {ad A s E Q vs} R x ha k => by
  obtain ⟨_, rfl, hv⟩ := all1 ha
  obtain ⟨p, hp, rfl, lo, rs, D, hrs⟩ := x.at g hv
  have hl := hrs.length
  obtain ⟨ep, hat⟩ := D.dictAt
  refine call_function_entry kind_sorted plain_sorted entry_sorted (args_sorted1 _) ?_
  unfold Builtin.«sorted»
  refine wpAny_bind (m := checkCount "sorted" 1 1 _) (wpAny_pure ?_)
  refine wpAny_bind (kdu_collect (A := A.in1) (kdl_dict (knd := PySem.intKind PR w) (kvs := rs) (ep := ep) lo) R.hand hat (by rw [sizeLine_eq]; lia) fun h' tk acc hk hacc => ?_)
  have hal : acc.toList.length = rs.length := by rw [Array.length_toList]; exact hacc.1
  refine wpAny_bind (wpAny_newList ?_ (by rw [hal, sizeLine_eq]; lia))
  have hI : IntsAre acc.toList (es.map (·.1)) := hkeys _ _ _ hal hrs fun j v e => hacc.2 j v (by rw [← Array.getElem?_toList]; exact e)
  refine wpAny_bind (wpAny_holding (sort_new (Q := fun v s' => wpAny (model PR w) A.in1 (pure (Fin.done (.ret v))) (fun fin s' => ∃ v, fin = .done (.ret v) ∧ Q v s') E s') (n := 0) (Heap.get?_push_size _ rfl) hI (by rw [hal]; lia) fun h'' rs' e' hk' hd' hI' => ?_))
  refine wpAny_pure ⟨_, rfl, ?_⟩
  have hk2 : ∀ b o, s.heap.get? b = some o → h''.get? b = some o := fun b o e => hk' b o (Nat.ne_of_lt (Heap.lt_size (hk b o e))) (Heap.get?_push_of_some _ (hk b o e))
  obtain ⟨x', st, hv'⟩ := new_list x (a := h'.objs.size) hk2 (x.fresh_of hk (Nat.le_refl _)) hd' (intsAre_all2 hI')
  exact k _ _ tk _ st x' hv'⟩
end
end Mine
end
section
open PySem PySem.W PySem.Calls PyProof.Rows
set_option maxRecDepth 100000
namespace Mine
noncomputable def esOf : Option Obj → Array DictEntry
  | some ⟨_, _, .dict es _, _⟩ => es
  | _ => #[]
noncomputable def epOf : Option Obj → Nat
  | some ⟨_, _, .dict _ n, _⟩ => n
  | _ => 0
theorem und_keys (P : Params) : (esOf ((KF P).lookup 436)).toList.map (fun e => (e.hash, e.key)) =
    [("scalar", 780), ("array", 781), ("hash", 782), ("code", 783), ("elem", 784), ("helem", 785), ("pad", 786), ("slot", 787), ("match", 788), ("package", 789), ("tiedelem", 790), ("tiedkey", 791)].map
      (fun q : String × Nat => (PyData.keyHash P (Str.ofString q.1), Value.str (Str.ofString q.1) q.2)) := by kernel_rfl
theorem lit_of {P : Params} : ∀ {l : List DictEntry} {q : List (String × Nat)}, l.map (fun e => (e.hash, e.key)) = q.map (fun q : String × Nat => (PyData.keyHash P (Str.ofString q.1), Value.str (Str.ofString q.1) q.2)) → KeysLit P l
  | [], _, _ => True.intro
  | e :: l, [], h => by simp at h
  | e :: l, q :: r, h => by
    rw [List.map_cons, List.map_cons] at h
    injection h with h1 h2
    injection h1 with h3 h4
    exact ⟨⟨_, _, h4, h3⟩, lit_of h2⟩
theorem und_is (P : Params) : (KF P).lookup 436 = some ⟨.type "dict", none, .dict (esOf ((KF P).lookup 436)) (epOf ((KF P).lookup 436)), #[]⟩ := by kernel_rfl
theorem und_lit (P : Params) : ∃ es n, (KF P).lookup 436 = some ⟨.type "dict", none, .dict es n, #[]⟩ ∧ KeysLit P es.toList :=
  ⟨_, _, und_is P, lit_of (und_keys P)⟩
theorem und_elem (P : Params) : nsIn (KF P) 436 (Str.ofString "elem") = some (some (.ref 393)) := isRf_eq (by kernel_rfl)
theorem und_helem (P : Params) : nsIn (KF P) 436 (Str.ofString "helem") = some (some (.ref 400)) := isRf_eq (by kernel_rfl)
structure SubM (w : World) (base : Heap) (σ : MS) (v u r : MV) : Prop where
  go : ∀ {ad : AD} {A : Around} {s : Shared} {E Q : Value → Shared → Prop} {v' u' : Value}, HR w base σ ad s.heap → VR ad v v' → VR ad u u' → (∀ tk z, VR ad r z → Q z { s with toks := tk }) →
    wpAny (model PR w) A (getItem v' u') Q E s ∧ ∃ T id, s.TypeIs v' T ∧ typeLookup (.type T) "__getitem__" = pure (some (.builtin id))
structure PutM (w : World) (base : Heap) (σ : MS) (v u r : MV) (σ' : MS) : Prop where
  go : ∀ {ad : AD} {A : Around} {s : Shared} {E : Value → Shared → Prop} {Q : Unit → Shared → Prop} {v' u' r' : Value}, HR w base σ ad s.heap → VR ad v v' → VR ad u u' → VR ad r r' → (∀ h' tk, Step ad s.heap ad h' → HR w base σ' ad h' → Q () { s with heap := h', toks := tk }) →
    wpAny (model PR w) A (setItem v' u' r') Q E s
section
variable {w : World} {base : Heap} {σ σ' : MS} {ad : AD} {A : Around} {E : Value → Shared → Prop} {s : Shared} {Q : Value → Shared → Prop} {r u v : MV} {n m i j k : Nat} {us ws : List MV} {fs l : List (String × MV)} {C : Nat} {x : String}
theorem list_getitem_look : typeLookup (.type "list") "__getitem__" = pure (some (.builtin "list.__getitem__")) := slot_list_getitem.lookup
theorem rm_idx (g : σ.obj n = some (.list us)) (c : us.length < 1000) (h : us[k]? = some v) : SubM w base σ (.loc n) (.int (k : Int)) v := ⟨fun {ad A s E Q v' u'} x hv hu q => by
  obtain ⟨t, rfl⟩ := hu.isInt
  obtain ⟨p, hp, rfl, rs, c, ho, hrs⟩ := x.at g hv
  have hl := hrs.length
  obtain ⟨z, hz, hvz⟩ := hrs.get h
  have hlt := (List.getElem?_eq_some_iff.mp hz).1
  exact ⟨wpAny_getItem_list (isL ho) (by lia) (by lia) (by rw [List.getElem?_toArray, Int.toNat_natCast]; exact hz) (q s.toks z hvz), _, _, ⟨_, ho, rfl⟩, list_getitem_look⟩⟩
theorem rm_last (g : σ.obj n = some (.list us)) (c : us.length < 1000) (h : us.getLast? = some v) : SubM w base σ (.loc n) (.int (-1)) v := ⟨fun {ad A s E Q v' u'} x hv hu q => by
  obtain ⟨t, rfl⟩ := hu.isInt
  obtain ⟨p, hp, rfl, rs, c, ho, hrs⟩ := x.at g hv
  have hl := hrs.length
  rw [List.getLast?_eq_getElem?, hl] at h
  obtain ⟨z, hz, hvz⟩ := hrs.get h
  have hlt := (List.getElem?_eq_some_iff.mp hz).1
  have e1 : (-1 + (rs.toArray.size : Int)).toNat = rs.length - 1 := by rw [List.size_toArray]; lia
  exact ⟨wpAny_getItem_list_neg (isL ho) (by decide) (by rw [List.size_toArray]; lia) (by decide) (by rw [e1, List.getElem?_toArray]; exact hz) (q s.toks z hvz), _, _, ⟨_, ho, rfl⟩, list_getitem_look⟩⟩
theorem rm_tup (g : σ.obj n = some (.tup us)) (c : us.length < 1000) (h : us[k]? = some v) : SubM w base σ (.loc n) (.int (k : Int)) v := ⟨fun {ad A s E Q v' u'} x hv hu q => by
  obtain ⟨t, rfl⟩ := hu.isInt
  obtain ⟨p, hp, rfl, rs, c, ho, hrs⟩ := x.at g hv
  have hl := hrs.length
  obtain ⟨z, hz, hvz⟩ := hrs.get h
  have hlt := (List.getElem?_eq_some_iff.mp hz).1
  refine ⟨PySem.P.getItem_tuple (k := k) ho (by lia) (by lia) ?_ (by rw [List.getElem?_toArray]; exact hz) (q s.toks z hvz), _, _, ⟨_, ho, rfl⟩, slot_tuple_getitem.lookup⟩
  unfold seqIndex?
  rw [List.size_toArray]
  have h0 : ¬ (k : Int) < 0 := by lia
  simp only [h0, if_false]
  rw [if_pos (by simp only [Bool.and_eq_true, decide_eq_true_eq]; lia)]
  simp⟩
theorem rm_key {K : Type} [DecidableEq K] (D : DK w K) {es : List (K × MV)} {k k' : K} (g : σ.obj n = some (D.ob es)) (hf : es.find? (fun e => e.1 = k) = some (k', v)) : SubM w base σ (.loc n) (D.key k) v := ⟨fun {ad A s E Q v' u'} x hv hu q => by
  obtain ⟨p, hp, rfl, ho⟩ := x.at g hv
  obtain ⟨lo, rs, D', hr⟩ := D.at_.mp ho
  obtain ⟨z, h1, h2⟩ := kv_at hr hf
  exact ⟨wpAny_getItem_of (D.is_ hu).1 D'.mapOf h1 (q _ _ h2), _, _, D'.typeIs, slot_dict_getitem.lookup⟩⟩
theorem rm_und1 (B : Bs w base) : SubM w base σ (.top 436) (.str (Str.ofString "elem")) (.top 393) := ⟨fun {ad A s E Q v' u'} x hv hu q => by
  cases hv.isTop
  obtain ⟨t, rfl⟩ := hu.isStr
  obtain ⟨es, n, hl, hk⟩ := und_lit w.params
  have M := mapOf_K (prog := PR) (w := w) (B.k.keeps x.stays) hl hk
  exact ⟨wpAny_getItem_of (strKind_is PR w _ _) M (find_K hl (und_elem w.params)) (q _ _ (.top _)), _, _, M.typeIs, slot_dict_getitem.lookup⟩⟩
theorem rm_und2 (B : Bs w base) : SubM w base σ (.top 436) (.str (Str.ofString "helem")) (.top 400) := ⟨fun {ad A s E Q v' u'} x hv hu q => by
  cases hv.isTop
  obtain ⟨t, rfl⟩ := hu.isStr
  obtain ⟨es, n, hl, hk⟩ := und_lit w.params
  have M := mapOf_K (prog := PR) (w := w) (B.k.keeps x.stays) hl hk
  exact ⟨wpAny_getItem_of (strKind_is PR w _ _) M (find_K hl (und_helem w.params)) (q _ _ (.top _)), _, _, M.typeIs, slot_dict_getitem.lookup⟩⟩
theorem pm_list (g : σ.obj n = some (.list us)) (c : k < us.length) (c2 : us.length < 1000) : PutM w base σ (.loc n) (.int (k : Int)) u (σ.put n (.list (us.set k u))) := ⟨fun {ad A s E Q v' u' r'} x hv hu hr q => by
  obtain ⟨t, rfl⟩ := hu.isInt
  obtain ⟨p, hp, rfl, rs, c, ho, hrs⟩ := x.at g hv
  have hl := hrs.length
  refine ki_setAt ho (by lia) (by lia) (by rw [List.size_toArray]; lia) ?_
  have qq := PySem.IsL.update ho (·.setIfInBounds (k : Int).toNat r')
  obtain ⟨x', st⟩ := x.put1 (o := .list (us.set k u)) hp (h' := s.heap.update p.1 (Obj.mapSeq (·.setIfInBounds (k : Int).toNat r'))) (Heap.SameBut.update ..) ⟨_, qq⟩ ⟨rs.set k r', _, by rw [List.setIfInBounds_toArray] at qq; exact qq, hrs.set hr _⟩
  exact q _ s.toks st x'⟩
theorem pm_dict {K : Type} [DecidableEq K] (D : DK w K) {es : List (K × MV)} {k : K} (g : σ.obj n = some (D.ob es)) (c : es.length < 1000) :
    PutM w base σ (.loc n) (D.key k) u (σ.put n (D.ob (if es.any (fun e => e.1 = k) then es.map (fun e => if e.1 = k then (e.1, u) else e) else es ++ [(k, u)]))) := ⟨fun {ad A s E Q v' u' r'} x hv hu hr q => by
  obtain ⟨p, hp, rfl, ho⟩ := x.at g hv
  obtain ⟨lo, rs, D', hrs⟩ := D.at_.mp ho
  have hl := hrs.length
  refine wpAny_setItem_pairs (D.is_ hu).1 D' (fun h' D2 hs => ?_) (by rw [sizeLine_eq]; lia)
  obtain ⟨x', st⟩ := x.put1 hp hs (dictOf_get D2) (D.at_.mpr ⟨lo, _, D2, kv_stored hrs k hr⟩)
  exact q _ _ st x'⟩
theorem pm_key {K : Type} [DecidableEq K] (D : DK w K) {es : List (K × MV)} {k : K} (g : σ.obj n = some (D.ob es)) (h : es.any (fun e => e.1 = k) = true) (c : es.length < 1000) : PutM w base σ (.loc n) (D.key k) u (σ.put n (D.ob (es.map fun e => if e.1 = k then (e.1, u) else e))) := by
  have := pm_dict (u := u) (base := base) D (k := k) g c
  rwa [if_pos h] at this
theorem pm_keyN {K : Type} [DecidableEq K] (D : DK w K) {es : List (K × MV)} {k : K} (g : σ.obj n = some (D.ob es)) (h : es.any (fun e => e.1 = k) = false) (c : es.length < 1000) : PutM w base σ (.loc n) (D.key k) u (σ.put n (D.ob (es ++ [(k, u)]))) := by
  have := pm_dict (u := u) (base := base) D (k := k) g c
  rwa [if_neg (by rw [h]; exact Bool.false_ne_true)] at this
end
end Mine
end
section
open PySem PySem.W PySem.Calls PyProof.Rows
set_option maxRecDepth 100000
namespace Mine
structure CmpM (w : World) (base : Heap) (c : COp) (σ : MS) (v u : MV) (b : Bool) : Prop where
  go : ∀ {ad : AD} {A : Around} {s : Shared} {E Q : Value → Shared → Prop} {v' u' : Value} {op : PySem.CmpOp}, COpR op c → Room A 0 → HR w base σ ad s.heap → VR ad v v' → VR ad u u' → (∀ tk, Q (.bool b) { s with toks := tk }) → wpAny (model PR w) A (compareOp op v' u') Q E s
structure BinM (w : World) (base : Heap) (c : BOp) (σ : MS) (v u r : MV) (σ' : MS) : Prop where
  go : ∀ {ad : AD} {A : Around} {s : Shared} {E Q : Value → Shared → Prop} {v' u' : Value} {op : PySem.Operator}, BOpR op c → HR w base σ ad s.heap → VR ad v v' → VR ad u u' → Cont w base σ' ad r s Q → wpAny (model PR w) A (binaryOp op v' u') Q E s
structure AttM (w : World) (base : Heap) (σ : MS) (v : MV) (x : String) (r : MV) : Prop where
  go : ∀ {ad : AD} {A : Around} {s : Shared} {E Q : Value → Shared → Prop} {v' : Value} {expr : Bool}, HR w base σ ad s.heap → VR ad v v' → (∀ tk z, VR ad r z → Q z { s with toks := tk }) → wpAny (model PR w) A (getAttr v' (Str.ofString x) expr) Q E s
structure SetM (w : World) (base : Heap) (σ : MS) (v : MV) (x : String) (u : MV) (σ' : MS) : Prop where
  go : ∀ {ad : AD} {A : Around} {s : Shared} {E : Value → Shared → Prop} {Q : Unit → Shared → Prop} {v' u' : Value}, HR w base σ ad s.heap → VR ad v v' → VR ad u u' → (∀ h' tk, Step ad s.heap ad h' → HR w base σ' ad h' → Q () { s with heap := h', toks := tk }) → wpAny (model PR w) A (setAttr v' (Str.ofString x) u') Q E s
section
variable {w : World} {base : Heap} {σ σ' : MS} {r u v : MV} {n m i j : Nat} {us ws : List MV} {fs l : List (String × MV)} {C : Nat} {x : String}
theorem km_int {a b : Int} {c : COp} {y : Bool} (h : (match c with | .eq => some (a == b) | .ne => some (a != b) | .lt => some (decide (a < b)) | .le => some (decide (a ≤ b)) | .gt => some (decide (a > b)) | .ge => some (decide (a ≥ b)) | _ => none) = some y) : CmpM w base c σ (.int a) (.int b) y := ⟨fun {ad A s E Q v' u' op} ho R x hv hu q => by
  obtain ⟨_, rfl⟩ := hv.isInt
  obtain ⟨_, rfl⟩ := hu.isInt
  cases ho <;> cases h
  · exact PyProof.Rows.eq_int (q s.toks)
  · exact PyProof.Rows.ne_int (q s.toks)
  · exact PyProof.Rows.lt_int (q s.toks)
  · exact PyProof.Rows.le_int (q s.toks)
  · exact PyProof.Rows.gt_int (q s.toks)
  · exact PyProof.Rows.ge_int (q s.toks)⟩
theorem km_str {a b : Str} : CmpM w base .eq σ (.str a) (.str b) (a == b) := ⟨fun {ad A s E Q v' u' op} ho R x hv hu q => by
  obtain ⟨_, rfl⟩ := hv.isStr
  obtain ⟨_, rfl⟩ := hu.isStr
  cases ho; exact PyProof.Rows.eq_str (q s.toks)⟩
noncomputable def notJ : MV → Bool
  | .junk => false
  | _ => true
theorem none_beq {ad : AD} {m : MV} {v : Value} (h : VR ad m v) (hj : notJ m = true) : (v == Value.none) = (m == MV.none) := by
  cases h <;> first | rfl | cases hj
theorem km_is (hj : notJ v = true) : CmpM w base .isN σ v .none (v == .none) := ⟨fun {ad A s E Q v' u' op} ho R x hv hu q => by
  cases ho; cases hu
  refine is_none_gen ?_
  rw [none_beq hv hj]; exact q s.toks⟩
theorem km_isnt (hj : notJ v = true) : CmpM w base .notN σ v .none (!(v == .none)) := ⟨fun {ad A s E Q v' u' op} ho R x hv hu q => by
  cases ho; cases hu
  refine isnot_none_gen ?_
  rw [none_beq hv hj]; exact q s.toks⟩
theorem am_get (B : Bs w base) (g : σ.obj n = some (.inst C fs)) (c : (attrTab C).contains x = true) (h : getL' x fs = some v) (ok : okV v = true) : AttM w base σ (.loc n) x v := ⟨fun {ad A s E Q v' expr} y hv q => by
  obtain ⟨p, hp, rfl, h1, es, ep, h2, h3⟩ := y.at g hv
  exact getAttr_inst (B.k.keeps y.stays) h1 h2 h3 c h ok fun z hz => q _ z hz⟩
theorem am_set (B : Bs w base) (g : σ.obj n = some (.inst C fs)) (c : (attrTab C).contains x = true) (k : fs.length < 100) (h : setL x u fs = l) : SetM w base σ (.loc n) x u (σ.put n (.inst C l)) := ⟨fun {ad A s E Q v' u'} y hv hu q => by
  subst h
  obtain ⟨p, hp, rfl, h1, es, ep, h2, h3⟩ := y.at g hv
  refine setAttr_inst (B.k.keeps y.stays) h1 h2 h3 c k hu fun h' es' ep' hs h2' h3' => ?_
  have hne : p.1 ≠ p.2 := fun e => by rw [e, h2] at h1; cases h1
  have h1' : h'.get? p.1 = some (instObj C p.2) := (hs.2 p.1 hne).trans h1
  obtain ⟨x', st⟩ := y.put (h' := h') (o := .inst C (setL x u fs)) hp (fun b ob nb e => (hs.2 b fun z => nb (.inr z)).trans e) (fun b ob => by
    rcases ob with rfl | rfl
    · exact ⟨_, h1'⟩
    · exact ⟨_, h2'⟩) ⟨h1', es', ep', h2', h3'⟩
  exact q _ _ st x'⟩
end
end Mine
end
section
open PySem PySem.W PySem.Calls PyProof.Rows
set_option maxRecDepth 100000
namespace Mine
theorem meth_cls : methList.all (fun q => clsList.contains q.1) = true := by decide
theorem mem_methList {C f : Nat} {x : String} (h : methTab C x = some f) : (C, x, f) ∈ methList ∧ C ∈ clsList :=
  ⟨methIn_mem h, List.contains_iff_mem.mp (List.all_eq_true.mp meth_cls _ (methIn_mem h))⟩
noncomputable def isTyp (T : String) : Option Value → Bool
  | some (.type t) => t == T
  | _ => false
theorem isTyp_eq {T : String} {x : Option Value} (h : isTyp T x = true) : x = some (.type T) := by
  unfold isTyp at h
  split at h
  · rw [beq_iff_eq.mp h]
  · cases h
theorem meth_all (P : Params) : methList.all (fun q => isRf q.2.2 (findIn (KF P) (.ref q.1) (Str.ofString q.2.1)) && isTyp "function" (typeIn (KF P) (.ref q.2.2))) = true := by kernel_rfl
noncomputable def isVal (f : Nat) : Option CFound → Bool
  | some (.val (.ref g)) => Nat.beq g f
  | _ => false
theorem isVal_eq {f : Nat} {x : Option CFound} (h : isVal f x = true) : x = some (.val (.ref f)) := by
  unfold isVal at h
  split at h
  · rw [Nat.eq_of_beq_eq_true h]
  · cases h
theorem thing_init (P : Params) : (isBi "type.__getattribute__" (specialIn (KF P) (.ref 77) "__getattribute__") && readsIn (KF P) 77 (.type "type") &&
  isVal 74 (findCls (KF P) (.ref 77) (.type "type") (Str.ofString "__init__"))) = true := by kernel_rfl
structure MethM (w : World) (base : Heap) (σ : MS) (v : MV) (x : String) (f : MV) (first : List MV) : Prop where
  go : ∀ {ad : AD} {A : Around} {s : Shared} {E : Value → Shared → Prop} {Q : Value × List Value → Shared → Prop} {v' : Value} {pl : Sem Bool}, HR w base σ ad s.heap → VR ad v v' → (∀ tk g fs, VR ad f g → All2 (VR ad) first fs → Q (g, fs) { s with toks := tk }) →
    wpAny (model PR w) A (getMethod v' (Str.ofString x) pl) Q E s
structure AugM (w : World) (c : BOp) (v u r : MV) : Prop where
  go : ∀ {ad : AD} {A : Around} {s : Shared} {E Q : Value → Shared → Prop} {v' u' : Value} {op : PySem.Operator}, BOpR op c → VR ad v v' → VR ad u u' → (∀ tk z, VR ad r z → Q z { s with toks := tk }) → wpAny (model PR w) A (inplaceOp op v' u') Q E s
section
variable {w : World} {base : Heap} {σ σ' : MS} {r u v : MV} {n m : Nat} {us ws : List MV} {fs : List (String × MV)} {C : Nat} {x : String}
section
variable {ad : AD} {s : Shared}
theorem HR.notMods (x : HR w base σ ad s.heap) {a : Addr} (ha : s.heap.objs.size ≤ a) : (a == sysModules) = false := by
  have : 2 < a := Nat.lt_of_lt_of_le x.big ha
  have : a ≠ sysModules := fun e => by rw [e] at this; exact absurd this (by decide)
  exact beq_false_of_ne this
end
theorem put_get (σ : MS) (n : Nat) (o : MO) : (σ.put n o).obj n = some o := if_pos rfl
theorem put_twice (σ : MS) (n : Nat) (o p : MO) : (σ.put n o).put n p = σ.put n p := congrArg (MS.mk · σ.next) (funext fun k => by
  show (if k = n then some p else if k = n then some o else σ.obj k) = if k = n then some p else σ.obj k
  by_cases q : k = n
  · rw [if_pos q, if_pos q]
  · rw [if_neg q, if_neg q, if_neg q])
theorem mm_inst (B : Bs w base) {f : Nat} (g : σ.obj n = some (.inst C fs)) (h : methTab C x = some f) (k : getL' x fs = none) : MethM w base σ (.loc n) x (.top f) [.loc n] := ⟨fun y hv q => by
  obtain ⟨p, hp, rfl, h1, es, ep, h2, h3⟩ := y.at g hv
  obtain ⟨hmem, hC⟩ := mem_methList h
  obtain ⟨ko, _⟩ := clsOk (w := w) hC
  have hq := and2 (List.all_eq_true.mp (meth_all w.params) _ hmem)
  have hg := plainGet_of (ko.get (Str.ofString x))
  refine method_fn (B.k.keeps y.stays) (instAt h1 h2) hg.1 hg.2 (isRf_eq hq.1) (isTyp_eq hq.2) ?_ (q _ _ _ (.top _) (.cons hv .nil))
  show (lookIn (Str.ofString x) (dictOf es ep)).map _ = _
  rw [lookIn_dict, ent_none h3 k]; rfl⟩
theorem mm_field (B : Bs w base) (g : σ.obj n = some (.inst C fs)) (c : (attrTab C).contains x = true) (h : getL' x fs = some v) (ok : okV v = true) : MethM w base σ (.loc n) x v [] := ⟨fun y hv q => by
  obtain ⟨p, hp, rfl, h1, es, ep, h2, h3⟩ := y.at g hv
  obtain ⟨ko, kn⟩ := clsOk (w := w) (mem_clsList c)
  have hg := plainGet_of (ko.get (Str.ofString x))
  exact method_usual (B.k.keeps y.stays) (instAt h1 h2) hg.1 hg.2 (kn x c) rfl (getAttr_inst (B.k.keeps y.stays) h1 h2 h3 c h ok fun z hz => q _ z [] hz .nil)⟩
theorem mm_append (g : σ.obj n = some (.list us)) : MethM w base σ (.loc n) "append" (.bi "list.append") [.loc n] := ⟨fun y hv q => by
  obtain ⟨p, hp, rfl, rs, c, ho, hrs⟩ := y.at g hv
  exact getMethod_list_of PySem.F.slot_list_append (by rfl) (isL ho) ⟨_, ho, rfl⟩ (q _ _ _ (.bi _) (.cons hv .nil))⟩
theorem mm_pop (g : σ.obj n = some (.list us)) : MethM w base σ (.loc n) "pop" (.bi "list.pop") [.loc n] := ⟨fun y hv q => by
  obtain ⟨p, hp, rfl, rs, c, ho, hrs⟩ := y.at g hv
  exact getMethod_list_of PySem.F.slot_list_pop (by rfl) (isL ho) ⟨_, ho, rfl⟩ (q _ _ _ (.bi _) (.cons hv .nil))⟩
theorem mm_extend (g : σ.obj n = some (.list us)) : MethM w base σ (.loc n) "extend" (.bi "list.extend") [.loc n] := ⟨fun y hv q => by
  obtain ⟨p, hp, rfl, rs, c, ho, hrs⟩ := y.at g hv
  exact getMethod_list_of PySem.F.slot_list_extend (by rfl) (isL ho) ⟨_, ho, rfl⟩ (q _ _ _ (.bi _) (.cons hv .nil))⟩
section
variable {K : Type} [DecidableEq K] (D : DK w K) {es : List (K × MV)} {k : K}
theorem mm_dget (g : σ.obj n = some (D.ob es)) : MethM w base σ (.loc n) "get" (.bi "dict.get") [.loc n] := ⟨fun y hv q => by
  obtain ⟨p, hp, rfl, ho⟩ := y.at g hv
  obtain ⟨lo, rs, D', hr⟩ := D.at_.mp ho
  exact getMethod_builtin D'.typeIs PySem.F.plainAttrs_dict PySem.F.slot_dict_get (by rfl) D'.mapOf.noDict (q _ _ _ (.bi _) (.cons hv .nil))⟩
theorem mm_dpop (g : σ.obj n = some (D.ob es)) : MethM w base σ (.loc n) "pop" (.bi "dict.pop") [.loc n] := ⟨fun y hv q => by
  obtain ⟨p, hp, rfl, ho⟩ := y.at g hv
  obtain ⟨lo, rs, D', hr⟩ := D.at_.mp ho
  exact getMethod_builtin D'.typeIs PySem.F.plainAttrs_dict PySem.F.slot_dict_pop (by rfl) D'.mapOf.noDict (q _ _ _ (.bi _) (.cons hv .nil))⟩
theorem va_some {ad : AD} {rs : List (K × Value)} (hr : All2 (KvR ad) es rs) : (valueAt rs k).isSome = (es.find? (fun e => e.1 = k)).isSome := by
  have := kv_find hr k
  generalize valueAt rs k = a at this
  generalize es.find? _ = b at this
  cases b <;> cases this <;> rfl
theorem km_in (g : σ.obj n = some (D.ob es)) : CmpM w base .inn σ (D.key k) (.loc n) (es.find? (fun e => e.1 = k)).isSome := ⟨fun {ad A s E Q v' u' op} ho R y hv hu q => by
  cases ho
  obtain ⟨p, hp, rfl, ho⟩ := y.at g hu
  obtain ⟨lo, rs, D', hr⟩ := D.at_.mp ho
  refine wpAny_in_of (D.is_ hv).1 lo D'.mapOf ?_
  rw [va_some hr]; exact q _⟩
theorem km_nin (g : σ.obj n = some (D.ob es)) : CmpM w base .nin σ (D.key k) (.loc n) (!(es.find? (fun e => e.1 = k)).isSome) := ⟨fun {ad A s E Q v' u' op} ho R y hv hu q => by
  cases ho
  obtain ⟨p, hp, rfl, ho⟩ := y.at g hu
  obtain ⟨lo, rs, D', hr⟩ := D.at_.mp ho
  refine wpAny_notIn_of (D.is_ hv).1 lo D'.mapOf ?_
  rw [va_some hr]; exact q _⟩
end
theorem mm_cls (B : Bs w base) : MethM w base σ (.top 77) "__init__" (.top 74) [] := ⟨fun y hv q => by
  cases hv.isTop
  have h := and3 (thing_init w.params)
  exact method_cls (B.k.keeps y.stays) (isBi_eq h.1) (cls_value (B.k.keeps y.stays) h.2.1 (isVal_eq h.2.2) rfl (q _ _ [] (.top _) .nil))⟩
theorem km_nin00 {k : Str} (g : σ.obj n = some (.dI [])) : CmpM w base .nin σ (.str k) (.loc n) true := ⟨fun ho R y hv hu q => (km_nin (base := base) (dkS w) (put_get σ n (.dS []))).go ho R (y.emptyS g) hv hu q⟩
theorem im_get00 {k : Str} (g : σ.obj n = some (.dI [])) : BiM w base (.builtin "dict.get") [.loc n, .str k] σ .none σ := ⟨fun R y ha q => by
  obtain ⟨_, _, rfl, hv, hu⟩ := all2 ha
  obtain ⟨p, hp, rfl, lo, rs, D', hr⟩ := y.at g hv
  cases hr
  exact get_k ((dkS w).is_ hu).1 lo (dict_empty D') (q.same y .none _)⟩
theorem pm_key0 {k : Str} (g : σ.obj n = some (.dI [])) : PutM w base σ (.loc n) (.str k) u (σ.put n (.dS [(k, u)])) := ⟨fun y hv hu hr q => by
  have := pm_keyN (base := base) (u := u) (dkS w) (put_get σ n (.dS [])) (k := k) rfl (by decide)
  rw [put_twice] at this
  exact this.go (y.emptyS g) hv hu hr q⟩
theorem eq_nil {ad : AD} {A : Around} {s : Shared} {E Q : Value → Shared → Prop} {v' u' : Value} (R : Room A 0) (y : HR w base σ ad s.heap) (g : σ.obj n = some (.list us)) (g2 : σ.obj m = some (.list [])) (hv : VR ad (.loc n) v') (hu : VR ad (.loc m) u') :
    (Q (.bool us.isEmpty) s → wpAny (model PR w) A (compareOp .Eq v' u') Q E s) ∧ (Q (.bool (!us.isEmpty)) s → wpAny (model PR w) A (compareOp .NotEq v' u') Q E s) := by
  obtain ⟨p, hp, rfl, rs, c, ho, hrs⟩ := y.at g hv
  obtain ⟨q, hq, rfl, rs2, c2, ho2, hrs2⟩ := y.at g2 hu
  have hun := R.units
  have hcl : A.units + 64 < cLine := by show A.units + 64 < 9900; lia
  have hcl2 : A.units < cLine := by show A.units < 9900; lia
  cases hrs2
  cases hrs with
  | nil => exact ⟨fun h => eq_intsK (isL ho) .nil (isL ho2) .nil hcl h, fun h => ne_intsK (isL ho) .nil (isL ho2) .nil hcl h⟩
  | @cons _ b _ bs r t =>
    have hsz : ((b :: bs : List Value).toArray.size != ([] : List Value).toArray.size) = true := by simp
    exact ⟨fun h => PySem.P.eq_list_lengths ho ho2 hsz hcl2 h, fun h => PySem.SeqAt.RcNeAt.lists_lengths (isL ho) (isL ho2) hsz hcl2 _ _ _ _ h⟩
theorem km_eqn (g : σ.obj n = some (.list us)) (g2 : σ.obj m = some (.list [])) : CmpM w base .eq σ (.loc n) (.loc m) us.isEmpty := ⟨fun {ad A s E Q v' u' op} ho R y hv hu q => by cases ho; exact (eq_nil R y g g2 hv hu).1 (q s.toks)⟩
theorem km_nen (g : σ.obj n = some (.list us)) (g2 : σ.obj m = some (.list [])) : CmpM w base .ne σ (.loc n) (.loc m) (!us.isEmpty) := ⟨fun {ad A s E Q v' u' op} ho R y hv hu q => by cases ho; exact (eq_nil R y g g2 hv hu).2 (q s.toks)⟩
theorem ints_are {ad : AD} : ∀ {is : List Int} {rs : List Value}, All2 (VR ad) (is.map .int) rs → IntsAre rs is
  | [], _, h => by cases h; exact .nil
  | i :: is, _, h => by cases h with | cons r t => cases r; exact .cons i _ (ints_are t)
theorem km_eqI {is js : List Int} (g : σ.obj n = some (.list (is.map .int))) (g2 : σ.obj m = some (.list (js.map .int))) : CmpM w base .eq σ (.loc n) (.loc m) (decide (is = js)) := ⟨fun {ad A s E Q v' u' op} ho R y hv hu q => by
  cases ho
  obtain ⟨p, hp, rfl, rs, c, ho, hrs⟩ := y.at g hv
  obtain ⟨q', hq, rfl, rs2, c2, ho2, hrs2⟩ := y.at g2 hu
  have hun := R.units
  exact eq_intsK (isL ho) (ints_are hrs) (isL ho2) (ints_are hrs2) (by show A.units + 64 < 9900; lia) (q s.toks)⟩
theorem km_neI {is js : List Int} (g : σ.obj n = some (.list (is.map .int))) (g2 : σ.obj m = some (.list (js.map .int))) : CmpM w base .ne σ (.loc n) (.loc m) (!decide (is = js)) := ⟨fun {ad A s E Q v' u' op} ho R y hv hu q => by
  cases ho
  obtain ⟨p, hp, rfl, rs, c, ho, hrs⟩ := y.at g hv
  obtain ⟨q', hq, rfl, rs2, c2, ho2, hrs2⟩ := y.at g2 hu
  have hun := R.units
  exact ne_intsK (isL ho) (ints_are hrs) (isL ho2) (ints_are hrs2) (by show A.units + 64 < 9900; lia) (q s.toks)⟩
theorem om_add {a b : Int} : BinM w base .add σ (.int a) (.int b) (.int (a + b)) σ := ⟨fun ho y hv hu q => by
  obtain ⟨_, rfl⟩ := hv.isInt; obtain ⟨_, rfl⟩ := hu.isInt; cases ho; exact add_int (q.same y (.int _ _) _)⟩
theorem om_sub {a b : Int} : BinM w base .sub σ (.int a) (.int b) (.int (a - b)) σ := ⟨fun ho y hv hu q => by
  obtain ⟨_, rfl⟩ := hv.isInt; obtain ⟨_, rfl⟩ := hu.isInt; cases ho; exact PyProof.Rows.sub_int (q.same y (.int _ _) _)⟩
theorem om_mul {a b : Int} (h : a.natAbs < 1000000) : BinM w base .mul σ (.int a) (.int b) (.int (a * b)) σ := ⟨fun ho y hv hu q => by
  obtain ⟨_, rfl⟩ := hv.isInt; obtain ⟨_, rfl⟩ := hu.isInt; cases ho; exact PyProof.Rows.mul_int (q.same y (.int _ _) _) (.of_left (intBits_le_64 (by lia) (by lia)))⟩
theorem om_fdiv {a b : Int} (h : 0 < b ∧ b < 1000000) : BinM w base .fdiv σ (.int a) (.int b) (.int (Int.fdiv a b)) σ := ⟨fun ho y hv hu q => by
  obtain ⟨_, rfl⟩ := hv.isInt; obtain ⟨_, rfl⟩ := hu.isInt; cases ho; exact floordiv_int (by lia) (q.same y (.int _ _) _) (.inl (PyProof.noPylong_small (by lia)))⟩
theorem om_mod {a b : Int} (h : 0 < b) : BinM w base .mod σ (.int a) (.int b) (.int (Int.fmod a b)) σ := ⟨fun ho y hv hu q => by
  obtain ⟨_, rfl⟩ := hv.isInt; obtain ⟨_, rfl⟩ := hu.isInt; cases ho; exact PyProof.Rows.mod_int (by lia) (q.same y (.int _ _) _)⟩
theorem om_addS {a b : Str} (c : a.length < 10) (c2 : b.length < 10) : BinM w base .add σ (.str a) (.str b) (.str (a ++ b)) σ := ⟨fun ho y hv hu q => by
  obtain ⟨_, rfl⟩ := hv.isStr; obtain ⟨_, rfl⟩ := hu.isStr; cases ho; exact PyProof.Rows.add_str (fun t' tk => q.same y (.str _ _) _) (by rw [sizeLine_eq]; lia)⟩
theorem om_addL (g : σ.obj n = some (.list us)) (g2 : σ.obj m = some (.list ws)) (c : us.length < 1000) (c2 : ws.length < 1000) : BinM w base .add σ (.loc n) (.loc m) (.loc σ.next) (σ.new (.list (us ++ ws))) := ⟨fun {ad A s E Q v' u' op} ho y hv hu k => by
  cases ho
  obtain ⟨p, hp, rfl, rs, c, ho, hrs⟩ := y.at g hv
  obtain ⟨q, hq, rfl, rs2, c2, ho2, hrs2⟩ := y.at g2 hu
  have hl := hrs.length
  have hl2 := hrs2.length
  refine PySem.P.add_list ho ho2 ?_ (by rw [List.size_toArray, List.size_toArray, sizeLine_eq]; lia)
  obtain ⟨x', st, hv'⟩ := new_list y (a := s.heap.objs.size) (h' := s.heap.push { cls := .type "list", data := .seq (rs.toArray ++ rs2.toArray) }) (rs := rs ++ rs2) (n := 0) (vs := us ++ ws)
    (fun b ob e => Heap.get?_push_of_some _ e) (y.fresh (Nat.le_refl _)) (by rw [Heap.get?_push_size _ rfl]; simp) (hrs.append hrs2)
  exact k _ _ s.toks _ st x' hv'⟩
theorem om_mulL {i : Int} (g : σ.obj n = some (.list [v])) (hb : 0 ≤ i ∧ i < 100) : BinM w base .mul σ (.loc n) (.int i) (.loc σ.next) (σ.new (.list (List.replicate i.toNat v))) := ⟨fun {ad A s E Q v' u' op} ho y hv hu k => by
  cases ho
  obtain ⟨_, rfl⟩ := hu.isInt
  obtain ⟨p, hp, rfl, rs, c, ho, hrs⟩ := y.at g hv
  obtain ⟨b, rfl, hv1⟩ := all1 hrs
  refine wpAny_binaryOp_repeat_ref (T := "list") (U := "int") (by decide) ⟨_, ho, rfl⟩ (fun s' => typeIs_int s' _ _) noFill_list_mul F.fills_int_mul F.slot_int_rmul repeat_list F.slot_int_index.lookup
    (call_meets F.slot_int_rmul (typeIs_int s _ _) F.entry_int_rmul (F.args_int_rmul_2 _ _) (int___rmul___int_list _ _ p.1 _ c)
      ⟨ho, rfl, ⟨_, ho, rfl⟩, call_meets F.slot_list_mul ⟨_, ho, rfl⟩ F.entry_list_mul (F.args_list_mul_2 _ _)
        (AutoListH.list___mul___list_int_3 p.1 _ c _ _ (by simp [Builtin.List.listFitsIndex]; lia) (by simp; lia) (by simp [Builtin.List.listTooLong, sizeLine]; lia))
        ⟨ho, ?_⟩⟩)
  have hrep : ∀ (n : Nat) (acc : Array Value), List.foldl (fun x1 x2 => x1 ++ x2) acc (List.replicate n [b].toArray) = acc ++ (List.replicate n b).toArray := by
    intro n
    induction n with
    | zero => intro acc; simp
    | succ n ih => intro acc; rw [List.replicate_succ, List.foldl_cons, ih, List.replicate_succ]; apply Array.toList_inj.mp; simp
  have hal : ∀ n, All2 (VR ad) (List.replicate n v) (List.replicate n b) := by
    intro n
    induction n with
    | zero => exact .nil
    | succ n ih => exact .cons hv1 ih
  obtain ⟨x', st, hv'⟩ := new_list y (a := s.heap.objs.size) (h' := s.heap.push { cls := .type "list", data := .seq (List.replicate i.toNat b).toArray }) (rs := List.replicate i.toNat b) (n := 0) (vs := List.replicate i.toNat v)
      (fun b ob e => Heap.get?_push_of_some _ e) (y.fresh (Nat.le_refl _)) (by rw [Heap.get?_push_size _ rfl]) (hal _)
  have := k _ _ s.toks _ st x' hv'
  have e1 : (if [b].toArray.isEmpty = true then 0 else i.toNat) = i.toNat := rfl
  rw [e1, hrep, Array.empty_append]
  exact this⟩
theorem gm_add {a b : Int} : AugM w .add (.int a) (.int b) (.int (a + b)) := ⟨fun ho hv hu q => by
  obtain ⟨_, rfl⟩ := hv.isInt; obtain ⟨_, rfl⟩ := hu.isInt; cases ho; exact PyProof.Rows.iadd_int (q _ _ (.int _ _))⟩
theorem gm_sub {a b : Int} : AugM w .sub (.int a) (.int b) (.int (a - b)) := ⟨fun ho hv hu q => by
  obtain ⟨_, rfl⟩ := hv.isInt; obtain ⟨_, rfl⟩ := hu.isInt; cases ho; exact PyProof.Rows.isub_int (q _ _ (.int _ _))⟩
end
end Mine
end
section
open PySem PySem.W PySem.Calls PyProof.Rows
set_option maxRecDepth 100000
namespace Mine
structure Bse (w : World) (base : Heap) : Prop extends Bs w base where
  top : ∃ mg mb, base.Ns mainGlobals mg ∧ base.Ns builtinsNs mb ∧ (∀ x : Str, x ≠ "__name__" → mb x = bootBuiltins x) ∧ ∀ h : Heap, base.StaysIn h → h.BuiltinsAt mg 655
  code : CodeHd base 659 655
structure FrR (base : Heap) (env : Env) (fr : MF) (ad : AD) (h : Heap) : Prop where
  kind : env.scope.kind = .function
  glob : env.globals = mainGlobals
  bi : env.builtins = builtinsNs
  loc : ∃ m, h.Ns env.locals m ∧ ∀ x v, getL' x fr.loc = some v → ∃ u, m (Str.ofString x) = some u ∧ VR ad v u
  cel : ∀ x n, getL' x fr.cel = some n → ∃ q : Addr × Addr, ad[n]? = some q ∧ env.cells.lookup (Str.ofString x) = some q.1
  own : ∀ (n : Nat) (p : Addr × Addr), ad[n]? = some p → ¬ Own p env.locals
  off : base.get? env.locals = none
  code : fr.law = true → env.code = .ref 659
structure StepL (L : Addr) (ad : AD) (h : Heap) (ad' : AD) (h' : Heap) : Prop where
  ext : Pre ad ad'
  keep : ∀ b o, b ≠ L → h.get? b = some o → (∀ (n : Nat) (p : Addr × Addr), ad[n]? = some p → ¬ Own p b) → h'.get? b = some o
  fresh : ∀ (n : Nat) (p : Addr × Addr) (b : Addr), ad'[n]? = some p → ad.length ≤ n → Own p b → h.get? b = none
theorem Step.toL {L : Addr} {ad ad' : AD} {h h' : Heap} (x : Step ad h ad' h') : StepL L ad h ad' h' := ⟨x.ext, fun b o _ => x.keep b o, x.fresh⟩
section
variable {w : World} {base : Heap} {σ σ' : MS} {ad ad' : AD} {h h' i : Heap} {env : Env} {fr : MF} {b c : AD}
theorem FrR.there (x : FrR base env fr ad h) : ∃ o, h.get? env.locals = some o := by
  obtain ⟨m, hn, _⟩ := x.loc
  obtain ⟨o, _, _, ho, _⟩ := hn
  exact ⟨o, ho⟩
theorem FrR.step (x : FrR base env fr ad h) (st : Step ad h ad' h') : FrR base env fr ad' h' where
  kind := x.kind
  glob := x.glob
  bi := x.bi
  loc := by
    obtain ⟨m, hn, hl⟩ := x.loc
    obtain ⟨o, ho⟩ := x.there
    refine ⟨m, hn.at' fun o e => st.keep _ _ e fun n p hp => x.own n p hp, fun y v e => ?_⟩
    obtain ⟨u, h1, h2⟩ := hl y v e
    exact ⟨u, h1, h2.mono st.ext⟩
  cel := fun y n e => let ⟨q, h1, h2⟩ := x.cel y n e; ⟨q, st.ext _ _ h1, h2⟩
  own := fun n p hp ho => by
    by_cases q : n < ad.length
    · have e1 : ad[n]? = some ad[n] := List.getElem?_eq_getElem q
      have e2 := st.ext _ _ e1
      rw [hp] at e2
      cases e2
      exact x.own n _ e1 ho
    · obtain ⟨o, e⟩ := x.there
      rw [st.fresh n p _ hp (Nat.not_lt.mp q) ho] at e; cases e
  off := x.off
  code := x.code
theorem StepL.trans {L : Addr} (x : StepL L ad h b i) (H : HR w base σ b i) (hL : ∃ o, h.get? L = some o) (hL' : ∃ o, i.get? L = some o) (y : StepL L b i c h') : StepL L ad h c h' where
  ext := x.ext.trans y.ext
  keep := fun d o nd e hn => by
    refine y.keep d o nd (x.keep d o nd e hn) fun n p hp ho => ?_
    by_cases q : n < ad.length
    · have e1 : ad[n]? = some ad[n] := List.getElem?_eq_getElem q
      have e2 := x.ext _ _ e1
      rw [hp] at e2
      cases e2
      exact hn n _ e1 ho
    · rw [x.fresh n p d hp (Nat.not_lt.mp q) ho] at e; cases e
  fresh := fun n p d hp hn ho => by
    by_cases q : n < b.length
    · have e1 : b[n]? = some b[n] := List.getElem?_eq_getElem q
      have e2 := y.ext _ _ e1
      rw [hp] at e2
      cases e2
      exact x.fresh n _ d e1 hn ho
    · have z := y.fresh n p d hp (Nat.not_lt.mp q) ho
      cases e : h.get? d with
      | none => rfl
      | some o =>
        by_cases q : ∃ (m : Nat) (p' : Addr × Addr), ad[m]? = some p' ∧ Own p' d
        · obtain ⟨m, p', hm, ho'⟩ := q
          obtain ⟨_, o', ho''⟩ := H.off m p' d (x.ext _ _ hm) ho'
          rw [z] at ho''; cases ho''
        · by_cases nd : d = L
          · subst nd
            obtain ⟨o', e'⟩ := hL'
            rw [z] at e'; cases e'
          · have := x.keep d o nd e fun m p' hm ho' => q ⟨m, p', hm, ho'⟩
            rw [z] at this; cases this
theorem FrR.set (x : FrR base env fr ad h) (H : HR w base σ ad h) {y : String} {v : MV} {u : Value} (hv : VR ad v u) {m : Str → Option Value} (hm : h.Ns env.locals m)
    (hn : h'.Ns env.locals (fun z => if z = Str.ofString y then some u else m z)) (hs : Heap.SameBut env.locals h h') :
    FrR base env ⟨setL y v fr.loc, fr.cel, fr.law⟩ ad h' ∧ HR w base σ ad h' ∧ StepL env.locals ad h ad h' := by
  have hk : ∀ (n : Nat) (p : Addr × Addr) b ob, ad[n]? = some p → Own p b → h.get? b = some ob → h'.get? b = some ob := fun n p b ob hp ho e =>
    (hs.2 b fun z => x.own n p hp (z ▸ ho)).trans e
  refine ⟨⟨x.kind, x.glob, x.bi, ⟨_, hn, fun z t e => ?_⟩, x.cel, x.own, x.off, x.code⟩, ⟨H.len, fun n o e => ?_, H.apart, fun n p b e ho => ?_, H.three, fun b o e => ?_⟩, .refl _, fun b o nb e _ => (hs.2 b nb).trans e, ?_⟩
  · obtain ⟨m', hm', hl⟩ := x.loc
    have hag : ∀ z, m' z = m z := fun z => hm'.agree hm z
    have key : ∀ l : List (String × MV), getL' z (setL y v l) = if y = z then some v else getL' z l := by
      intro l
      induction l with
      | nil =>
        unfold setL getL'
        by_cases q : y = z
        · rw [if_pos q, if_pos q]
        · rw [if_neg q, if_neg q]; rfl
      | cons a l ih =>
        obtain ⟨a, b⟩ := a
        unfold setL
        by_cases q : a = y
        · subst q
          rw [if_pos rfl]
          unfold getL'
          by_cases q : a = z
          · rw [if_pos q, if_pos q]
          · rw [if_neg q, if_neg q, if_neg q]
        · rw [if_neg q]
          unfold getL'
          rw [ih]
          by_cases r : a = z
          · subst r
            rw [if_pos rfl, if_pos rfl, if_neg fun e => q e.symm]
          · rw [if_neg r, if_neg r]
    rw [key] at e
    by_cases q : y = z
    · subst q
      rw [if_pos rfl] at e
      cases e
      exact ⟨u, by rw [if_pos rfl], hv⟩
    · rw [if_neg q] at e
      obtain ⟨u', h1, h2⟩ := hl z t e
      refine ⟨u', ?_, h2⟩
      rw [if_neg fun e => q (cps_inj e).symm, ← hag, h1]
  · obtain ⟨p, hp, r⟩ := H.obj n o e
    exact ⟨p, hp, r.keep (.refl _) fun c ob oc e => hk n p c ob hp oc e⟩
  · obtain ⟨a, o, d⟩ := H.off n p b e ho
    exact ⟨a, o, hk n p b o e ho d⟩
  · refine (hs.2 b fun z => ?_).trans (H.stays b o e)
    rw [z, x.off] at e; cases e
  · exact fun n _ _ e hn _ => absurd (List.getElem?_eq_some_iff.mp e).1 (Nat.not_lt.mpr hn)
end
end Mine
end
section
open PySem PySem.W PySem.Calls PyProof.Rows
set_option maxRecDepth 100000
namespace Mine
structure Wb where
  w : World
  base : Heap
  b : Bse w base
noncomputable abbrev Gd (cl : Nat → Arguments → FuncBody → Scope → Bool) : Prop := ∀ k p b s, cl k p b s = true → ClF k p b s
structure At (X : Wb) (n : Nat) (fr : MF) (σ : MS) (cl : Nat → Arguments → FuncBody → Scope → Bool) (ns : List (Str × NameKind)) (env : Env) (ad : AD) (A : Around) (s : Shared) : Prop where
  g : Gd cl
  hs : env.scope.names = ns
  R : Room A n
  F : FrR X.base env fr ad s.heap
  H : HR X.w X.base σ ad s.heap
noncomputable def KwR (ad : AD) (a : String × MV) (b : Str × Value) : Prop := b.1 = Str.ofString a.1 ∧ VR ad a.2 b.2
noncomputable def Callable (h : Heap) (w : World) (f : Value) : Prop := ∃ k, (k = Keeper.frame ∨ k = Keeper.machine ∨ k = Keeper.boundFrame) ∧ Looks (model PR w) h (keeperOf f) k
section
variable (X : Wb) (n : Nat) (fr : MF)
structure EvM (m : ME) (σ : MS) (v : MV) (σ' : MS) : Prop where
  go : ∀ {cl ns j e env ad A s E Q}, chkE cl ns j e m = true → At X n fr σ cl ns env ad A s → Cont X.w X.base σ' ad v s Q → wpAny (model PR X.w) A (eval e env) Q E s
structure EvsM (ms : List ME) (σ : MS) (vs : List MV) (σ' : MS) : Prop where
  go : ∀ {cl ns j es env ad A s E pos} {Q : List Value → Shared → Prop}, chkL (fun e m => notStar e && chkE cl ns j e m) es ms = true → At X n fr σ cl ns env ad A s →
    (∀ ad' h' tk us, Step ad s.heap ad' h' → HR X.w X.base σ' ad' h' → All2 (VR ad') vs us → Q us { s with heap := h', toks := tk }) → wpAny (model PR X.w) A (spliced (backTo pos (starEach es env))) Q E s
structure TeM (m : ME) (σ : MS) (b : Bool) (σ' : MS) : Prop where
  go : ∀ {cl ns j e env ad A s E} {Q : Bool → Shared → Prop}, chkE cl ns j e m = true → At X n fr σ cl ns env ad A s →
    (∀ ad' h' tk, Step ad s.heap ad' h' → HR X.w X.base σ' ad' h' → Q b { s with heap := h', toks := tk }) → wpAny (model PR X.w) A (isTrue e env (eval e env)) Q E s
structure CaM (f : MV) (args : List MV) (kw : List (String × MV)) (σ : MS) (v : MV) (σ' : MS) : Prop where
  go : ∀ {ad s f'}, HR X.w X.base σ ad s.heap → VR ad f f' → Callable s.heap X.w f' ∧
    ∀ {A args' kw' E Q}, Room A n → All2 (VR ad) args args' → All2 (KwR ad) kw kw' → Cont X.w X.base σ' ad v s Q → wpAny (model PR X.w) A (call f' args' kw') Q E s
end
section
variable {X : Wb} {n : Nat} {fr : MF} {σ σ1 σ2 σ3 : MS} {m l d : ME} {v u t r : MV} {ms : List ME} {vs us : List MV} {x : String} {p q : Bool}
section
variable {cl : Nat → Arguments → FuncBody → Scope → Bool} {ns : List (Str × NameKind)} {env : Env} {ad ad' : AD} {A : Around} {s : Shared} {h' : Heap} {tk : Tok}
theorem At.step (a : At X n fr σ cl ns env ad A s) (st : Step ad s.heap ad' h') (H : HR X.w X.base σ1 ad' h') : At X n fr σ1 cl ns env ad' A { s with heap := h', toks := tk } := ⟨a.g, a.hs, a.R, a.F.step st, H⟩
theorem At.kindOf (a : At X n fr σ cl ns env ad A s) {y : Str} {k : NameKind} (h : isK ns y k = true) : env.kindOf y = some k := by
  unfold Env.kindOf; rw [a.hs]; exact isK_eq h
theorem Room.zero (R : Room A n) : Room A 0 := ⟨R.hand, by have := R.depth; lia, by have := R.units; lia⟩
theorem truth {b : Bool} {v' : Value} {E : Value → Shared → Prop} {Q : Bool → Shared → Prop} (hv : VR ad (.bool b) v') (h : Q b s) : wpAny (model PR X.w) A (truthy v') Q E s := by
  cases hv; exact wpAny_truthy_bool h
theorem behind {op : PySem.CmpOp} {b : Expr} (hb : noSet b = true) : behindInMarks op b = false := by
  unfold behindInMarks
  cases b <;> first | rfl | cases hb
theorem subbed {slice : Expr} (h : notSlice slice = true) (o i : Value) : subscripted slice false o i = operate [o, i] (getItem o i) := by
  cases slice <;> first | rfl | cases h
theorem plain_of {f : Expr → ME → Bool} : ∀ {es : List Expr} {ms : List ME}, chkL (fun e m => notStar e && f e m) es ms = true → ∀ (env : Env) pos, (backTo pos (starEach es env)).any (·.1) = false :=
  fun h => chkL_ok (R := fun e _ => notStar e = true) (S := fun es _ => ∀ (env : Env) pos, (backTo pos (starEach es env)).any (·.1) = false) (fun _ _ g => (and2 g).1) (fun _ _ => rfl) (fun e m es ms a b env pos => by
    rw [show starEach (e :: es) env = (false, eval e env) :: starEach es env by cases e <;> first | rfl | exact fnt a]
    exact (Bool.false_or _).trans (b env pos)) h
theorem starred_no {e : Expr} (h : notStar e = true) (rest : List Expr) (env : Env) : starEach (e :: rest) env = (false, eval e env) :: starEach rest env := by
  cases e <;> first | rfl | exact fnt h
end
theorem em_none : EvM X n fr .none σ .none σ := ⟨fun {cl ns j e env ad A s E Q} hc a k => by
  cases j; exact fnt hc
  exact vConst_el hc fun c _ _ g => dec_el g (wpAny_Constant_none (k.same a.H .none _))⟩
theorem em_bool : EvM X n fr (.bool p) σ (.bool p) σ := ⟨fun {cl ns j e env ad A s E Q} hc a k => by
  cases j; exact fnt hc
  exact vConst_el hc fun c _ _ g => dec_el g (wpAny_Constant_bool (k.same a.H (.bool _) _))⟩
theorem em_int {i : Int} : EvM X n fr (.int i) σ (.int i) σ := ⟨fun {cl ns j e env ad A s E Q} hc a k => by
  cases j; exact fnt hc
  refine (or2 hc).elim (fun h => vConst_el h fun c _ _ g => dec_el g (wpAny_Constant_int (k.same a.H (.int _ _) _))) fun h => vUn_el h fun o b q g => dec_el (and2 g).1 (vConst_el (and2 g).2 fun c _ _ g => dec_el g (wpAny_UnaryOp (wpAny_Constant_int (neg_int ?_))))
  rw [Int.neg_neg]; exact k.same a.H (.int _ _) _⟩
theorem em_str : EvM X n fr (.str x) σ (.str (Str.ofString x)) σ := ⟨fun {cl ns j e env ad A s E Q} hc a k => by
  cases j; exact fnt hc
  exact vConst_el hc fun c _ _ g => dec_el g (wpAny_Constant_str (k.same a.H (.str _ _) _))⟩
theorem em_var (h : getL' x fr.loc = some v) : EvM X n fr (.var x) σ v σ := ⟨fun {cl ns j e env ad A s E Q} hc a k => by
  cases j; exact fnt hc
  obtain ⟨m, hn, hm⟩ := a.F.loc
  obtain ⟨u, h1, h2⟩ := hm x _ h
  exact vName_el hc fun y p g => nm_el (and3 g).1 (wpAny_Name (wpAny_loadName_local a.F.kind (a.kindOf (and3 g).2.1) hn h1 (k.same a.H h2 _)) (nD_eq (and3 g).2.2))⟩
theorem em_cel {c : Nat} (h : getL' x fr.cel = some c) (g : σ.obj c = some (.cell (some v))) : EvM X n fr (.cel x) σ v σ := ⟨fun {cl ns j e env ad A s E Q} hc a k => by
  cases j; exact fnt hc
  obtain ⟨q, h1, h2⟩ := a.F.cel x c h
  obtain ⟨p, hp, o, r, h3, h4, h5⟩ := a.H.obj c _ g
  rw [h1] at hp
  cases hp
  cases r with
  | none => exact h5.elim
  | some u =>
    exact vName_el hc fun y p g => nm_el (and3 g).1 ((or2 (and3 g).2.2).elim (fun g3 => wpAny_Name (wpAny_loadName_cell a.F.kind (a.kindOf g3) h2 ⟨o, h3, h4⟩ (k.same a.H h5 _)) (nD_eq (and3 g).2.1))
      fun g3 => wpAny_Name (wpAny_loadName_free a.F.kind (a.kindOf (and2 g3).1) h2 ⟨o, h3, h4⟩ (k.same a.H h5 _) (not1 (and2 g3).2)) (nD_eq (and3 g).2.1))⟩
theorem em_val : EvM X n fr (.val v) σ v σ := ⟨fun {cl ns j e env ad A s E Q} hc a k => by
  cases j; exact fnt hc
  obtain ⟨mg, mb, hg, hb, hbi, _⟩ := X.b.top
  refine vName_el hc fun y p g => Name_function_global a.F.kind (a.kindOf (and3 g).1) ?_ (nD_eq (and3 g).2.1)
  have hg' := hg.keeps a.H.stays
  have hb' := hb.keeps a.H.stays
  rw [← a.F.glob] at hg'
  rw [← a.F.bi] at hb'
  cases gHas_ok X.w.params (and3 g).2.2 with
  | top g' => exact loadGlobal_global hg' (mg_of X.b.k hg (g' X.w.params)) (k.same a.H (.top _) _)
  | bi g' hv hn => exact loadGlobal_builtin hg' (mg_none_of X.b.k hg (g' X.w.params)) hb' ((hbi _ hn).trans hv) (k.same a.H (.bi _) _)
  | typ g' hv hn => exact loadGlobal_builtin hg' (mg_none_of X.b.k hg (g' X.w.params)) hb' ((hbi _ hn).trans hv) (k.same a.H (.typ _) _)⟩
theorem em_attr (D : EvM X n fr m σ v σ1) (G : AttM X.w X.base σ1 v x u) : EvM X n fr (.attr m x) σ u σ1 := ⟨fun {cl ns j e env ad A s E Q} hc a k => by
  cases j; exact fnt hc
  exact vAttr_el hc fun b y p g => nm_el (and3 g).1 (Attribute_any_ (D.go (and3 g).2.2 a fun ad1 h1 tk1 z1 st1 H1 hz1 => G.go (s := { s with heap := h1, toks := tk1 }) H1 hz1 fun tk z hz => k ad1 h1 tk z st1 H1 hz) (by cases b <;> first | rfl | exact fnt (and3 g).2.1))⟩
theorem em_sub (D : EvM X n fr m σ v σ1) (D2 : EvM X n fr l σ1 u σ2) (G : SubM X.w X.base σ2 v u r) : EvM X n fr (.sub m l) σ r σ2 := ⟨fun {cl ns j e env ad A s E Q} hc a k => by
  cases j; exact fnt hc
  refine vSub_el hc fun b i p g => Subscript_ (D.go (and3 g).2.1 a fun ad1 h1 tk1 z1 st1 H1 hz1 => D2.go (and3 g).2.2 (a.step st1 H1) fun ad2 h2 tk2 z2 st2 H2 hz2 => ?_)
  obtain ⟨wp, T, id, hT, hl⟩ := G.go (s := { s with heap := h2, toks := tk2 }) H2 (hz1.mono st2.ext) hz2 fun tk y hy => k ad2 h2 tk y (st1.trans H1 st2) H2 hy
  exact tail_any hT hl wp (subbed (and3 g).1 _ _)⟩
theorem em_bin {c : BOp} (D : EvM X n fr m σ v σ1) (D2 : EvM X n fr l σ1 u σ2) (G : BinM X.w X.base c σ2 v u r σ3) : EvM X n fr (.bin c m l) σ r σ3 := ⟨fun {cl ns j e env ad A s E Q} hc a k => by
  cases j; exact fnt hc
  exact vBin_el hc fun a' o b' p g => wpAny_BinOp (D.go (and3 g).2.1 a fun ad1 h1 tk1 z1 st1 H1 hz1 => D2.go (and3 g).2.2 (a.step st1 H1) fun ad2 h2 tk2 z2 st2 H2 hz2 =>
    G.go (s := { s with heap := h2, toks := tk2 }) (bopB_eq (and3 g).1) H2 (hz1.mono st2.ext) hz2 fun ad3 h3 tk3 z3 st3 H3 hz3 => k ad3 h3 tk3 z3 ((st1.trans H1 st2).trans H2 st3) H3 hz3)⟩
theorem em_cmp {c : COp} (D : EvM X n fr m σ v σ1) (D2 : EvM X n fr l σ1 u σ2) (G : CmpM X.w X.base c σ2 v u p) : EvM X n fr (.cmp c m l) σ (.bool p) σ2 := ⟨fun {cl ns j e env ad A s E Q} hc a k => by
  cases j; exact fnt hc
  exact vCmp_el hc fun a' os bs _ g => v1_el g fun o g => v1_el g fun b' g => wpAny_Compare1 (D.go (and4 g).2.2.1 a fun ad1 h1 tk1 z1 st1 H1 hz1 => D2.go (and4 g).2.2.2 (a.step st1 H1) fun ad2 h2 tk2 z2 st2 H2 hz2 =>
    G.go (s := { s with heap := h2, toks := tk2 }) (copB_eq (and4 g).1) a.R.zero H2 (hz1.mono st2.ext) hz2 fun tk => k ad2 h2 tk _ (st1.trans H1 st2) H2 (.bool _)) (behind (and4 g).2.1)⟩
theorem tm_cmp {c : COp} (D : EvM X n fr m σ v σ1) (D2 : EvM X n fr l σ1 u σ2) (G : CmpM X.w X.base c σ2 v u p) : TeM X n fr (.cmp c m l) σ p σ2 := ⟨fun {cl ns j e env ad A s E Q} hc a k => by
  cases j; exact fnt hc
  exact vCmp_el hc fun a' os bs _ g => v1_el g fun o g => v1_el g fun b' g => wpAny_isTrue_Compare1 (D.go (and4 g).2.2.1 a fun ad1 h1 tk1 z1 st1 H1 hz1 => D2.go (and4 g).2.2.2 (a.step st1 H1) fun ad2 h2 tk2 z2 st2 H2 hz2 =>
    G.go (s := { s with heap := h2, toks := tk2 }) (copB_eq (and4 g).1) a.R.zero H2 (hz1.mono st2.ext) hz2 fun tk => wpAny_truthy_bool (k ad2 h2 tk (st1.trans H1 st2) H2)) (behind (and4 g).2.1)⟩
theorem tm_not (D : TeM X n fr m σ p σ1) : TeM X n fr (.not m) σ (!p) σ1 := ⟨fun {cl ns j e env ad A s E Q} hc a k => by
  cases j; exact fnt hc
  exact vUn_el hc fun o a' p g => dec_el (and2 g).1 (wpAny_isTrue_Not (D.go (and2 g).2 a k))⟩
noncomputable def plainT : ME → Bool
  | .var _ => true
  | .cel _ => true
  | .attr _ _ => true
  | .sub _ _ => true
  | .call _ _ => true
  | _ => false
theorem tm_of (D : EvM X n fr m σ (.bool p) σ1) (h : plainT m = true) : TeM X n fr m σ p σ1 := ⟨fun {cl ns j e env ad A s E Q} hc a k => by
  refine wpAny_isTrue_value (D.go hc a fun ad' h' tk z st H' hz => truth hz (k ad' h' tk st H')) ?_
  cases j; exact fnt hc
  cases m with
  | var x => exact vName_el (P := fun e => isTrue e env (eval e env) = (do let v ← eval e env; standAt e.pos; holding [v] (truthy v))) hc fun _ _ _ => rfl
  | cel x => exact vName_el (P := fun e => isTrue e env (eval e env) = (do let v ← eval e env; standAt e.pos; holding [v] (truthy v))) hc fun _ _ _ => rfl
  | attr _ _ => exact vAttr_el (P := fun e => isTrue e env (eval e env) = (do let v ← eval e env; standAt e.pos; holding [v] (truthy v))) hc fun _ _ _ _ => rfl
  | sub _ _ => exact vSub_el (P := fun e => isTrue e env (eval e env) = (do let v ← eval e env; standAt e.pos; holding [v] (truthy v))) hc fun _ _ _ _ => rfl
  | call _ _ => exact vCall_el (P := fun e => isTrue e env (eval e env) = (do let v ← eval e env; standAt e.pos; holding [v] (truthy v))) hc fun _ _ _ _ _ => rfl
  | _ => exact fnt h⟩
theorem tm_and (D : TeM X n fr m σ p σ1) (D2 : p = true → TeM X n fr l σ1 q σ2) (hq : p = false → q = false ∧ σ2 = σ1) : TeM X n fr (.and m l) σ q σ2 := ⟨fun {cl ns j e env ad A s E Q} hc a k => by
  cases j; exact fnt hc
  refine vBool_el (P := fun e => wpAny (model PR X.w) A (isTrue e env (eval e env)) Q E s) hc fun o vs _ g => dec_el (and2 g).1 (vCons_el (and2 g).2 fun a' r g => v1_el g fun b' g => wpAny_isTrue_BoolOp (wpAny_allTrue_And_cons (D.go (and2 g).1 a fun ad1 h1 tk1 st1 H1 => ?_)))
  cases p with
  | false => obtain ⟨rfl, rfl⟩ := hq rfl; exact k ad1 h1 tk1 st1 H1
  | true =>
    refine wpAny_allTrue_And_cons ((D2 rfl).go (and2 g).2 (a.step st1 H1) fun ad2 h2 tk2 st2 H2 => ?_)
    have := k ad2 h2 tk2 (st1.trans H1 st2) H2
    cases q with
    | true => exact wpAny_allTrue_And_nil this
    | false => exact this⟩
theorem tm_andT (D : TeM X n fr m σ true σ1) (D2 : TeM X n fr l σ1 q σ2) : TeM X n fr (.and m l) σ q σ2 := tm_and D (fun _ => D2) fun h => by cases h
theorem tm_andF (D : TeM X n fr m σ false σ1) : TeM X n fr (.and m l) σ false σ1 := tm_and D (fun h => by cases h) fun _ => ⟨rfl, rfl⟩
theorem Or_more {M : Model} {A : Around} {E : Value → Shared → Prop} {s : Shared} {env : Env} {x b c : Expr} {rest : List Expr} {pos : Pos} {Q : Value → Shared → Prop}
    (h : wpAny M A (eval x env) (fun v s₁ => wpAny M A (truthy v) (fun t s₂ => if t then Q v s₂ else wpAny M A (eval (.BoolOp .Or (b :: c :: rest) pos) env) Q E s₂) E s₁) E s) :
    wpAny M A (eval (.BoolOp .Or (x :: b :: c :: rest) pos) env) Q E s := by
  show wpAny M A (do
    let v ← eval x env
    standAt pos
    let t ← holding [v] (truthy v)
    match BoolOp.Or, t with
    | .And, false | .Or, true => pure v
    | _, _ => eval (.BoolOp .Or (b :: c :: rest) pos) env) Q E s
  refine wpAny_bind (wpAny_mono h (fun v s₁ h₁ => wpAny_bind (wpAny_standAt (wpAny_bind (wpAny_holding (wpAny_mono h₁ (fun t s₂ h₂ => ?_) fun _ _ x => x))))) fun _ _ x => x)
  cases t with
  | false => exact h₂
  | true => exact wpAny_pure h₂
theorem tm_or (D : TeM X n fr m σ p σ1) (D2 : p = false → TeM X n fr l σ1 q σ2) (hq : p = true → q = true ∧ σ2 = σ1) : TeM X n fr (.or m l) σ q σ2 := ⟨fun {cl ns j e env ad A s E Q} hc a k => by
  cases j; exact fnt hc
  refine vBool_el (P := fun e => wpAny (model PR X.w) A (isTrue e env (eval e env)) Q E s) hc fun o vs _ g => dec_el (and2 g).1 (vCons_el (and2 g).2 fun a' r g => vCons_el g fun b' r g => ?_)
  refine wpAny_isTrue_BoolOp (wpAny_allTrue_Or_cons (D.go (and2 g).1 a fun ad1 h1 tk1 st1 H1 => ?_))
  cases p with
  | true => obtain ⟨rfl, rfl⟩ := hq rfl; exact k ad1 h1 tk1 st1 H1
  | false =>
    refine (or2 (and2 g).2).elim (fun g2 => ?_) fun g2 => ?_
    · refine nil_el (P := fun r => wpAny (model PR X.w) A (allTrue .Or (b' :: r) env) Q E _) (and2 g2).1 (wpAny_allTrue_Or_cons ((D2 rfl).go (and2 g2).2 (a.step st1 H1) fun ad2 h2 tk2 st2 H2 => ?_))
      have := k ad2 h2 tk2 (st1.trans H1 st2) H2
      cases q with
      | true => exact this
      | false => exact wpAny_allTrue_Or_nil this
    · refine vCons_el (P := fun r => wpAny (model PR X.w) A (allTrue .Or (b' :: r) env) Q E _) g2 fun c' r g2 => ?_
      have := (D2 rfl).go (E := E) (Q := Q) g2 (a.step (tk := tk1) st1 H1) fun ad2 h2 tk2 st2 H2 => k ad2 h2 tk2 (st1.trans H1 st2) H2
      rw [arm_isTrue_BoolOp] at this
      exact this⟩
theorem tm_orT (D : TeM X n fr m σ true σ1) : TeM X n fr (.or m l) σ true σ1 := tm_or D (fun h => by cases h) fun _ => ⟨rfl, rfl⟩
theorem tm_orF (D : TeM X n fr m σ false σ1) (D2 : TeM X n fr l σ1 q σ2) : TeM X n fr (.or m l) σ q σ2 := tm_or D (fun _ => D2) fun h => by cases h
theorem em_or (D : EvM X n fr m σ (.bool p) σ1) (D2 : p = false → EvM X n fr l σ1 v σ2) (hq : p = true → v = .bool true ∧ σ2 = σ1) : EvM X n fr (.or m l) σ v σ2 := ⟨fun {cl ns j e env ad A s E Q} hc a k => by
  cases j; exact fnt hc
  refine vBool_el (P := fun e => wpAny (model PR X.w) A (eval e env) Q E s) hc fun o vs pos g => dec_el (and2 g).1 (vCons_el (and2 g).2 fun a' r g => vCons_el g fun b' r g => (or2 (and2 g).2).elim (fun g2 => nil_el (and2 g2).1 (wpAny_Or2 ?_)) fun g2 => vCons_el g2 fun c' q' g2 => Or_more ?_)
  all_goals
    refine D.go (and2 g).1 a fun ad1 h1 tk1 z1 st1 H1 hz1 => truth hz1 ?_
    cases p with
    | true => obtain ⟨rfl, rfl⟩ := hq rfl; exact k ad1 h1 tk1 z1 st1 H1 hz1
    | false => exact (D2 rfl).go (by first | exact (and2 g2).2 | exact g2) (a.step st1 H1) fun ad2 h2 tk2 z2 st2 H2 hz2 => k ad2 h2 tk2 z2 (st1.trans H1 st2) H2 hz2⟩
theorem em_and (D : EvM X n fr m σ (.bool p) σ1) (D2 : p = true → EvM X n fr l σ1 v σ2) (hq : p = false → v = .bool false ∧ σ2 = σ1) : EvM X n fr (.and m l) σ v σ2 := ⟨fun {cl ns j e env ad A s E Q} hc a k => by
  cases j; exact fnt hc
  refine vBool_el (P := fun e => wpAny (model PR X.w) A (eval e env) Q E s) hc fun o vs pos g => dec_el (and2 g).1 (vCons_el (and2 g).2 fun a' r g => v1_el g fun b' g => wpAny_And2 (D.go (and2 g).1 a fun ad1 h1 tk1 z1 st1 H1 hz1 => truth hz1 ?_))
  cases p with
  | false => obtain ⟨rfl, rfl⟩ := hq rfl; exact k ad1 h1 tk1 z1 st1 H1 hz1
  | true => exact (D2 rfl).go (and2 g).2 (a.step st1 H1) fun ad2 h2 tk2 z2 st2 H2 hz2 => k ad2 h2 tk2 z2 (st1.trans H1 st2) H2 hz2⟩
theorem em_cmp2 {c1 c2 : COp} (D : EvM X n fr m σ v σ1) (D2 : EvM X n fr l σ1 u σ2) (G : CmpM X.w X.base c1 σ2 v u p) (D3 : p = true → EvM X n fr d σ2 t σ3) (G2 : p = true → CmpM X.w X.base c2 σ3 u t q) (hq : p = false → q = false ∧ σ3 = σ2) : EvM X n fr (.cmp2 c1 c2 m l d) σ (.bool q) σ3 := ⟨fun {cl ns j e env ad A s E Q} hc a k => by
  cases j; exact fnt hc
  refine vCmp_el (P := fun e => wpAny (model PR X.w) A (eval e env) Q E s) hc fun a' os bs _ g => vCons_el g fun o1 os g => v1_el g fun o2 g => vCons_el g fun b' bs g => v1_el g fun d' g => ?_
  obtain ⟨h1, h2, h3, h4, h5, h6, h7⟩ := and7 g
  have hm : lastMarks [o1, o2] [b', d'] = false := by
    have := behind (op := o2) h4
    simpa [lastMarks] using this
  refine Compare_chain (D.go h5 a fun ad1 h1' tk1 z1 st1 H1 hz1 => ?_) hm
  refine chain_link (D2.go h6 (a.step st1 H1) fun ad2 h2' tk2 z2 st2 H2 hz2 => G.go (s := { s with heap := h2', toks := tk2 }) (copB_eq h1) a.R.zero H2 (hz1.mono st2.ext) hz2 fun tk => wpAny_truthy_bool ?_)
  cases p with
  | false => obtain ⟨rfl, rfl⟩ := hq rfl; exact k ad2 h2' tk _ (st1.trans H1 st2) H2 (.bool _)
  | true => exact chain_last ((D3 rfl).go h7 ((a.step (tk := tk1) st1 H1).step st2 H2) fun ad3 h3 tk3 z3 st3 H3 hz3 => (G2 rfl).go (s := { s with heap := h3, toks := tk3 }) (copB_eq h2) a.R.zero H3 (hz2.mono st3.ext) hz3 fun tk => k ad3 h3 tk _ ((st1.trans H1 st2).trans H2 st3) H3 (.bool _))⟩
theorem em_ife {c : ME} (T : TeM X n fr c σ p σ1) (D : EvM X n fr (if p then m else l) σ1 v σ2) : EvM X n fr (.ife c m l) σ v σ2 := ⟨fun {cl ns j e env ad A s E Q} hc a k => by
  cases j; exact fnt hc
  refine vIf_el hc fun t' a' b' _ g => wpAny_IfExp (T.go (and3 g).1 a fun ad1 h1 tk1 st1 H1 => ?_)
  cases p with
  | true => exact D.go (and3 g).2.1 (a.step st1 H1) fun ad2 h2 tk2 z2 st2 H2 hz2 => k ad2 h2 tk2 z2 (st1.trans H1 st2) H2 hz2
  | false => exact D.go (and3 g).2.2 (a.step st1 H1) fun ad2 h2 tk2 z2 st2 H2 hz2 => k ad2 h2 tk2 z2 (st1.trans H1 st2) H2 hz2⟩
theorem ems_nil : EvsM X n fr [] σ [] σ := ⟨fun {cl ns j es env ad A s E pos Q} hc a k => by
  cases es with
  | nil => exact args_nil (k ad s.heap s.toks [] (.refl _ _) a.H .nil)
  | cons _ _ => exact fnt hc⟩
theorem ems_cons (D : EvM X n fr m σ v σ1) (D2 : EvsM X n fr ms σ1 vs σ2) : EvsM X n fr (m :: ms) σ (v :: vs) σ2 := ⟨fun {cl ns j es env ad A s E pos Q} hc a k => by
  cases es with
  | nil => exact fnt hc
  | cons e es =>
    exact args_cons (D.go (and2 (and2 hc).1).2 a fun ad1 h1 tk1 z1 st1 H1 hz1 => D2.go (and2 hc).2 (a.step st1 H1) fun ad2 h2 tk2 zs st2 H2 hzs => k ad2 h2 tk2 _ (st1.trans H1 st2) H2 (.cons (hz1.mono st2.ext) hzs)) (starred_no (and2 (and2 hc).1).1 es env)⟩
theorem em_list (D : EvsM X n fr ms σ vs σ1) (c : vs.length < 1000) : EvM X n fr (.list ms) σ (.loc σ1.next) (σ1.new (.list vs)) := ⟨fun {cl ns j e env ad A s E Q} hc a k => by
  cases j; exact fnt hc
  refine vList_el hc fun bs _ g => wpAny_List (D.go g a fun ad1 h1 tk1 zs st1 H1 hzs => ?_)
  have hl := hzs.length
  refine ⟨by rw [sizeLine_eq]; lia, ?_⟩
  obtain ⟨x', st, hv'⟩ := new_list (s := { s with heap := h1, toks := tk1 }) H1 (a := h1.objs.size) (h' := h1.push { cls := .type "list", data := .seq zs.toArray }) (rs := zs) (n := 0) (vs := vs)
    (fun b ob e => Heap.get?_push_of_some _ e) (Heap.get?_none_of_le (Nat.le_refl _)) (Heap.get?_push_size _ rfl) hzs
  exact k _ _ tk1 _ (st1.trans H1 st) x' hv'⟩
theorem em_tup (D : EvsM X n fr ms σ vs σ1) (c : vs.length < 1000) : EvM X n fr (.tup ms) σ (.loc σ1.next) (σ1.new (.tup vs)) := ⟨fun {cl ns j e env ad A s E Q} hc a k => by
  cases j; exact fnt hc
  refine vTup_el hc fun bs _ _ g => wpAny_Tuple (D.go g a fun ad1 h1 tk1 zs st1 H1 hzs => ?_)
  have hl := hzs.length
  refine ⟨by rw [sizeLine_eq]; lia, ?_⟩
  have ho : (h1.push { cls := .type "tuple", data := .seq zs.toArray }).get? h1.objs.size = some { cls := .type "tuple", data := .seq zs.toArray 0 } := Heap.get?_push_size _ rfl
  obtain ⟨x', st, hv'⟩ := HR.new1 (s := { s with heap := h1, toks := tk1 }) H1 (a := h1.objs.size) (h' := h1.push { cls := .type "tuple", data := .seq zs.toArray }) (o := .tup vs)
    (fun b ob e => Heap.get?_push_of_some _ e) (Heap.get?_none_of_le (Nat.le_refl _)) ⟨_, ho⟩ ⟨zs, 0, ho, hzs.mono fun _ _ r => r.mono (.snoc _ _)⟩
  exact k _ _ tk1 _ (st1.trans H1 st) x' hv'⟩
end
end Mine
end
section
open PySem PySem.W PySem.Calls PyProof.Rows
set_option maxRecDepth 100000
namespace Mine
theorem evalArgs_row {M : Model} {A : Around} {E : Value → Shared → Prop} {s : Shared} {f : Value} {l : List (Bool × Sem Value)} {Q : Args → Shared → Prop} (hl : l.any (·.1) = false)
    (h : wpAny M A (spliced l) (fun vs s' => Q ⟨vs, []⟩ s') E s) : wpAny M A (evalArgs f true l []) Q E s := by
  match l, hl, h with
  | [], _, h =>
    unfold evalArgs
    show wpAny M A (spliced [] >>= _) Q E s
    refine wpAny_bind (wpAny_mono h (fun vs s' h' => ?_) fun _ _ x => x)
    refine wpAny_bind (wpAny_pure ?_)
    refine wpAny_holding ?_
    exact wpAny_bind (wpAny_pure (wpAny_bind (wpAny_pure (wpAny_pure h'))))
  | (false, x) :: rest, _, h => exact evalArgs_plain h
  | (true, x) :: rest, hl, _ => simp at hl
theorem meth_rule {M : Model} {A : Around} {E : Value → Shared → Prop} {s : Shared} {env : Env} {o : Expr} {name : Str} {apos pos : Pos} {es : List Expr} {Q : Value → Shared → Prop} (hp : plainBase o = true)
    (hpl : (backTo pos (starEach es env)).any (·.1) = false) (hl : es.length < 20) (hpos : (apos.endLine == pos.line) = true)
    (h : wpAny M A (eval o env) (fun ov s₁ => ∀ pl, wpAny M A (getMethod ov name pl) (fun fx s₂ => wpAny M A (callWith pos fx.1 fx.2 (backTo pos (starEach es env)) []) Q E s₂) E s₁) E s) :
    wpAny M A (eval (.Call (.Attribute o name apos) es [] pos) env) Q E s := by
  have he : eval (.Call (.Attribute o name apos) es [] pos) env = (do
    let ov ← attributeBase o name env (eval o env)
    standAt apos.atName
    methodCall o name apos pos env ov (es.length + 0) (backTo pos (starEach es env)) []) := rfl
  have hb : attributeBase o name env (eval o env) = eval o env := by cases o <;> first | rfl | exact fnt hp
  have few : methodCallForm (es.length + 0) (backTo pos (starEach es env)) [] = true := by
    unfold methodCallForm
    have : (backTo pos (starEach es env)).all (fun x => !x.1) = true := by
      rw [List.all_eq_true]
      intro x hx
      have := List.any_eq_false.mp hpl x hx
      simpa using this
    rw [this]
    simp
    lia
  rw [he, hb]
  refine wpAny_bind (wpAny_mono h (fun ov s₁ h₁ => wpAny_bind (wpAny_standAt ?_)) fun _ _ x => x)
  unfold methodCall calleeOf
  rw [few]
  refine wpAny_bind (wpAny_holding (wpAny_mono (h₁ _) (fun fx s₂ h₂ => ?_) fun _ _ x => x))
  have hc : methodCallPos true o env apos pos = pure pos := by unfold methodCallPos; simp [hpos]
  dsimp only
  rw [hc]
  exact wpAny_bind (wpAny_pure h₂)
section
variable {X : Wb} {n : Nat} {fr : MF} {σ σ1 σ2 σ3 : MS} {m l : ME} {v u f r : MV} {ms : List ME} {vs us first : List MV} {x : String} {b : Nat}
theorem call_tail {cl ns j env ad A s es f' fs} {E Q : Value → Shared → Prop} {pos : Pos} (hc : chkL (fun e m => notStar e && chkE cl ns j e m) es ms = true) (a : At X n fr σ cl ns env ad A s)
    (J : EvsM X n fr ms σ vs σ1) (C : CaM X n f (first ++ vs) [] σ1 r σ2) (hf : VR ad f f') (hfs : All2 (VR ad) first fs) (k : Cont X.w X.base σ2 ad r s Q) : wpAny (model PR X.w) A (callWith pos f' fs (backTo pos (starEach es env)) []) Q E s := by
  have hp := plain_of hc env pos
  refine callWith_of (P := fun h => Callable h X.w f') (by rw [hp]; rfl) (fun h c => c) (evalArgs_row hp ?_)
  refine J.go hc a fun ad2 h2 tk2 zs st2 H2 hzs => ?_
  obtain ⟨c, go⟩ := C.go (s := { s with heap := h2, toks := tk2 }) H2 (hf.mono st2.ext)
  exact ⟨c, go a.R ((hfs.mono fun _ _ r => r.mono st2.ext).append hzs) .nil fun ad3 h3 tk3 z3 st3 H3 hz3 => k ad3 h3 tk3 z3 (st2.trans H2 st3) H3 hz3⟩
theorem em_call (D : EvM X n fr m σ f σ1) (J : EvsM X n fr ms σ1 vs σ2) (C : CaM X n f vs [] σ2 r σ3) : EvM X n fr (.call m ms) σ r σ3 := ⟨fun {cl ns j e env ad A s E Q} hc a k => by
  cases j; exact fnt hc
  exact vCall_el hc fun f' bs ks p g => nil_el (and4 g).1 (Call_ (D.go (and4 g).2.2.1 a fun ad1 h1 tk1 z1 st1 H1 hz1 =>
    call_tail (first := []) (and4 g).2.2.2 (a.step st1 H1) J C hz1 .nil fun ad2 h2 tk2 z2 st2 H2 hz2 => k ad2 h2 tk2 z2 (st1.trans H1 st2) H2 hz2) (by cases f' <;> first | rfl | exact fnt (and4 g).2.1))⟩
theorem em_callk (D : EvM X n fr m σ f σ1) (J : EvM X n fr l σ1 v σ2) (C : CaM X n f [] [(x, v)] σ2 r σ3) : EvM X n fr (.callk m x l) σ r σ3 := ⟨fun {cl ns j e env ad A s E Q} hc a k => by
  cases j; exact fnt hc
  refine vCall_el hc fun f' bs ks p g => nil_el (and2 g).1 (v1_el (and2 g).2 fun kw g => ?_)
  obtain ⟨ka, kv, kp⟩ := kw
  refine dec_el (a := ka) (and4 g).1 ?_
  have he : eval (.Call f' [] [⟨some (Str.ofString x), kv, kp⟩] p) env = (do callWith p (← eval f' env) [] (backTo p (starEach [] env)) (backToKw p (keywordEach [⟨some (Str.ofString x), kv, kp⟩] env))) := by
    cases f' <;> first | rfl | exact fnt (and4 g).2.1
  rw [he]
  refine wpAny_bind (D.go (and4 g).2.2.1 a fun ad1 h1 tk1 z1 st1 H1 hz1 => ?_)
  refine callWith_of (P := fun h => Callable h X.w z1) rfl (fun h c => c) (evalArgs_kw2_nil rfl ?_)
  show wpAny _ _ (do let v ← (do let v ← eval kv env; standAt p; pure v); return v :: (← holding [v] (evalAll []))) _ _ _
  refine wpAny_bind (wpAny_bind (J.go (and4 g).2.2.2 (a.step st1 H1) fun ad2 h2 tk2 z2 st2 H2 hz2 => ?_))
  refine wpAny_bind (wpAny_standAt (wpAny_pure (wpAny_bind (wpAny_holding (wpAny_pure (wpAny_pure ?_))))))
  obtain ⟨c, go⟩ := C.go (s := { s with heap := h2, toks := tk2 }) H2 (hz1.mono st2.ext)
  exact ⟨c, go a.R .nil (.cons ⟨rfl, hz2⟩ .nil) fun ad3 h3 tk3 z3 st3 H3 hz3 => k ad3 h3 tk3 z3 ((st1.trans H1 st2).trans H2 st3) H3 hz3⟩⟩
theorem em_meth (D : EvM X n fr m σ v σ1) (G : MethM X.w X.base σ1 v x f first) (J : EvsM X n fr ms σ1 vs σ2) (C : CaM X n f (first ++ vs) [] σ2 r σ3) : EvM X n fr (.meth m x ms) σ r σ3 := ⟨fun {cl ns j e env ad A s E Q} hc a k => by
  cases j; exact fnt hc
  refine vCall_el hc fun f' bs ks p g => nil_el (and2 g).1 (vAttr_el (and2 g).2 fun o' y ap g => ?_)
  obtain ⟨h1, h2, h3, h4, h5, h6⟩ := and6 g
  exact nm_el h1 (meth_rule h2 (plain_of h6 env p) (Nat.blt_eq.mp h3) h4 (D.go h5 a fun ad1 h1 tk1 z1 st1 H1 hz1 pl => G.go (s := { s with heap := h1, toks := tk1 }) H1 hz1 fun tk g gs hg hgs =>
    call_tail h6 (a.step (tk := tk) st1 H1) J C hg hgs fun ad2 h2 tk2 z2 st2 H2 hz2 => k ad2 h2 tk2 z2 (st1.trans H1 st2) H2 hz2))⟩
theorem slice_tail {value : Expr} {lo up : Option Expr} {sp : Pos} {A : Around} {E : Value → Shared → Prop} {s : Shared} {Q : Value → Shared → Prop} {o i : Value} {T id : String} (hT : s.TypeIs o T)
    (hl : typeLookup (.type T) "__getitem__" = pure (some (.builtin id))) (hg : wpAny (model PR X.w) A (getItem o i) Q E s) : wpAny (model PR X.w) A (subscriptTail value (.Slice lo up none sp) o i) Q E s :=
  tail_any hT hl hg (ops := [i, o]) rfl
theorem slice_fin {ad A s} {E Q : Value → Shared → Prop} {lo up : Option Int} {y z o : Value} {ws : List MV} {value : Expr} {el eu : Option Expr} {sp : Pos} (qs : List Value → List Value) (H : HR X.w X.base σ ad s.heap) (g : σ.obj b = some (.list vs)) (c : vs.length < 1000) (hv : VR ad (.loc b) o)
    (py : IsPart y lo) (pz : IsPart z up) (hw : ∀ rs : List Value, All2 (VR ad) vs rs → slicePick rs.toArray lo up none = (qs rs).toArray ∧ All2 (VR ad) ws (qs rs)) (k : Cont X.w X.base (σ.new (.list ws)) ad (.loc σ.next) s Q) :
    wpAny (model PR X.w) A (subscriptTail value (.Slice el eu none sp) o (.ref s.heap.objs.size)) Q E { s with heap := s.heap.push { cls := .type "slice", data := .fields #[y, z, .none] } } := by
  obtain ⟨q, hq, rfl, rs, ep, hob, hrs⟩ := H.at g hv
  have hl := hrs.length
  have hL' := (isL hob).push { cls := .type "slice", data := .fields #[y, z, .none] }
  obtain ⟨h1, h2⟩ := hw rs hrs
  refine slice_tail (T := "list") hL'.typeIs list_getitem_look (wpAny_getItem_list_slice (lo := lo) (hi := up) hL' (Heap.IsSliceOf.new ..) py pz .none (by simp) ?_ (by rw [List.size_toArray, sizeLine_eq]; lia))
  rw [h1]
  obtain ⟨x', st, hv'⟩ := new_list H (a := (s.heap.push { cls := .type "slice", data := .fields #[y, z, .none] }).objs.size) (rs := qs rs) (n := 0) (vs := ws) (fun b ob e => Heap.get?_push_of_some _ (Heap.get?_push_of_some _ e))
    (Heap.get?_none_of_le (by rw [Heap.size_push]; exact Nat.le_succ _)) (Heap.get?_push_size _ rfl) h2
  exact k _ _ s.toks _ st x' hv'
theorem em_sliceF {k : Nat} (D : EvM X n fr m σ (.loc b) σ1) (D2 : EvM X n fr l σ1 (.int (k : Int)) σ2) (g : σ2.obj b = some (.list vs)) (c : vs.length < 1000) (h : k ≤ vs.length) : EvM X n fr (.sliceF m l) σ (.loc σ2.next) (σ2.new (.list (vs.drop k))) := ⟨fun {cl ns j e env ad A s E Q} hc a K => by
  cases j; exact fnt hc
  refine vSub_el hc fun o i p g1 => vSlice_el g1 fun lo hi st q g1 => none_el (and3 g1).1 (none_el (and3 g1).2.1 (vSome_el (and3 g1).2.2 fun i g1 => Subscript_ (D.go (and2 g1).1 a fun ad1 h1 tk1 z1 st1 H1 hz1 =>
    wpAny_Slice (wpAny_evalPart_some (D2.go (and2 g1).2 (a.step st1 H1) fun ad2 h2 tk2 z2 st2 H2 hz2 => wpAny_evalPart_none (wpAny_evalPart_none ?_))))))
  obtain ⟨t, rfl⟩ := hz2.isInt
  exact slice_fin (s := { s with heap := h2, toks := tk2 }) (List.drop k) H2 g c (hz1.mono st2.ext) (.int _ _) .none (fun rs hrs => ⟨slicePick_from rs.toArray k (by have := hrs.length; rw [List.size_toArray]; lia), hrs.drop _⟩) fun ad3 h3 tk3 z3 st3 H3 hz3 => K ad3 h3 tk3 z3 ((st1.trans H1 st2).trans H2 st3) H3 hz3⟩
theorem em_sliceT {k : Nat} (D : EvM X n fr m σ (.loc b) σ1) (D2 : EvM X n fr l σ1 (.int (k : Int)) σ2) (g : σ2.obj b = some (.list vs)) (c : vs.length < 1000) (h : k ≤ vs.length) : EvM X n fr (.sliceT m l) σ (.loc σ2.next) (σ2.new (.list (vs.take k))) := ⟨fun {cl ns j e env ad A s E Q} hc a K => by
  cases j; exact fnt hc
  refine vSub_el hc fun o i p g1 => vSlice_el g1 fun lo hi st q g1 => none_el (and3 g1).1 (none_el (and3 g1).2.1 (vSome_el (and3 g1).2.2 fun i g1 => Subscript_ (D.go (and2 g1).1 a fun ad1 h1 tk1 z1 st1 H1 hz1 =>
    wpAny_Slice (wpAny_evalPart_none (wpAny_evalPart_some (D2.go (and2 g1).2 (a.step st1 H1) fun ad2 h2 tk2 z2 st2 H2 hz2 => wpAny_evalPart_none ?_))))))
  obtain ⟨t, rfl⟩ := hz2.isInt
  exact slice_fin (s := { s with heap := h2, toks := tk2 }) (List.take k) H2 g c (hz1.mono st2.ext) .none (.int _ _) (fun rs hrs => ⟨slicePick_upto rs.toArray k (by have := hrs.length; rw [List.size_toArray]; lia), hrs.take _⟩) fun ad3 h3 tk3 z3 st3 H3 hz3 => K ad3 h3 tk3 z3 ((st1.trans H1 st2).trans H2 st3) H3 hz3⟩
theorem em_dict0 : EvM X n fr (.dict [] []) σ (.loc σ.next) (σ.new (.dI [])) := ⟨fun {cl ns j e env ad A s E Q} hc a k => by
  cases j; exact fnt hc
  refine vDict_el hc fun ks' bs p g => nil_el (P := fun ks' => wpAny (model PR X.w) A (eval (.Dict ks' bs p) env) Q E s) (and3 g).1 (nil_el (P := fun bs => wpAny (model PR X.w) A (eval (.Dict [] bs p) env) Q E s) (and3 g).2.2 (wpAny_Dict_empty ?_))
  have D := Heap.DictOf.new (knd := PySem.intKind PR X.w) s.heap
  obtain ⟨x', st, hv'⟩ := HR.new1 a.H (a := s.heap.objs.size) (o := .dI []) (fun b ob e => Heap.get?_push_of_some _ e) (a.H.fresh (Nat.le_refl _)) (dictOf_get D) ⟨a.H.notMods (Nat.le_refl _), [], D, .nil⟩
  exact k _ _ s.toks _ st x' hv'⟩
end
end Mine
end
section
open PySem PySem.W PySem.Calls PyProof.Rows
set_option maxRecDepth 100000
namespace Mine
section
variable {w : World} {base : Heap} {σ : MS} {ad : AD}
theorem relabel_names {scope : Scope} {env : Env} (h : env.scope.kind = .function) : (relabel scope env).names = relabelN scope.names env.scope.names := by
  unfold relabel relabelN
  dsimp only
  congr 1
  funext ⟨n, k⟩
  rw [h]
  have : ((ScopeKind.function == ScopeKind.function) = true) := rfl
  unfold Env.kindOf
  rw [this, Bool.and_true]
noncomputable def clB (env : Env) : List (Str × NameKind) → List (Str × Addr) → List (Str × Addr)
  | [], acc => acc
  | (n, k) :: r, acc => clB env r (if k == .free then (n, (env.cells.lookup n).getD 0) :: acc else acc)
theorem clB_mem {env : Env} : ∀ (l : List (Str × NameKind)) (acc : List (Str × Addr)), (∀ q ∈ acc, q.2 = (env.cells.lookup q.1).getD 0) → ∀ q ∈ clB env l acc, q.2 = (env.cells.lookup q.1).getD 0
  | [], acc, h, q, hq => h q hq
  | (n, k) :: r, acc, h, q, hq => by
    refine clB_mem r _ (fun q hq => ?_) q hq
    split at hq
    · rcases List.mem_cons.mp hq with rfl | hq
      · rfl
      · exact h q hq
    · exact h q hq
theorem clB_acc {env : Env} : ∀ (l : List (Str × NameKind)) (acc : List (Str × Addr)) (q : Str × Addr), q ∈ acc → q ∈ clB env l acc
  | [], acc, q, hq => hq
  | (n, k) :: r, acc, q, hq => clB_acc r _ q (by split; exact List.mem_cons_of_mem _ hq; exact hq)
theorem clB_has {env : Env} : ∀ (l : List (Str × NameKind)) (acc : List (Str × Addr)) (y : Str), (y, NameKind.free) ∈ l → ∃ c, (y, c) ∈ clB env l acc
  | (n, k) :: r, acc, y, hy => by
    rcases List.mem_cons.mp hy with e | hy
    · cases e
      refine ⟨(env.cells.lookup n).getD 0, clB_acc r _ _ ?_⟩
      have : (NameKind.free == NameKind.free) = true := rfl
      rw [if_pos this]; exact .head _
    · exact clB_has r _ y hy
theorem lookup_of_all {l : List (Str × Addr)} {f : Str → Addr} (h : ∀ q ∈ l, q.2 = f q.1) {y : Str} {c : Addr} (hy : (y, c) ∈ l) : l.lookup y = some (f y) := by
  induction l with
  | nil => cases hy
  | cons a l ih =>
    obtain ⟨a, b⟩ := a
    rw [List.lookup_cons]
    cases q : y == a with
    | true =>
      have := h (a, b) (.head _)
      dsimp only at this ⊢
      rw [this, eq_of_beq q]
    | false =>
      rcases List.mem_cons.mp hy with e | hy
      · cases e
        simp at q
      · exact ih (fun q hq => h q (List.mem_cons_of_mem _ hq)) hy
theorem closure_is {scope : Scope} {env : Env} (h : ∀ x ∈ scope.names, x.2 = .free → ∃ c, env.cells.lookup x.1 = some c) : closureFor scope env = pure (clB env scope.names []) := by
  unfold closureFor
  have go : ∀ (l : List (Str × NameKind)) (acc : List (Str × Addr)), (∀ x ∈ l, x.2 = .free → ∃ c, env.cells.lookup x.1 = some c) →
      (forIn l acc fun (x : Str × NameKind) (r : List (Str × Addr)) => (match x with
        | (name, kind) => if (kind == .free) = true then do let a ← cellOf env name; pure (ForInStep.yield ((name, a) :: r)) else do pure (ForInStep.yield r) : Sem (ForInStep (List (Str × Addr))))) = pure (clB env l acc) := by
    intro l
    induction l with
    | nil => intro acc _; rw [List.forIn_nil]; rfl
    | cons a l ih =>
      intro acc hl
      obtain ⟨n, k⟩ := a
      rw [List.forIn_cons]
      dsimp only
      unfold clB
      cases q : k == NameKind.free with
      | true =>
        obtain ⟨c, hc⟩ := hl (n, k) (.head _) (eq_of_beq q)
        have e1 : cellOf env n = pure c := by unfold cellOf; dsimp only at hc; rw [hc]
        dsimp only at hc
        rw [if_pos rfl, if_pos rfl, e1, hc]
        exact ih _ fun x hx => hl x (List.mem_cons_of_mem _ hx)
      | false =>
        rw [if_neg Bool.false_ne_true, if_neg Bool.false_ne_true]
        exact ih _ fun x hx => hl x (List.mem_cons_of_mem _ hx)
  have := go scope.names [] h
  rw [bind_pure]
  exact this
theorem mCels_mem {fr : MF} : ∀ {fv : List String} {cs : List (String × Nat)}, mCels fr fv = some cs → (∀ x, x ∈ fv → ∃ n, getL' x fr.cel = some n) ∧ (∀ y n, getL' y cs = some n → y ∈ fv ∧ getL' y fr.cel = some n)
  | [], cs, h => by cases h; exact ⟨fun x hx => (by cases hx), fun y n e => (by cases e)⟩
  | x :: r, cs, h => by
    unfold mCels at h
    split at h
    · rename_i n hn
      obtain ⟨ds, hd, rfl⟩ := Option.map_eq_some_iff.mp h
      obtain ⟨h1, h2⟩ := mCels_mem hd
      refine ⟨fun y hy => ?_, fun y m e => ?_⟩
      · rcases List.mem_cons.mp hy with rfl | hy
        · exact ⟨n, hn⟩
        · exact h1 y hy
      · unfold getL' at e
        by_cases q : x = y
        · subst q
          rw [if_pos rfl] at e
          cases e
          exact ⟨.head _, hn⟩
        · rw [if_neg q] at e
          obtain ⟨a, b⟩ := h2 y m e
          exact ⟨List.mem_cons_of_mem _ a, b⟩
    · cases h
theorem closed {scope : Scope} {env : Env} {fr : MF} {ad : AD} {h : Heap} {fv : List String} {cs : List (String × Nat)} (F : FrR base env fr ad h) (hf : (scope.names.filter fun y => y.2 == .free).map (·.1) = fv.map Str.ofString) (hm : mCels fr fv = some cs) :
    ∃ cl, closureFor scope env = pure cl ∧ ∀ y n, getL' y cs = some n → ∃ q : Addr × Addr, ad[n]? = some q ∧ cl.lookup (Str.ofString y) = some q.1 := by
  obtain ⟨h1, h2⟩ := mCels_mem hm
  have free : ∀ x ∈ scope.names, x.2 = .free → ∃ y ∈ fv, x.1 = Str.ofString y := fun x hx hk => by
    have : x.1 ∈ (scope.names.filter fun y => y.2 == .free).map (·.1) := List.mem_map.mpr ⟨x, List.mem_filter.mpr ⟨hx, by rw [hk]; rfl⟩, rfl⟩
    rw [hf] at this
    obtain ⟨y, hy, e⟩ := List.mem_map.mp this
    exact ⟨y, hy, e.symm⟩
  refine ⟨_, closure_is fun x hx hk => ?_, fun y n e => ?_⟩
  · obtain ⟨y, hy, e⟩ := free x hx hk
    obtain ⟨n, hn⟩ := h1 y hy
    obtain ⟨q, _, h4⟩ := F.cel y n hn
    exact ⟨_, by rw [e]; exact h4⟩
  · obtain ⟨hy, hn⟩ := h2 y n e
    obtain ⟨q, h3, h4⟩ := F.cel y n hn
    refine ⟨q, h3, ?_⟩
    have : Str.ofString y ∈ fv.map Str.ofString := List.mem_map.mpr ⟨y, hy, rfl⟩
    rw [← hf] at this
    obtain ⟨x, hx, e⟩ := List.mem_map.mp this
    obtain ⟨hx, hk⟩ := List.mem_filter.mp hx
    have hx' : (Str.ofString y, NameKind.free) ∈ scope.names := by
      obtain ⟨a, b⟩ := x
      dsimp only at e hk
      rw [← e, ← eq_of_beq hk]; exact hx
    obtain ⟨c, hc⟩ := clB_has scope.names [] _ hx' (env := env)
    rw [lookup_of_all (f := fun y => (env.cells.lookup y).getD 0) (clB_mem scope.names [] (fun q hq => by cases hq)) hc, h4]; rfl
noncomputable def Det (ad : AD) (m : MV) : Value → Prop
  | .none => m = .none
  | .bool b => m = .bool b
  | .int i _ => m = .int i
  | .str s _ => m = .str s
  | .ref a => ∃ n p, m = .loc n ∧ ad[n]? = some p ∧ p.1 = a
  | _ => False
theorem det {m : MV} {v : Value} (hv : VR ad m v) (hm : plainV m = true) : Det ad m v := by
  cases hv with
  | loc e => exact ⟨_, _, rfl, e, rfl⟩
  | none => rfl
  | bool => rfl
  | int => rfl
  | str => rfl
  | _ => cases hm
theorem plain_inj {h : Heap} (H : HR w base σ ad h) {m m' : MV} {v : Value} (hm : plainV m = true) (hm' : plainV m' = true) (hv : VR ad m v) (hv' : VR ad m' v) : m = m' := by
  have a := det hv hm
  have b := det hv' hm'
  cases v with
  | none => exact Eq.trans a (Eq.symm b)
  | bool => exact Eq.trans a (Eq.symm b)
  | int => exact Eq.trans a (Eq.symm b)
  | str => exact Eq.trans a (Eq.symm b)
  | ref x =>
    obtain ⟨n, p, rfl, e, h1⟩ := a
    obtain ⟨n', p', rfl, e', h2⟩ := b
    exact congrArg MV.loc (H.apart n n' p p' p.1 e e' (.inl rfl) (.inl (h1.trans h2.symm)))
  | _ => exact a.elim
theorem all2_of {R : MV → Value → Prop} : ∀ {ms : List MV} {vs : List Value}, vs.length = ms.length → (∀ (j : Nat) (v : Value), vs[j]? = some v → ∃ m, ms[j]? = some m ∧ R m v) → All2 R ms vs
  | [], [], _, _ => .nil
  | m :: ms, v :: vs, h, k => by
    obtain ⟨m', h1, h2⟩ := k 0 v rfl
    simp at h1
    subst h1
    exact .cons h2 (all2_of (by simpa using h) fun j y e => k (j + 1) y (by simpa using e))
  | [], _ :: _, h, _ => by simp at h
  | _ :: _, [], h, _ => by simp at h
theorem comp_frame {env : Env} {fr : MF} {h h2 h3 : Heap} {scope : Scope} {cl : List (Str × Addr)} {cs : List (String × Nat)} {C : Addr} {x : String} {m : MV} {v : Value} {m₃ : Str → Option Value} (F : FrR base env fr ad h) (H : HR w base σ ad h)
    (hk : scope.kind = .function) (hcl : ∀ y n, getL' y cs = some n → ∃ q : Addr × Addr, ad[n]? = some q ∧ cl.lookup (Str.ofString y) = some q.1) (hC : h2.objs.size ≤ C) (h12 : ∀ b o, h.get? b = some o → h2.get? b = some o)
    (hn : h3.Ns C m₃) (hm : m₃ (Str.ofString x) = some v) (hv : VR ad m v) : FrR base (compEnvC scope cl C env) ⟨[(x, m)], cs, false⟩ ad h3 where
  kind := hk
  glob := F.glob
  bi := F.bi
  loc := ⟨m₃, hn, fun y u e => by
    unfold getL' at e
    by_cases q : x = y
    · subst q
      rw [if_pos rfl] at e
      cases e
      exact ⟨v, hm, hv⟩
    · rw [if_neg q] at e; cases e⟩
  cel := hcl
  own := fun n p hp ho => by
    obtain ⟨_, o, e⟩ := H.off n p _ hp ho
    exact absurd (Nat.lt_of_lt_of_le (Heap.lt_size (h12 _ _ e)) hC) (Nat.lt_irrefl _)
  off := by
    show base.get? C = none
    cases q : base.get? C with
    | none => rfl
    | some o => exact absurd (Nat.lt_of_lt_of_le (Heap.lt_size (h12 _ _ (H.stays _ _ q))) hC) (Nat.lt_irrefl _)
  code := fun h => by cases h
end
structure PuM (X : Wb) (fr : MF) (m : ME) (σ : MS) (v : MV) : Prop where
  go : ∀ {ns j e env ad A s E Q}, chkP ns j e m = true → At X 0 fr σ noCl ns env ad A s → (∀ tk z, VR ad v z → Q z { s with toks := tk }) → wpAny (model PR X.w) A (eval e env) Q E s
structure PtM (X : Wb) (fr : MF) (m : ME) (σ : MS) (b : Bool) : Prop where
  go : ∀ {ns j e env ad A s E} {Q : Bool → Shared → Prop}, chkP ns j e m = true → At X 0 fr σ noCl ns env ad A s → (∀ tk, Q b { s with toks := tk }) → wpAny (model PR X.w) A (isTrue e env (eval e env)) Q E s
structure IterM (X : Wb) (σ : MS) (v : MV) (ms : List MV) : Prop where
  go : ∀ {ad A s E Q v'}, Room A 0 → HR X.w X.base σ ad s.heap → VR ad v v' →
    (∀ h' I fp n P St, Walks PR X.w A I fp [I] n P St → n = ms.length → (∀ i y, P i y → ∃ m, ms[i]? = some m ∧ VR ad m y) → ms.all plainV = true → n < 1000 → St 0 h' → (∀ b ∈ fp, b < h'.objs.size) →
      (∀ b o, s.heap.get? b = some o → h'.get? b = some o) → s.heap.get? I = none → Q (.ref I) { s with heap := h' }) → wpAny (model PR X.w) A (pyIter v') Q E s
section
variable {X : Wb} {n : Nat} {fr : MF} {σ σ1 : MS} {m l : ME} {v u r : MV} {vs us ms : List MV} {x : String} {p : Bool} {ad : AD} {c : Nat}
theorem At.name {cl ns env A s} (a : At X n fr σ cl ns env ad A s) {E Q : Value → Shared → Prop} {y : Str} {pos : Pos} (h : getL' x fr.loc = some v) (g : (nm x y && isK ns (Str.ofString x) .local && nD (Str.ofString x)) = true) (k : ∀ z, VR ad v z → Q z s) : wpAny (model PR X.w) A (eval (.Name y pos) env) Q E s := by
  obtain ⟨m, hn, hm⟩ := a.F.loc
  obtain ⟨u, h1, h2⟩ := hm x _ h
  exact nm_el (and3 g).1 (wpAny_Name (wpAny_loadName_local a.F.kind (a.kindOf (and3 g).2.1) hn h1 (k _ h2)) (nD_eq (and3 g).2.2))
theorem pu_none : PuM X fr .none σ .none := ⟨fun {ns j e env ad A s E Q} hc a k => by
  cases j; exact fnt hc
  exact vConst_el hc fun c _ _ g => dec_el g (wpAny_Constant_none (k s.toks _ .none))⟩
theorem pu_str : PuM X fr (.str x) σ (.str (Str.ofString x)) := ⟨fun {ns j e env ad A s E Q} hc a k => by
  cases j; exact fnt hc
  exact vConst_el hc fun c _ _ g => dec_el g (wpAny_Constant_str (k _ _ (.str _ _)))⟩
theorem pu_var (h : getL' x fr.loc = some v) : PuM X fr (.var x) σ v := ⟨fun {ns j e env ad A s E Q} hc a k => by
  cases j; exact fnt hc
  exact vName_el hc fun y pos g => a.name h g fun z hz => k s.toks z hz⟩
theorem pu_cel (h : getL' x fr.cel = some c) (g : σ.obj c = some (.cell (some v))) : PuM X fr (.cel x) σ v := ⟨fun {ns j e env ad A s E Q} hc a k => by
  cases j; exact fnt hc
  obtain ⟨q, h1, h2⟩ := a.F.cel x c h
  obtain ⟨p, hp, o, r, h3, h4, h5⟩ := a.H.obj c _ g
  rw [h1] at hp
  cases hp
  cases r with
  | none => exact h5.elim
  | some u =>
    exact vName_el hc fun y p g => nm_el (and3 g).1 ((or2 (and3 g).2.2).elim (fun g3 => wpAny_Name (wpAny_loadName_cell a.F.kind (a.kindOf g3) h2 ⟨o, h3, h4⟩ (k s.toks _ h5)) (nD_eq (and3 g).2.1))
      fun g3 => wpAny_Name (wpAny_loadName_free a.F.kind (a.kindOf (and2 g3).1) h2 ⟨o, h3, h4⟩ (k s.toks _ h5) (not1 (and2 g3).2)) (nD_eq (and3 g).2.1))⟩
theorem At.toks {cl ns env A s} (a : At X n fr σ cl ns env ad A s) (tk : Tok) : At X n fr σ cl ns env ad A { s with toks := tk } := ⟨a.g, a.hs, a.R, a.F, a.H⟩
theorem pu_attr (D : PuM X fr m σ v) (G : AttM X.w X.base σ v x u) : PuM X fr (.attr m x) σ u := ⟨fun {ns j e env ad A s E Q} hc a k => by
  cases j; exact fnt hc
  exact vAttr_el hc fun b y p g => nm_el (and3 g).1 (Attribute_any_ (D.go (and3 g).2.2 a fun tk z hz => G.go (s := { s with toks := tk }) a.H hz k) (by cases b <;> first | rfl | exact fnt (and3 g).2.1))⟩
theorem pu_sub (D : PuM X fr m σ v) (D2 : PuM X fr l σ u) (G : SubM X.w X.base σ v u r) : PuM X fr (.sub m l) σ r := ⟨fun {ns j e env ad A s E Q} hc a k => by
  cases j; exact fnt hc
  refine vSub_el hc fun b i p g => Subscript_ (D.go (and3 g).2.1 a fun tk1 z1 hz1 => D2.go (and3 g).2.2 (a.toks tk1) fun tk2 z2 hz2 => ?_)
  obtain ⟨wp, T, id, hT, hl⟩ := G.go (s := { s with toks := tk2 }) a.H hz1 hz2 k
  exact tail_any hT hl wp (subbed (and3 g).1 _ _)⟩
theorem pt_cmp {c : COp} (D : PuM X fr m σ v) (D2 : PuM X fr l σ u) (G : CmpM X.w X.base c σ v u p) : PtM X fr (.cmp c m l) σ p := ⟨fun {ns j e env ad A s E Q} hc a k => by
  cases j; exact fnt hc
  exact vCmp_el hc fun a' os bs _ g => v1_el g fun o g => v1_el g fun b' g => wpAny_isTrue_Compare1 (D.go (and4 g).2.2.1 a fun tk1 z1 hz1 => D2.go (and4 g).2.2.2 (a.toks tk1) fun tk2 z2 hz2 =>
    G.go (s := { s with toks := tk2 }) (copB_eq (and4 g).1) a.R a.H hz1 hz2 fun tk => wpAny_truthy_bool (k tk)) (behind (and4 g).2.1)⟩
theorem tm_list (g : σ.obj c = some (.list vs)) (h : vs.length < 1000) (pl : vs.all plainV = true) : IterM X σ (.loc c) vs := ⟨fun {ad A s E Q v'} R H hv k => by
  obtain ⟨p, hp, rfl, rs, ep, ho, hrs⟩ := H.at g hv
  have hl := hrs.length
  have hne : p.1 ≠ s.heap.objs.size := Nat.ne_of_lt (Heap.lt_size ho)
  refine wpAny_pyIter_list (isL ho) (k _ _ _ _ _ _ (Walks.list R.hand s.heap.objs.size p.1 hne rs.toArray) (by rw [List.size_toArray]; exact hl.symm) (fun i y hy => ?_) pl (by rw [List.size_toArray]; lia) ⟨⟨_, Heap.get?_push_size _ rfl, rfl, rfl⟩, (isL ho).push _⟩ (fun b hb => ?_)
    (fun b o e => Heap.get?_push_of_some _ e) (Heap.get?_none_of_le (Nat.le_refl _)))
  · rw [List.getElem?_toArray] at hy
    have hlt := (List.getElem?_eq_some_iff.mp hy).1
    have e1 : vs[i]? = some vs[i] := List.getElem?_eq_getElem (by lia)
    obtain ⟨z, hz, hvz⟩ := hrs.get e1
    rw [hz] at hy
    cases hy
    exact ⟨_, e1, hvz⟩
  · rw [Heap.size_push]
    rcases List.mem_cons.mp hb with rfl | hb
    · exact Nat.lt_succ_self _
    · rw [List.mem_singleton.mp hb]; exact Nat.lt_succ_of_lt (Heap.lt_size ho)⟩
theorem tm_keys {K : Type} [DecidableEq K] (D : DK X.w K) (hkey : ∀ {ad : AD} {k : K} {y : Value}, D.knd.is k y = true → VR ad (D.key k) y) (hpl : ∀ k, plainV (D.key k) = true) {es : List (K × MV)} (g : σ.obj c = some (D.ob es)) (h : es.length < 1000) : IterM X σ (.loc c) (es.map fun e => D.key e.1) := ⟨fun {ad A s E Q v'} R H hv k => by
  obtain ⟨p, hp, rfl, ho⟩ := H.at g hv
  obtain ⟨lo, rs, D', hrs⟩ := D.at_.mp ho
  have hl := hrs.length
  obtain ⟨ep, hat⟩ := D'.dictAt
  obtain ⟨ob, hob⟩ := dictOf_get D'
  have hne : p.1 ≠ s.heap.objs.size := Nat.ne_of_lt (Heap.lt_size hob)
  refine wpAny_pyIter_dict lo hat (k _ _ _ _ _ _ (Walks.dictKeys R.hand s.heap.objs.size p.1 hne rs ep) (by rw [List.length_map]; exact hl.symm) (fun i y hy => ?_) (by rw [List.all_map]; exact List.all_eq_true.mpr fun e _ => hpl e.1) (by lia) ⟨⟨_, Heap.get?_push_size _ rfl, rfl, rfl⟩, hat.push _⟩ (fun b hb => ?_)
    (fun b o e => Heap.get?_push_of_some _ e) (Heap.get?_none_of_le (Nat.le_refl _)))
  · obtain ⟨kk, xx, hx, hk⟩ := hy
    have hlt := (List.getElem?_eq_some_iff.mp hx).1
    have e1 : es[i]? = some es[i] := List.getElem?_eq_getElem (by lia)
    obtain ⟨z, hz, hvz⟩ := hrs.get e1
    rw [hz] at hx
    cases hx
    exact ⟨D.key es[i].1, by rw [List.getElem?_map, e1]; rfl, hkey (by rw [show es[i].1 = kk from hvz.1]; exact hk)⟩
  · rw [Heap.size_push]
    rcases List.mem_cons.mp hb with rfl | hb
    · exact Nat.lt_succ_self _
    · rw [List.mem_singleton.mp hb]; exact Nat.lt_succ_of_lt (Heap.lt_size hob)⟩
theorem keyI {w : World} {ad : AD} {k : Int} {y : Value} (h : (dkI w).knd.is k y = true) : VR ad ((dkI w).key k) y := by
  have : ∃ t, y = .int k t := by
    cases y <;> simp [PySem.intKind, Value.isInt] at h
    exact ⟨_, by rw [h]⟩
  obtain ⟨t, rfl⟩ := this
  exact .int _ _
theorem keyS {w : World} {ad : AD} {k : Str} {y : Value} (h : (dkS w).knd.is k y = true) : VR ad ((dkS w).key k) y := by
  have : ∃ t, y = .str k t := by
    cases y <;> simp [PySem.strKind, Value.isStrOf] at h
    exact ⟨_, by rw [h]⟩
  obtain ⟨t, rfl⟩ := this
  exact .str _ _
theorem tm_keysI {es : List (Int × MV)} (g : σ.obj c = some (.dI es)) (h : es.length < 1000) : IterM X σ (.loc c) (es.map fun e => .int e.1) := tm_keys (dkI X.w) keyI (fun _ => rfl) g h
theorem tm_keysS {es : List (Str × MV)} (g : σ.obj c = some (.dS es)) (h : es.length < 1000) : IterM X σ (.loc c) (es.map fun e => .str e.1) := tm_keys (dkS X.w) keyS (fun _ => rfl) g h
noncomputable def CdM (X : Wb) (cs : List (String × Nat)) (σ : MS) (x : String) : Option ME → MV → Bool → Prop
  | none, _, b => b = true
  | some c, m, b => PtM X ⟨[(x, m)], cs, false⟩ c σ b
theorem comp_pair {fb : MV → Bool} {fu : MV → MV} {p : Value → Bool} {F : Value → Value → Prop} : ∀ {ms : List MV} {vs ys : List Value}, All2 (VR ad) ms vs →
    (∀ m ∈ ms, ∀ v, VR ad m v → p v = fb m) → (∀ m ∈ ms, ∀ v y, VR ad m v → F v y → VR ad (fu m) y) → Paired F (vs.filter p) ys → All2 (VR ad) ((ms.filter fb).map fu) ys
  | [], _, ys, a, _, _, P => by
    cases a
    cases P
    exact .nil
  | v :: r, _, ys, .cons (b := v') (bs := vs) hv a, hp, hF, P => by
    have h1 := hp v (.head _) v' hv
    have ih := @comp_pair fb fu p F r vs
    rw [List.filter_cons, h1] at P
    rw [List.filter_cons]
    by_cases c : fb v = true
    · rw [if_pos c] at P ⊢
      cases P with
      | cons f P => exact .cons (hF v (.head _) v' _ hv f) (ih a (fun m hm => hp m (List.mem_cons_of_mem _ hm)) (fun m hm => hF m (List.mem_cons_of_mem _ hm)) P)
    · rw [if_neg c] at P ⊢
      exact ih a (fun m hm => hp m (List.mem_cons_of_mem _ hm)) (fun m hm => hF m (List.mem_cons_of_mem _ hm)) P
open Classical in
theorem comp_quiet {ns : List (Str × NameKind)} {env : Env} {A : Around} {s : Shared} {h2 : Heap} {I : Addr} {P : Nat → Value → Prop} {scope : Scope} {cl : List (Str × Addr)} {cs : List (String × Nat)} {ifs : List Expr} {elt : Expr} {melt : ME} {cond : Option ME} {j : Nat} {fb : MV → Bool} {fu : MV → MV} (hs : env.scope.names = ns) (R : Room A 0) (F : FrR X.base env fr ad s.heap) (H : HR X.w X.base σ ad s.heap)
    (hk : scope.kind = .function) (hcl : ∀ y n, getL' y cs = some n → ∃ q : Addr × Addr, ad[n]? = some q ∧ cl.lookup (Str.ofString y) = some q.1)
    (Te : chkP (relabelN scope.names ns) j elt melt = true) (Tc : chkC (relabelN scope.names ns) j ifs cond = true) (hm : ∀ m ∈ ms, CdM X cs σ x cond m (fb m) ∧ (fb m = true → PuM X ⟨[(x, m)], cs, false⟩ melt σ (fu m))) (hall : ms.all plainV = true)
    (hP : ∀ i y, P i y → ∃ m, ms[i]? = some m ∧ VR ad m y) (h12 : ∀ b o, s.heap.get? b = some o → h2.get? b = some o) (hI : s.heap.get? I = none) :
    ∃ (p : Value → Bool) (F : Value → Value → Prop), QuietOnC PR X.w A env scope cl (Str.ofString x) ifs elt [I] P p F { s with heap := h2 } ∧
      ∀ (vs ys : List Value), vs.length = ms.length → (∀ (j : Nat) (v : Value), vs[j]? = some v → P j v) → Paired F (vs.filter p) ys → All2 (VR ad) ((ms.filter fb).map fu) ys := by
  have inj : ∀ m ∈ ms, ∀ m' ∈ ms, ∀ v, VR ad m v → VR ad m' v → m = m' := fun m hm m' hm' v hv hv' =>
    plain_inj H (List.all_eq_true.mp hall m hm) (List.all_eq_true.mp hall m' hm') hv hv'
  let p : Value → Bool := fun v => decide (∃ m ∈ ms, VR ad m v ∧ fb m = true)
  have hp : ∀ m ∈ ms, ∀ v, VR ad m v → p v = fb m := fun m hm v hv => by
    cases q : fb m with
    | true => exact decide_eq_true ⟨m, hm, hv, q⟩
    | false => exact decide_eq_false fun ⟨m', hm', hv', h⟩ => by rw [inj m hm m' hm' v hv hv', h] at q; cases q
  have at_ : ∀ {C s₃ m v} {m₃ : Str → Option Value}, h2.objs.size ≤ C → s₃.heap.Ns C m₃ → m₃ (Str.ofString x) = some v → VR ad m v → (∀ b o, b ∉ [I] → h2.get? b = some o → s₃.heap.get? b = some o) → At X 0 ⟨[(x, m)], cs, false⟩ σ noCl (relabelN scope.names ns) (compEnvC scope cl C env) ad A s₃ := fun {C s₃ m v m₃} hC hn hx hv hkk =>
    ⟨fun _ _ _ _ h => fnt h, by rw [← hs]; exact relabel_names F.kind, R, comp_frame (σ := σ) (scope := scope) (cl := cl) (m := m) F H hk hcl hC h12 hn hx hv, H.keep fun b o e => hkk b o (fun hb => by rw [List.mem_singleton.mp hb, hI] at e; cases e) (h12 b o e)⟩
  refine ⟨p, fun v y => ∃ m ∈ ms, VR ad m v ∧ VR ad (fu m) y, ⟨?_, ?_⟩, fun vs ys hl hj hF => ?_⟩
  · intro C i v s₃ m₃ E' hC hPi hn hx hkk _
    obtain ⟨m, hmi, hv⟩ := hP i v hPi
    have hmem := List.mem_of_getElem? hmi
    have a := at_ hC hn hx hv hkk
    have hb := (hm m hmem).1
    have hbp := hp m hmem v hv
    cases cond with
    | none =>
      refine nil_el (P := fun ifs => wpAny (model PR X.w) A (forIn ifs _ _) _ E' s₃) Tc ?_
      rw [List.forIn_nil]
      exact wpAny_pure ⟨by rw [hbp]; exact hb.symm, s₃.heap, s₃.toks, rfl, fun _ _ e => e⟩
    | some mc =>
      refine v1_el (P := fun ifs => wpAny (model PR X.w) A (forIn ifs _ _) _ E' s₃) Tc fun c hc => ?_
      rw [List.forIn_cons]
      refine wpAny_bind ?_
      rw [if_pos rfl]
      refine wpAny_bind (PtM.go hb hc a fun tk => ?_)
      refine wpAny_pure ?_
      dsimp only
      rw [List.forIn_nil]
      exact wpAny_pure ⟨hbp.symm, s₃.heap, tk, rfl, fun _ _ e => e⟩
  · intro C i v s₃ m₃ E' hC hPi hpv hn hx hkk _
    obtain ⟨m, hmi, hv⟩ := hP i v hPi
    have hmem := List.mem_of_getElem? hmi
    exact ((hm m hmem).2 ((hp m hmem v hv).symm.trans hpv)).go Te (at_ hC hn hx hv hkk) fun tk z hz => ⟨⟨m, hmem, hv, hz⟩, s₃.heap, tk, rfl, fun _ _ e => e⟩
  · refine comp_pair (all2_of hl fun j v e => hP j v (hj j v e)) hp (fun m hm' v y hv hF => ?_) hF
    obtain ⟨m', hm'', hv', hz⟩ := hF
    rw [inj m hm' m' hm'' v hv hv']
    exact hz
theorem folded {it : Expr} (h : noSet it = true) (env : Env) (x : Value) : foldedSetIterable it env x = pure x := by
  cases it <;> first | rfl | exact fnt h
theorem comp_go {cl0 : Nat → Arguments → FuncBody → Scope → Bool} {ns : List (Str × NameKind)} {env : Env} {A : Around} {s : Shared} {E : Value → Shared → Prop} {j : Nat} {scope : Scope} {it elt : Expr} {ifs : List Expr} {use : Option (Value → Sem Unit)} {Q : Value → Shared → Prop} {fv : List String} {mit melt : ME} {cond : Option ME} {cs : List (String × Nat)} {fb : MV → Bool} {fu : MV → MV} {pos p xp : Pos}
    (a : At X n fr σ cl0 ns env ad A s) (D : EvM X n fr mit σ v σ1) (I : IterM X σ1 v ms) (hcs : mCels fr fv = some cs) (hm : ∀ m ∈ ms, CdM X cs σ1 x cond m (fb m) ∧ (fb m = true → PuM X ⟨[(x, m)], cs, false⟩ melt σ1 (fu m)))
    (hse : noSet it = true) (K : CompOk scope x ns fv) (hit : chkE cl0 ns j it mit = true) (Te : chkP (relabelN scope.names ns) j elt melt = true) (Tc : chkC (relabelN scope.names ns) j ifs cond = true)
    (k : ∀ ad1 h1 D C h' tk (m' : Str → Option Value) (ys : Array Value), Step ad s.heap ad1 h1 → HR X.w X.base σ1 ad1 h1 → h1.get? D = none → h1.get? C = none → D ≠ C → Heap.Ns h' C m' → Heap.PlainList h' D ys → All2 (VR ad1) ((ms.filter fb).map fu) ys.toList → (∀ b o, h1.get? b = some o → h'.get? b = some o) →
      compPost (model PR X.w) A E use Q (.ref D) C (.ok .next) { s with heap := h', toks := tk }) :
    wpAny (model PR X.w) A (comprehension (.ListComp elt [⟨.Name (Str.ofString x) xp, it, ifs, 0⟩] scope p) scope env pos (newList []) false (eval it env) use) Q E s := by
  obtain ⟨cl, hclos, hcl0⟩ := closed a.F K.free hcs
  refine wpAny_comprehension_free rfl (folded hse env) hclos K.kind K.names (D.go hit a fun ad1 h1 tk1 z1 st1 H1 hz1 => ?_)
  refine I.go (s := { s with heap := h1, toks := tk1 }) a.R.zero H1 hz1 fun h2 It fp m P St W hl hP hall hcap hst hfp h12 hI => ?_
  obtain ⟨p, G, hq, hall2⟩ := comp_quiet (s := { s with heap := h1, toks := tk1 }) a.hs a.R.zero (a.F.step st1) H1 K.kind (fun y n e => let ⟨q, a, b⟩ := hcl0 y n e; ⟨q, st1.ext _ _ a, b⟩) Te Tc hm hall hP h12 hI
  refine comp_block_walkC (RR := fun acc C => compPost (model PR X.w) A E use Q acc C) W (by rw [sizeLine_eq]; lia) p G K.cell K.kind K.var hst hfp hq ?_
  intro D C h' tk m' ys vs hD hC hDC hn hli hpl hlen hPj hF hk
  have none1 : ∀ b, h2.get? b = none → h1.get? b = none := fun b hb => by
    cases q : h1.get? b with
    | none => rfl
    | some o => rw [h12 _ _ q] at hb; cases hb
  exact k ad1 h1 D C h' tk m' ys st1 H1 (none1 D hD) (none1 C hC) hDC hn hpl (hall2 vs ys.toList (hlen.trans hl) hPj hF) fun b o e => hk b o (fun hb => by rw [List.mem_singleton.mp hb, hI] at e; cases e) (h12 b o e)
theorem em_comp {fv : List String} {mit melt : ME} {cond : Option ME} {cs : List (String × Nat)} (fb : MV → Bool) (fu : MV → MV) (D : EvM X n fr mit σ v σ1) (I : IterM X σ1 v ms) (hcs : mCels fr fv = some cs) (hm : ∀ m ∈ ms, CdM X cs σ1 x cond m (fb m) ∧ (fb m = true → PuM X ⟨[(x, m)], cs, false⟩ melt σ1 (fu m))) :
    EvM X n fr (.comp melt x fv mit cond) σ (.loc σ1.next) (σ1.new (.list ((ms.filter fb).map fu))) := ⟨fun {cl ns j e env ad A s E Q} hc a k => by
  cases j; exact fnt hc
  refine vComp_el (P := fun e => wpAny (model PR X.w) A (eval e env) Q E s) hc fun elt' gs scope p g => v1_el g fun gn g => ?_
  obtain ⟨t', it', ifs, as⟩ := gn
  obtain ⟨h1, h2, h3, h4, h5, h6, h7⟩ := and7 g
  refine vName_el (x0 := t') h1 fun y xp h1 => nm_el h1 (dec_el (a := as) h2 ?_)
  rw [eval_ListComp]
  refine comp_go (use := none) a D I hcs hm h3 (compB_eq h4) h5 h6 h7 fun ad1 h1 D C h' tk m' ys st1 H1 hD hC hDC hn hpl hys hk => ⟨m', hn, fun h'' hs'' => ?_⟩
  obtain ⟨c, hD''⟩ := hpl.extBut hs''.extBut hDC
  obtain ⟨x', st, hv'⟩ := new_list (s := { s with heap := h1 }) H1 (a := D) (h' := h'') (rs := ys.toList) (n := c) (vs := (ms.filter fb).map fu) (fun b o e => hs''.extBut b o (fun z => by rw [z, hC] at e; cases e) (hk b o e)) hD (by rw [Array.toArray_toList]; exact hD'') hys
  exact k _ _ tk _ (st1.trans H1 st) x' hv'⟩
end
end Mine
end
section
open PySem PySem.W PySem.Calls PyProof.Rows
set_option maxRecDepth 100000
namespace Mine
section
variable {w : World} {base : Heap} {σ : MS} {ad : AD} {h h' : Heap}
theorem HR.adopt (x : HR w base σ ad h) {p : Addr × Addr} {o : MO} (hk : ∀ b ob, ¬ Own p b → h.get? b = some ob → h'.get? b = some ob)
    (hf : ∀ b, Own p b → (∀ (n : Nat) (q : Addr × Addr), ad[n]? = some q → ¬ Own q b) ∧ base.get? b = none ∧ ∃ o, h'.get? b = some o) (ho : ObjAt w base (ad ++ [p]) h' p o) : HR w base (σ.new o) (ad ++ [p]) h' := by
  have at_ : ∀ {n : Nat} {q : Addr × Addr}, (ad ++ [p])[n]? = some q → ad[n]? = some q ∨ (n = ad.length ∧ q = p) := fun {n q} e => by
    by_cases l : n < ad.length
    · rw [List.getElem?_append_left l] at e; exact .inl e
    · rw [List.getElem?_append_right (Nat.not_lt.mp l)] at e
      cases z : n - ad.length with
      | zero => rw [z] at e; simp at e; exact .inr ⟨by lia, e.symm⟩
      | succ k => rw [z] at e; simp at e
  have no : ∀ {n : Nat} {q : Addr × Addr} {b : Addr}, ad[n]? = some q → Own q b → ¬ Own p b := fun {n q b} e oq op => (hf b op).1 n q e oq
  refine ⟨by simp [MS.new, x.len], fun m o' e => ?_, fun n m q r b hq hr oq or' => ?_, fun n q b e ob => ?_, x.three, fun b ob e => hk b ob (fun z => by rw [(hf b z).2.1] at e; cases e) (x.stays b ob e)⟩
  · unfold MS.new at e
    dsimp only at e
    by_cases q : m = σ.next
    · subst q
      rw [if_pos rfl] at e
      cases e
      exact ⟨p, x.at_new p, ho⟩
    · rw [if_neg q] at e
      obtain ⟨r, hr, r'⟩ := x.obj m o' e
      exact ⟨r, Pre.snoc _ _ _ _ hr, r'.keep (.snoc _ _) fun c ob oc e => hk c ob (no hr oc) e⟩
  · rcases at_ hq with h1 | ⟨h1, e1⟩ <;> rcases at_ hr with h2 | ⟨h2, e2⟩
    · exact x.apart n m q r b h1 h2 oq or'
    · exact (no h1 oq (e2 ▸ or')).elim
    · exact (no h2 or' (e1 ▸ oq)).elim
    · rw [h1, h2]
  · rcases at_ e with e | ⟨_, rfl⟩
    · obtain ⟨a, o, d⟩ := x.off n q b e ob
      exact ⟨a, o, hk _ _ (no e ob) d⟩
    · exact ⟨(hf b ob).2.1, (hf b ob).2.2⟩
end
noncomputable def prs (env : Env) (pos : Pos) : List (String × Nat × Pos) → List Expr → List (Sem Value × Sem Value)
  | q :: ks, e :: es => (eval (.Constant (.str (Str.ofString q.1)) q.2.1 q.2.2) env, do let x ← eval e env; standAt pos; pure x) :: prs env pos ks es
  | _, _ => []
theorem prs_shape (env : Env) (pos : Pos) : ∀ (mks : List (String × Nat × Pos)) (es : List Expr), mks.length = es.length →
    (evalEachOpt (mks.map fun q => some (Expr.Constant (.str (Str.ofString q.1)) q.2.1 q.2.2)) env).zip ((evalEach es env).map fun v => do let x ← v; standAt pos; pure x) = (prs env pos mks es).map fun p => (some p.1, p.2)
  | [], [], _ => rfl
  | q :: ks, e :: es, h => by
    have := prs_shape env pos ks es (by simpa using h)
    show (_ :: _) = (_ :: _)
    rw [← this]; rfl
  | [], _ :: _, h => by simp at h
  | _ :: _, [], h => by simp at h
theorem prs_length (env : Env) (pos : Pos) : ∀ (mks : List (String × Nat × Pos)) (es : List Expr), mks.length = es.length → (prs env pos mks es).length = mks.length
  | [], [], _ => rfl
  | q :: ks, e :: es, h => by show _ + 1 = _ + 1; rw [prs_length env pos ks es (by simpa using h)]
  | [], _ :: _, h => by simp at h
  | _ :: _, [], h => by simp at h
theorem nodup_of {l : List String} (h : l.Nodup) : (l.map Str.ofString).Nodup := by
  induction l with
  | nil => exact List.nodup_nil
  | cons a l ih =>
    rw [List.nodup_cons] at h
    rw [List.map_cons, List.nodup_cons]
    refine ⟨fun hm => ?_, ih h.2⟩
    obtain ⟨b, hb, e⟩ := List.mem_map.mp hm
    exact h.1 (cps_inj e ▸ hb)
theorem kvs_of {ad : AD} : ∀ {ks : List Str} {rs : List MV} {kvs : List (Str × Value)}, kvs.map (·.1) = ks → All2 (VR ad) rs (kvs.map (·.2)) → All2 (KvR ad) (ks.zip rs) kvs
  | _, _, [], h, .nil => by cases h; exact .nil
  | _, _, kv :: kvs, h, .cons r t => by
    cases h
    exact .cons ⟨rfl, r⟩ (kvs_of rfl t)
inductive EvA (X : Wb) (n : Nat) (fr : MF) : List ME → MS → List MV → MS → Prop
  | nil {σ : MS} : EvA X n fr [] σ [] σ
  | cons {σ σ1 σ2 : MS} {m : ME} {v : MV} {ms : List ME} {vs : List MV} : EvM X n fr m σ v σ1 → EvA X n fr ms σ1 vs σ2 → EvA X n fr (m :: ms) σ (v :: vs) σ2
section
variable {X : Wb} {n : Nat} {fr : MF} {σ σ1 : MS} {ms : List ME} {vs : List MV}
theorem EvA.len (D : EvA X n fr ms σ vs σ1) : vs.length = ms.length := by
  induction D with
  | nil => rfl
  | cons _ _ ih => exact congrArg Nat.succ ih
theorem pairs_ok {cl ns j env} (pos : Pos) (D : EvA X n fr ms σ vs σ1) : ∀ (mks : List (String × Nat × Pos)) (es : List Expr), mks.length = es.length → chkL (fun e m => notStar e && chkE cl ns j e m) es ms = true →
    ∀ {ad A s E} {Q : List (Value × Value) → Shared → Prop}, At X n fr σ cl ns env ad A s →
      (∀ ad' h' tk (us : List (Value × Value)) (kvs : List (Str × Value)), Step ad s.heap ad' h' → HR X.w X.base σ1 ad' h' → Carries (PySem.strKind PR X.w) us kvs → kvs.map (·.1) = mks.map (fun q => Str.ofString q.1) → All2 (VR ad') vs (kvs.map (·.2)) → Q us { s with heap := h', toks := tk }) →
      wpAny (model PR X.w) A (evalPairs (prs env pos mks es)) Q E s := by
  induction D with
  | nil =>
    intro mks es hl hc ad A s E Q a k
    cases es with
    | cons _ _ => exact fnt hc
    | nil => cases mks with
      | cons _ _ => simp at hl
      | nil => exact evalPairs_nil (k ad s.heap s.toks [] [] (.refl _ _) a.H trivial rfl .nil)
  | cons I J ih =>
    intro mks es hl hc ad A s E Q a k
    cases es with
    | nil => exact fnt hc
    | cons e es => cases mks with
      | nil => simp at hl
      | cons q ks =>
        refine evalPairs_cons (wpAny_Constant_str ?_)
        refine wpAny_bind (I.go (and2 (and2 hc).1).2 (a.toks _) fun ad1 h1 tk1 z1 st1 H1 hz1 => wpAny_bind (wpAny_standAt (wpAny_pure ?_)))
        refine ih ks es (by simpa using hl) (and2 hc).2 (a.step (tk := tk1) st1 H1) fun ad2 h2 tk2 us kvs st2 H2 hca hn ha => ?_
        exact k ad2 h2 tk2 _ ((Str.ofString q.1, z1) :: kvs) (st1.trans H1 st2) H2 ⟨strKind_is PR X.w _ _, rfl, hca⟩ (by rw [List.map_cons, List.map_cons, hn]) (.cons (hz1.mono st2.ext) ha)
theorem dict_go {cl ns j env ad A s E Q} {mks : List (String × Nat × Pos)} {es : List Expr} {p : Pos} (a : At X n fr σ cl ns env ad A s) (D : EvA X n fr ms σ vs σ1) (h0 : mks ≠ []) (hc : chkL (fun e m => notStar e && chkE cl ns j e m) es ms = true) (hl : mks.length = es.length) (h10 : mks.length < 10) (hnd0 : (mks.map (·.1)).Nodup)
    (k : Cont X.w X.base (σ1.new (.dS ((mks.map fun q => Str.ofString q.1).zip vs))) ad (.loc σ1.next) s Q) : wpAny (model PR X.w) A (eval (.Dict (mks.map fun q => some (Expr.Constant (.str (Str.ofString q.1)) q.2.1 q.2.2)) es p) env) Q E s := by
  have D0 := Heap.DictOf.new (knd := PySem.strKind PR X.w) s.heap
  have hk0 : ∀ b ob, s.heap.get? b = some ob → (s.heap.push { cls := .type "dict", data := .dict #[] }).get? b = some ob := fun b ob e => Heap.get?_push_of_some _ e
  refine wpAny_Dict_pairs (knd := PySem.strKind PR X.w) (prs_shape env p mks es hl) (fun e => h0 ?_) (by rw [prs_length env p _ _ hl]; lia) ?_
  · have := prs_length env p mks es hl
    rw [e] at this
    exact List.eq_nil_of_length_eq_zero this.symm
  have H := a.H
  refine pairs_ok p D mks es hl hc (s := { s with heap := s.heap.push { cls := .type "dict", data := .dict #[] } }) (a.step (.keeps hk0) (H.keep hk0)) fun ad1 h1 tk1 us kvs st1 H1 hcar hn hall => ?_
  have hd0 : s.heap.get? s.heap.objs.size = none := Heap.get?_none_of_le (Nat.le_refl _)
  have hno : ∀ (n : Nat) (q : Addr × Addr), ad1[n]? = some q → ¬ Own q s.heap.objs.size := fun n q e ho => by
    by_cases l : n < ad.length
    · have e1 : ad[n]? = some ad[n] := List.getElem?_eq_getElem l
      have e2 := st1.ext _ _ e1
      rw [e] at e2
      cases e2
      obtain ⟨_, o, e3⟩ := H.off n _ _ e1 ho
      rw [hd0] at e3; cases e3
    · have := st1.fresh n q _ e (Nat.not_lt.mp l) ho
      obtain ⟨o, e3⟩ := dictOf_get D0
      rw [this] at e3; cases e3
  have hbn : X.base.get? s.heap.objs.size = none := by
    cases e : X.base.get? s.heap.objs.size with
    | none => rfl
    | some o => rw [H.stays _ _ e] at hd0; cases hd0
  have D1 : h1.DictOf (PySem.strKind PR X.w) s.heap.objs.size [] := by
    obtain ⟨o, es', ep, ho, r⟩ := D0
    exact ⟨o, es', ep, st1.keep _ _ ho fun n p hp ho => hno n p (st1.ext _ _ hp) ho, r⟩
  refine ⟨kvs, hcar, D1, fun h' D' hs' => ?_⟩
  have hnd : (kvs.map (·.1)).Nodup := by
    rw [hn]
    have := nodup_of hnd0
    rwa [List.map_map] at this
  rw [merged_nil_of_nodup kvs hnd] at D'
  have H2 := H1.adopt (h' := h') (o := .dS ((mks.map fun q => Str.ofString q.1).zip vs)) (p := (s.heap.objs.size, s.heap.objs.size)) (fun b ob nb e => (hs'.2 b fun z => nb (.inl z)).trans e)
    (fun b hb => by
      have : b = s.heap.objs.size := by rcases hb with e | e <;> exact e
      subst this
      exact ⟨hno, hbn, dictOf_get D'⟩)
    ⟨H.notMods (Nat.le_refl _), kvs, D', (kvs_of hn hall).mono fun _ _ r => ⟨r.1, r.2.mono (.snoc _ _)⟩⟩
  refine k _ _ _ _ ⟨st1.ext.trans (.snoc _ _), fun b o e hn => ?_, fun n q b e hnl ho => ?_⟩ H2 (.loc (H1.at_new _))
  · have hb : b ≠ s.heap.objs.size := fun z => by rw [z, hd0] at e; cases e
    exact (hs'.2 b hb).trans (st1.keep b o (hk0 b o e) hn)
  · by_cases l : n < ad1.length
    · rw [List.getElem?_append_left l] at e
      have := st1.fresh n q b e hnl ho
      cases z : s.heap.get? b with
      | none => rfl
      | some o => rw [hk0 b o z] at this; cases this
    · rw [List.getElem?_append_right (Nat.not_lt.mp l)] at e
      cases z : n - ad1.length with
      | zero =>
        rw [z] at e
        simp at e
        subst e
        have : b = s.heap.objs.size := by rcases ho with e | e <;> exact e
        rw [this]; exact hd0
      | succ k => rw [z] at e; simp at e
theorem em_dict {ks : List String} (D : EvA X n fr ms σ vs σ1) (h0 : ks.isEmpty = false) (hl : ks.length = ms.length) (h10 : ks.length < 10) (hnd : ks.Nodup) : EvM X n fr (.dict ks ms) σ (.loc σ1.next) (σ1.new (.dS ((ks.map Str.ofString).zip vs))) := ⟨fun {cl ns j e env ad A s E Q} hc a k => by
  cases j; exact fnt hc
  refine vDict_el (P := fun e => wpAny (model PR X.w) A (eval e env) Q E s) hc fun ks' bs p g => ?_
  obtain ⟨mks, rfl, rfl⟩ := keysB_ok (and3 g).1
  have hb : bs.length = ms.length := chkL_ok (α := Expr) (β := ME) (R := fun _ _ => True) (S := fun es ms => es.length = ms.length) (fun _ _ _ => trivial) rfl (fun _ _ _ _ _ h => congrArg Nat.succ h) (and3 g).2.1
  rw [List.length_map] at hl h10
  rw [List.map_map] at k
  exact dict_go a D (fun e => by rw [e] at h0; cases h0) (and3 g).2.1 (hl.trans hb.symm) h10 hnd k⟩
end
theorem among_append {pos : Pos} {a b : Int} {c : Value} (l : List Value) (h : TriplesOk l) (hn : codeAmong pos l = none) (hp : ¬ (a = pos.line ∧ b = pos.col)) : codeAmong pos (l ++ [rawInt a, rawInt b, c]) = none := by
  fun_induction TriplesOk l with
  | case1 =>
    simp only [List.nil_append, codeAmong, rawInt]
    have : (a == (pos.line : Int) && b == (pos.col : Int)) = false := by
      rw [Bool.and_eq_false_iff]
      by_cases q : a = pos.line
      · right; exact beq_false_of_ne fun e => hp ⟨q, e⟩
      · left; exact beq_false_of_ne q
    rw [this]; rfl
  | case2 a' t b' u x rest ih =>
    simp only [List.cons_append, codeAmong] at hn ⊢
    split at hn
    · cases hn
    · rename_i q
      rw [if_neg q]
      exact ih h hn
  | case3 l h1 h2 => exact h.elim
section
variable {w : World} {base : Heap} {σ σ' : MS} {ad : AD} {env : Env} {fr : MF} {A : Around} {E : Value → Shared → Prop} {s : Shared} {Q : Value → Shared → Prop}
theorem made_ok {k l c : Nat} {cs : List (String × Nat)} {ps : List (Nat × Nat)} {tab : Array Value} {h' : Heap} {c' : Addr} {pos : Pos} {name qual : Str} {params : Arguments} {body : FuncBody} {scope : Scope} {clos : List (Str × Addr)} {doc pm ct : Value} {tk : Nat} {ob : Obj}
    (H : HR w base σ ad s.heap) (h0 : σ.obj 0 = some (.codes ps)) (hl : pos.line = l) (hc : pos.col = c) (ht : TriplesOk tab.toList) (hm : ∀ p : Pos, (p.line, p.col) ∉ ps → codeAmong p tab.toList = none)
    (hx : Heap.ExtBut 655 s.heap h') (hge : s.heap.objs.size ≤ c') (hlt : c' < h'.objs.size) (hrec : h'.CodeRec (.ref c') qual) (htb : h'.get? 655 = some (tabObj (tab ++ #[rawInt pos.line, rawInt pos.col, .ref c'])))
    (hob : ob.data = .func (fnD name qual params body scope clos doc pm (.ref c') ct)) (hfree : ob.isFreed = false) (hcl : ClF k params body scope) (hcs : ∀ y n, getL' y cs = some n → ∃ q : Addr × Addr, ad[n]? = some q ∧ clos.lookup (Str.ofString y) = some q.1)
    (K : Cont w base ((σ.put 0 (.codes ((l, c) :: ps))).new (.fn k cs)) ad (.loc σ.next) s Q) : Q (.ref h'.objs.size) { s with heap := h'.push ob, toks := tk } := by
  obtain ⟨p, hp, rfl, tab', hP, _⟩ := H.obj 0 _ h0
  have hsz : s.heap.objs.size ≤ h'.objs.size := Nat.le_trans hge (Nat.le_of_lt hlt)
  have k1 : ∀ b o, b ≠ 655 → s.heap.get? b = some o → (h'.push ob).get? b = some o := fun b o nb e => Heap.get?_push_of_some _ (hx b o nb e)
  have hne : (655 : Nat) < s.heap.objs.size := Heap.lt_size hP
  obtain ⟨H1, st1⟩ := H.put (h' := h'.push ob) (o := .codes ((l, c) :: ps)) hp (fun b o nb e => k1 b o (fun z => nb (.inl z)) e) (fun b hb => by
      have : b = 655 := by rcases hb with e | e <;> exact e
      rw [this]; exact ⟨_, Heap.get?_push_of_some _ htb⟩)
    ⟨rfl, tab ++ #[rawInt pos.line, rawInt pos.col, .ref c'], Heap.get?_push_of_some _ htb, by rw [Array.toList_append]; exact TriplesOk_snoc _ _ _ _ ht, fun q hq => by
      rw [List.mem_cons, not_or] at hq
      rw [Array.toList_append]
      refine among_append _ ht (hm q hq.2) fun e => hq.1 ?_
      rw [← hl, ← hc]
      have e1 : pos.line = q.line := by exact_mod_cast e.1
      have e2 : pos.col = q.col := by exact_mod_cast e.2
      rw [e1, e2]⟩
  have fresh : ∀ b, s.heap.objs.size ≤ b → s.heap.get? b = none := fun b hb => Heap.get?_none_of_le hb
  have hfo : (h'.push ob).get? h'.objs.size = some ob := Heap.get?_push_size _ hfree
  obtain ⟨c₂, oc, vs, t, e2, hoc, hr⟩ := id hrec
  cases e2
  have hown : ∀ b, Own (h'.objs.size, c') b → s.heap.objs.size ≤ b ∧ ∃ o, (h'.push ob).get? b = some o := fun b hb => by
    rcases hb with e | e
    · rw [e]; exact ⟨hsz, _, hfo⟩
    · rw [e]; exact ⟨hge, _, Heap.get?_push_of_some _ hoc⟩
  have H2 : HR w base ((σ.put 0 (.codes ((l, c) :: ps))).new (.fn k cs)) (ad ++ [(h'.objs.size, c')]) (h'.push ob) :=
    H1.adopt (p := (h'.objs.size, c')) (fun b o _ e => e) (fun b hb => by
        refine ⟨fun n q hq ho => ?_, ?_, (hown b hb).2⟩
        · obtain ⟨_, o, e⟩ := H.off n q b hq ho
          rw [fresh b (hown b hb).1] at e; cases e
        · cases z : base.get? b with
          | none => rfl
          | some o => have := H.stays b o z; rw [fresh b (hown b hb).1] at this; cases this)
      ⟨ob, name, qual, params, body, scope, clos, doc, pm, ct, hfo, hob, codeRec_keep hrec fun o e => Heap.get?_push_of_some _ e, hcl, fun y n e => let ⟨q, a, b⟩ := hcs y n e; ⟨q, Pre.snoc _ _ _ _ a, b⟩⟩
  refine K _ _ tk _ ⟨.snoc _ _, st1.keep, fun n q b e hn ho => ?_⟩ H2 (.loc (H.at_new (h'.objs.size, c')))
  rw [List.getElem?_append_right hn] at e
  cases z : n - ad.length with
  | zero => rw [z] at e; simp at e; subst e; exact fresh b (hown b ho).1
  | succ j => rw [z] at e; simp at e
end
theorem cl_defaults {k : Nat} {params : Arguments} {body : FuncBody} {scope : Scope} (h : ClF k params body scope) : params.defaults = [] ∧ params.kw_defaults = [] := by
  obtain ⟨fd, _, _, hd, hok, _⟩ := clF_ok h
  obtain ⟨_, _, _, _, h5, h6⟩ := hok.only
  rw [hd] at h6
  exact ⟨List.eq_nil_of_length_eq_zero h6, h5⟩
section
variable {X : Wb} {n : Nat} {fr : MF} {σ : MS}
theorem make_lam {cl ns env ad A s E Q} {k : Nat} {pos : Pos} {fv : List String} {name qual : Str} {params : Arguments} {body : FuncBody} {scope : Scope} {fl : Nat} {ps : List (Nat × Nat)} {cs : List (String × Nat)} (a : At X n fr σ cl ns env ad A s) (h0 : σ.obj 0 = some (.codes ps)) (hm : ps.contains (pos.line, pos.col) = false) (hw : fr.law = true) (hcs : mCels fr fv = some cs) (hcl : ClF k params body scope)
    (hf : (scope.names.filter fun y => y.2 == .free).map (·.1) = fv.map Str.ofString) (K : Cont X.w X.base ((σ.put 0 (.codes ((pos.line, pos.col) :: ps))).new (.fn k cs)) ad (.loc σ.next) s Q) :
    wpAny (model PR X.w) A (makeFunction name qual params body scope env [] [] [] pos fl) Q E s := by
  obtain ⟨cl', hclos, hrel⟩ := closed a.F hf hcs
  obtain ⟨mg, mb, hg, _, _, hbat⟩ := X.b.top
  have hmem : (pos.line, pos.col) ∉ ps := fun h => by rw [List.contains_iff_mem.mpr h] at hm; cases hm
  obtain ⟨p, hp, rfl, tab, hP, ht, hm⟩ := a.H.obj 0 _ h0
  cases body with
  | expr b =>
    refine kla_makeFunction hclos a.F.glob (hg.keeps a.H.stays) (a.F.code hw) (X.b.code.keeps a.H.stays) hP ht (hm pos hmem) (by decide) (hbat _ a.H.stays) fun c' ctv h' tk hx hge hlt hrec htb => ?_
    exact made_ok (body := .expr b) a.H h0 rfl rfl ht hm hx hge hlt hrec htb rfl rfl hcl hrel K
  | stmts b =>
    refine makeFunction_K hclos a.F.glob (hg.keeps a.H.stays) (a.F.code hw) (X.b.code.keeps a.H.stays) hP ht (hm pos hmem) (by decide) (hbat _ a.H.stays) fun c' ctv doc h' tk hx hge hlt hrec htb => ?_
    exact made_ok (body := .stmts b) a.H h0 rfl rfl ht hm hx hge hlt hrec htb rfl rfl hcl hrel K
theorem em_lam {k l c : Nat} {fv : List String} {ps : List (Nat × Nat)} {cs : List (String × Nat)} (h0 : σ.obj 0 = some (.codes ps)) (hm : ps.contains (l, c) = false) (hw : fr.law = true) (hcs : mCels fr fv = some cs) : EvM X n fr (.lam k l c fv) σ (.loc σ.next) ((σ.put 0 (.codes ((l, c) :: ps))).new (.fn k cs)) := ⟨fun {cl ns j e env ad A s E Q} hc a K => by
  cases j; exact fnt hc
  refine vLam_el (P := fun e => wpAny (model PR X.w) A (eval e env) Q E s) hc fun params body scope pos g => ?_
  have e1 : pos.line = l := eq_of_beq (and4 g).1
  have e2 : pos.col = c := eq_of_beq (and4 g).2.1
  subst e1 e2
  have hcl := a.g _ _ _ _ (and4 g).2.2.1
  refine kla_eval ?_ (make_lam a h0 hm hw hcs hcl (freeB_eq (and4 g).2.2.2) K)
  obtain ⟨h1, h2⟩ := cl_defaults hcl
  rw [defaultsOf_eq, h1, h2]; rfl⟩
end
end Mine
end
section
open PySem PySem.W PySem.Calls PyProof.Rows
set_option maxRecDepth 100000
namespace Mine
inductive FlR (ad : AD) : MFl → Flow → Prop
  | next : FlR ad .next .next
  | ret {v v'} : VR ad v v' → FlR ad (.ret v) (.ret v')
noncomputable abbrev ContL (X : Wb) (env : Env) (fr' : MF) (σ' : MS) (ad : AD) (s : Shared) (Q : Unit → Shared → Prop) : Prop :=
  ∀ ad' h' tk, StepL env.locals ad s.heap ad' h' → FrR X.base env fr' ad' h' → HR X.w X.base σ' ad' h' → Q () { s with heap := h', toks := tk }
noncomputable abbrev ContF (X : Wb) (env : Env) (fl : MFl) (fr' : MF) (σ' : MS) (ad : AD) (s : Shared) (Q : Flow → Shared → Prop) : Prop :=
  ∀ ad' h' tk f, StepL env.locals ad s.heap ad' h' → FrR X.base env fr' ad' h' → HR X.w X.base σ' ad' h' → FlR ad' fl f → Q f { s with heap := h', toks := tk }
section
variable (X : Wb) (n : Nat)
structure AsM (m : MT) (v : MV) (fr : MF) (σ : MS) (fr' : MF) (σ' : MS) : Prop where
  go : ∀ {cl ns j e env ad A s E} {Q : Unit → Shared → Prop} {v' : Value}, chkT cl ns j e m = true → At X n fr σ cl ns env ad A s → VR ad v v' → ContL X env fr' σ' ad s Q → wpAny (model PR X.w) A (assign e env v') Q E s
structure ExM (m : MSt) (fr : MF) (σ : MS) (fl : MFl) (fr' : MF) (σ' : MS) : Prop where
  go : ∀ {cl ns j st env ad A s E} {Q : Flow → Shared → Prop}, chkS cl ns j st m = true → At X n fr σ cl ns env ad A s → ContF X env fl fr' σ' ad s Q → wpAny (model PR X.w) A (exec st env) Q E s
structure ExsM (ms : List MSt) (fr : MF) (σ : MS) (fl : MFl) (fr' : MF) (σ' : MS) : Prop where
  go : ∀ {cl ns j ss env ad A s E} {Q : Flow → Shared → Prop}, chkL (chkS cl ns j) ss ms = true → At X n fr σ cl ns env ad A s → ContF X env fl fr' σ' ad s Q → wpAny (model PR X.w) A (execs ss env) Q E s
inductive AssM : List MT → List MV → MF → MS → MF → MS → Prop
  | nil {fr σ} : AssM [] [] fr σ fr σ
  | cons {t v ts vs fr σ fr1 σ1 fr2 σ2} : AsM X n t v fr σ fr1 σ1 → AssM ts vs fr1 σ1 fr2 σ2 → AssM (t :: ts) (v :: vs) fr σ fr2 σ2
end
theorem plainK {env : Env} (hk : env.scope.kind = .function) : (env.scope.kind == .class || (env.scope.kind == .module && env.locals != env.globals)) = false := by rw [hk]; rfl
theorem FrR.toL {base : Heap} {env : Env} {fr : MF} {ad ad' : AD} {h h' : Heap} (F : FrR base env fr ad h) (st : Step ad h ad' h') : StepL env.locals ad h ad' h' ∧ FrR base env fr ad' h' := ⟨st.toL, F.step st⟩
theorem StepL.after {w : World} {base : Heap} {σ : MS} {env : Env} {fr : MF} {ad a1 a2 : AD} {h h1 h2 : Heap} (F : FrR base env fr ad h) (st : Step ad h a1 h1) (H1 : HR w base σ a1 h1) (sl : StepL env.locals a1 h1 a2 h2) : StepL env.locals ad h a2 h2 :=
  st.toL.trans H1 F.there (F.step st).there sl
theorem StepL.then {w : World} {base : Heap} {σ : MS} {env : Env} {fr fr1 : MF} {ad a1 a2 : AD} {h h1 h2 : Heap} (F : FrR base env fr ad h) (F1 : FrR base env fr1 a1 h1) (st : StepL env.locals ad h a1 h1) (H1 : HR w base σ a1 h1) (sl : StepL env.locals a1 h1 a2 h2) : StepL env.locals ad h a2 h2 :=
  st.trans H1 F.there F1.there sl
theorem assign_sub_eq (e i : Expr) (p : Pos) (env : Env) (v : Value) : ∃ f : Value → Value → List Value, assign (.Subscript e i p) env v = (do
    let ov ← holding [v] (eval e env)
    let iv ← holding [v, ov] (eval i env)
    standAt p
    holding [v, ov, iv] (setItem ov iv v)
    release (f ov iv) []) := ⟨fun ov iv => match i with | .Slice _ _ none _ => [iv, v, ov] | _ => [v, ov, iv], rfl⟩
theorem All2.rev {α β : Type} {R : α → β → Prop} {as : List α} {bs : List β} (x : All2 R as bs) : All2 R as.reverse bs.reverse := by
  induction x with
  | nil => exact .nil
  | cons r _ ih => rw [List.reverse_cons, List.reverse_cons]; exact ih.append (.cons r .nil)
section
variable {X : Wb} {n : Nat} {fr fr1 fr2 : MF} {σ σ1 σ2 σ3 : MS} {m l d : ME} {v u t r : MV} {ms : List ME} {vs us : List MV} {x : String} {p q : Bool} {fl : MFl} {st : MSt} {sts sts2 : List MSt} {mt : MT} {c : Nat}
section
variable {cl : Nat → Arguments → FuncBody → Scope → Bool} {ns : List (Str × NameKind)} {env : Env} {ad ad' ad2 : AD} {A : Around} {s : Shared} {h' h2 : Heap} {tk : Tok}
theorem At.on (a : At X n fr σ cl ns env ad A s) (F : FrR X.base env fr1 ad' h') (H : HR X.w X.base σ1 ad' h') : At X n fr1 σ1 cl ns env ad' A { s with heap := h', toks := tk } := ⟨a.g, a.hs, a.R, F, H⟩
theorem At.after (a : At X n fr σ cl ns env ad A s) (st : Step ad s.heap ad' h') (H : HR X.w X.base σ1 ad' h') (sl : StepL env.locals ad' h' ad2 h2) : StepL env.locals ad s.heap ad2 h2 := .after a.F st H sl
theorem At.then (a : At X n fr σ cl ns env ad A s) (F : FrR X.base env fr1 ad' h') (st : StepL env.locals ad s.heap ad' h') (H : HR X.w X.base σ1 ad' h') (sl : StepL env.locals ad' h' ad2 h2) : StepL env.locals ad s.heap ad2 h2 := .then a.F F st H sl
theorem st_local {E : Value → Shared → Prop} {Q : Unit → Shared → Prop} {v' : Value} (hl : env.kindOf (Str.ofString x) = some .local) (F : FrR X.base env fr ad s.heap) (H : HR X.w X.base σ ad s.heap) (hv : VR ad v v') (k : ContL X env ⟨setL x v fr.loc, fr.cel, fr.law⟩ σ ad s Q) :
    wpAny (model PR X.w) A (storeName env (Str.ofString x) v') Q E s := by
  obtain ⟨m, hn, _⟩ := F.loc
  refine wpAny_storeName_local hl hn (fun h' hn' hs => ?_) (plainK F.kind)
  obtain ⟨F', H', st⟩ := F.set H hv hn hn' hs
  exact k ad h' _ st F' H'
theorem st_cell {E : Value → Shared → Prop} {Q : Unit → Shared → Prop} {v' : Value} {o : Option MV} (hl : env.kindOf (Str.ofString x) = some .cell) (F : FrR X.base env fr ad s.heap) (H : HR X.w X.base σ ad s.heap) (hj : getL' x fr.cel = some c) (hc : σ.obj c = some (.cell o)) (hv : VR ad v v') (k : ContL X env fr (σ.put c (.cell (some v))) ad s Q) :
    wpAny (model PR X.w) A (storeName env (Str.ofString x) v') Q E s := by
  obtain ⟨q, h1, h2⟩ := F.cel x c hj
  obtain ⟨p, hp, o, r, h3, h4, h5⟩ := H.obj c _ hc
  rw [h1] at hp
  cases hp
  refine wpAny_storeName_cell F.kind hl h2 ⟨o, h3, h4⟩ fun h' hc' hs => ?_
  obtain ⟨o', h3', h4'⟩ := hc'
  obtain ⟨H', st⟩ := H.put1 h1 hs ⟨_, h3'⟩ (o := .cell (some v)) ⟨o', some v', h3', h4', hv⟩
  exact k ad h' s.toks st.toL (F.step st) H'
end
theorem sm_var : AsM X n (.var x) v fr σ ⟨setL x v fr.loc, fr.cel, fr.law⟩ σ := ⟨fun {cl ns j e env ad A s E Q v'} hc a hv k =>
  vName_el hc fun y p g => nm_el (and2 g).1 (PyProof.Rows.assign_Name (st_local (a.kindOf (and2 g).2) a.F a.H hv k))⟩
theorem sm_cel {o : Option MV} (h : getL' x fr.cel = some c) (g : σ.obj c = some (.cell o)) : AsM X n (.cel x) v fr σ fr (σ.put c (.cell (some v))) := ⟨fun {cl ns j e env ad A s E Q v'} hc a hv k =>
  vName_el hc fun y p g1 => nm_el (and2 g1).1 (PyProof.Rows.assign_Name (st_cell (a.kindOf (and2 g1).2) a.F a.H h g hv k))⟩
theorem sm_attr (D : EvM X n fr m σ u σ1) (G : SetM X.w X.base σ1 u x v σ2) : AsM X n (.attr m x) v fr σ fr σ2 := ⟨fun {cl ns j e env ad A s E Q v'} hc a hv k => by
  refine vAttr_el hc fun b y p g => nm_el (and2 g).1 ?_
  show wpAny _ _ (do
    let ov ← holding [v'] (eval b env)
    standAt p.atName
    holding [v', ov] (setAttr ov (Str.ofString x) v')
    release [v', ov] []) _ _ _
  refine wpAny_bind (wpAny_holding (D.go (and2 g).2 a fun ad1 h1 tk1 z1 st1 H1 hz1 => wpAny_bind (wpAny_standAt (wpAny_bind (wpAny_holding ?_)))))
  exact G.go (s := { s with heap := h1, toks := tk1 }) H1 hz1 (hv.mono st1.ext) fun h' tk st2 H2 => wpAny_release (k ad1 h' tk (st1.trans H1 st2).toL (a.F.step (st1.trans H1 st2)) H2)⟩
theorem sm_sub (D : EvM X n fr m σ u σ1) (D2 : EvM X n fr l σ1 t σ2) (G : PutM X.w X.base σ2 u t v σ3) : AsM X n (.sub m l) v fr σ fr σ3 := ⟨fun {cl ns j e env ad A s E Q v'} hc a hv k => by
  refine vSub_el hc fun b i p g => ?_
  obtain ⟨rl, hrl⟩ := assign_sub_eq b i p env v'
  rw [hrl]
  refine wpAny_bind (wpAny_holding (D.go (and3 g).2.1 a fun ad1 h1 tk1 z1 st1 H1 hz1 => wpAny_bind (wpAny_holding (D2.go (and3 g).2.2 (a.step st1 H1) fun ad2 h2 tk2 z2 st2 H2 hz2 => wpAny_bind (wpAny_standAt (wpAny_bind (wpAny_holding ?_)))))))
  refine G.go (s := { s with heap := h2, toks := tk2 }) H2 (hz1.mono st2.ext) hz2 ((hv.mono st1.ext).mono st2.ext) fun h' tk st3 H3 => wpAny_release ?_
  have st := (st1.trans H1 st2).trans H2 st3
  exact k ad2 h' tk st.toL (a.F.step st) H3⟩
theorem notSwap {e : Expr} (h : notComp e = true) (t : Option Expr) (l : Nat) (env : Env) : swapsWith e t l env = pure false := by
  cases e <;> first | rfl | exact fnt h
theorem tg_plain {cl ns j e mt} (h : chkT cl ns j e mt = true) (rest : List Expr) (env : Env) : assignEach (e :: rest) env = (false, assign e env) :: assignEach rest env := by
  cases mt with
  | var x => exact vName_el (P := fun e => assignEach (e :: rest) env = (false, assign e env) :: assignEach rest env) h fun _ _ _ => rfl
  | cel x => exact vName_el (P := fun e => assignEach (e :: rest) env = (false, assign e env) :: assignEach rest env) h fun _ _ _ => rfl
  | attr _ _ => exact vAttr_el (P := fun e => assignEach (e :: rest) env = (false, assign e env) :: assignEach rest env) h fun _ _ _ _ => rfl
  | sub _ _ => exact vSub_el (P := fun e => assignEach (e :: rest) env = (false, assign e env) :: assignEach rest env) h fun _ _ _ _ => rfl
theorem tg_sole {cl ns j e mt} (h : chkT cl ns j e mt = true) (value : Expr) (env : Env) : swappedStores [e] value env = pure none := by
  cases mt with
  | var x => exact vName_el (P := fun e => swappedStores [e] value env = pure none) h fun _ _ _ => rfl
  | cel x => exact vName_el (P := fun e => swappedStores [e] value env = pure none) h fun _ _ _ => rfl
  | attr _ _ => exact vAttr_el (P := fun e => swappedStores [e] value env = pure none) h fun _ _ _ _ => rfl
  | sub _ _ => exact vSub_el (P := fun e => swappedStores [e] value env = pure none) h fun _ _ _ _ => rfl
theorem xm_expr (D : EvM X n fr m σ v σ1) : ExM X n (.expr m) fr σ .next fr σ1 := ⟨fun {cl ns j st env ad A s E Q} hc a k => by
  cases j; exact fnt hc
  exact sExpr_el hc fun e p g => wpAny_Expr_any (D.go (and2 g).2 a fun ad1 h1 tk1 z1 st1 H1 hz1 => k ad1 h1 tk1 .next st1.toL (a.F.step st1) H1 .next) (by unfold interactive; rw [a.F.kind]; rfl) (notSwap (and2 g).1 _ _ _)⟩
noncomputable def notCompM : ME → Bool
  | .comp .. => false
  | _ => true
theorem xm_asg (hn : notCompM m = true) (D : EvM X n fr m σ v σ1) (T : AsM X n mt v fr σ1 fr2 σ2) : ExM X n (.asg mt m) fr σ .next fr2 σ2 := ⟨fun {cl ns j st env ad A s E Q} hc a k => by
  cases j; exact fnt hc
  refine sAsg_el hc fun ts e p g => v1_el g fun t' g => (or2 g).elim (fun g => ?_) fun g => ?_
  · refine wpAny_Assign_stores (D.go (and3 g).2.2 a fun ad1 h1 tk1 z1 st1 H1 hz1 => ?_) (notSwap (and3 g).1 _ _ _) (tg_sole (and3 g).2.1 _ _)
    rw [tg_plain (and3 g).2.1]
    exact T.go (and3 g).2.1 (a.step st1 H1) hz1 fun ad2 h2 tk2 st2 F2 H2 => k ad2 h2 tk2 .next (a.after st1 H1 st2) F2 H2 .next
  · cases mt with
    | var x => cases m <;> first | exact fnt g | exact fnt hn
    | _ => exact fnt g⟩
theorem xm_ret (D : EvM X n fr m σ v σ1) : ExM X n (.ret m) fr σ (.ret v) fr σ1 := ⟨fun {cl ns j st env ad A s E Q} hc a k => by
  cases j; exact fnt hc
  exact sRet_el hc fun o p g => vSome_el g fun e' g => wpAny_Return_some (D.go g a fun ad1 h1 tk1 z1 st1 H1 hz1 => k ad1 h1 tk1 _ st1.toL (a.F.step st1) H1 (.ret hz1))⟩
theorem xm_retN : ExM X n .retN fr σ (.ret .none) fr σ := ⟨fun {cl ns j st env ad A s E Q} hc a k => by
  cases j; exact fnt hc
  exact sRet_el hc fun o p g => none_el g (wpAny_Return_none (k ad s.heap s.toks _ (Step.refl _ _).toL a.F a.H (.ret .none)))⟩
theorem xm_ite (T : TeM X n fr m σ p σ1) (D : ExsM X n (if p then sts else sts2) fr σ1 fl fr2 σ2) : ExM X n (.ite m sts sts2) fr σ fl fr2 σ2 := ⟨fun {cl ns j st env ad A s E Q} hc a k => by
  cases j; exact fnt hc
  refine sIf_el hc fun t' a' b' _ g => wpAny_If (T.go (and3 g).1 a fun ad1 h1 tk1 st1 H1 => ?_)
  cases p with
  | true => exact D.go (and3 g).2.1 (a.step st1 H1) fun ad2 h2 tk2 f st2 F2 H2 hf => k ad2 h2 tk2 f (a.after st1 H1 st2) F2 H2 hf
  | false => exact D.go (and3 g).2.2 (a.step st1 H1) fun ad2 h2 tk2 f st2 F2 H2 hf => k ad2 h2 tk2 f (a.after st1 H1 st2) F2 H2 hf⟩
theorem xms_nil : ExsM X n [] fr σ .next fr σ := ⟨fun {cl ns j ss env ad A s E Q} hc a k => by
  cases ss with
  | nil => exact wpAny_execs_nil (k ad s.heap s.toks _ (Step.refl _ _).toL a.F a.H .next)
  | cons _ _ => exact fnt hc⟩
theorem xms_cons (D : ExM X n st fr σ .next fr1 σ1) (D2 : ExsM X n sts fr1 σ1 fl fr2 σ2) : ExsM X n (st :: sts) fr σ fl fr2 σ2 := ⟨fun {cl ns j ss env ad A s E Q} hc a k => by
  cases ss with
  | nil => exact fnt hc
  | cons s1 ss =>
    refine wpAny_execs_cons (D.go (and2 hc).1 a fun ad1 h1 tk1 f st1 F1 H1 hf => ?_)
    cases hf
    exact D2.go (and2 hc).2 (a.on F1 H1) fun ad2 h2 tk2 f st2 F2 H2 hf => k ad2 h2 tk2 f (a.then F1 st1 H1 st2) F2 H2 hf⟩
theorem xms_stop (D : ExM X n st fr σ (.ret v) fr1 σ1) : ExsM X n (st :: sts) fr σ (.ret v) fr1 σ1 := ⟨fun {cl ns j ss env ad A s E Q} hc a k => by
  cases ss with
  | nil => exact fnt hc
  | cons s1 ss =>
    refine wpAny_execs_cons (D.go (and2 hc).1 a fun ad1 h1 tk1 f st1 F1 H1 hf => ?_)
    have := k ad1 h1 tk1 f st1 F1 H1 hf
    cases hf
    exact this⟩
theorem xms_one (D : ExM X n st fr σ fl fr1 σ1) : ExsM X n [st] fr σ fl fr1 σ1 := by
  cases fl with
  | next => exact xms_cons D xms_nil
  | ret v => exact xms_stop D
theorem execs_app (a b : List Stmt) (env : Env) : execs (a ++ b) env = execs a env >>= fun f => match f with | .next => execs b env | f => pure f := by
  induction a with
  | nil => exact (pure_bind _ _).symm
  | cons st a ih =>
    rw [List.cons_append, execs_cons, execs_cons, bind_assoc]
    congr 1
    funext f
    cases f <;> first | exact ih | exact (pure_bind _ _).symm
theorem xms_app {sts2 : List MSt} (D : ExsM X n sts fr σ .next fr1 σ1) (D2 : ExsM X n sts2 fr1 σ1 fl fr2 σ2) : ExsM X n (sts ++ sts2) fr σ fl fr2 σ2 := ⟨fun {cl ns j ss env ad A s E Q} hc a k => by
  have hs : ∀ {sts : List MSt} {ss : List Stmt}, chkL (chkS cl ns j) ss (sts ++ sts2) = true → ∃ s1 s2, ss = s1 ++ s2 ∧ chkL (chkS cl ns j) s1 sts = true ∧ chkL (chkS cl ns j) s2 sts2 = true := by
    intro sts
    induction sts with
    | nil => exact fun h => ⟨[], _, rfl, rfl, h⟩
    | cons m sts ih =>
      intro ss h
      cases ss with
      | nil => exact fnt h
      | cons s1 ss =>
        obtain ⟨a, b, rfl, h1, h2⟩ := ih (and2 h).2
        exact ⟨s1 :: a, b, rfl, by rw [chkL, vCons, (and2 h).1, h1]; rfl, h2⟩
  obtain ⟨s1, s2, rfl, h1, h2⟩ := hs hc
  rw [execs_app]
  refine wpAny_bind (D.go h1 a fun ad1 h1' tk1 f st1 F1 H1 hf => ?_)
  cases hf
  exact D2.go h2 (a.on F1 H1) fun ad2 h2 tk2 f st2 F2 H2 hf => k ad2 h2 tk2 f (a.then F1 st1 H1 st2) F2 H2 hf⟩
theorem ass_len (T : AssM X n mts vs fr σ fr2 σ2) : vs.length = mts.length := by
  induction T with
  | nil => rfl
  | cons _ _ ih => exact congrArg Nat.succ ih
theorem ass_each {cl ns j} {ts : List Expr} {mts : List MT} (h : chkL (chkT cl ns j) ts mts = true) (env : Env) : assignEach ts env = ts.map (fun t => (false, assign t env)) ∧ ts.length = mts.length :=
  chkL_ok (R := fun t mt => chkT cl ns j t mt = true) (S := fun ts mts => assignEach ts env = ts.map (fun t => (false, assign t env)) ∧ ts.length = mts.length) (fun _ _ h => h) ⟨rfl, rfl⟩ (fun t mt ts mts a b => ⟨by rw [tg_plain a, b.1]; rfl, congrArg Nat.succ b.2⟩) h
theorem ass_go {mts : List MT} (T : AssM X n mts vs fr σ fr2 σ2) : ∀ {cl ns j env ad A s E ts} {us : List Value} {Q : Unit → Shared → Prop}, chkL (chkT cl ns j) ts mts = true → At X n fr σ cl ns env ad A s → All2 (VR ad) vs us → ContL X env fr2 σ2 ad s Q → wpAny (model PR X.w) A (assignInOrder (ts.map fun t => assign t env) us) Q E s := by
  induction T with
  | nil =>
    intro cl ns j env ad A s E ts us Q hc a hv k
    cases hv
    cases ts with
    | nil => exact wpAny_pure (k ad s.heap s.toks (Step.refl _ _).toL a.F a.H)
    | cons _ _ => exact fnt hc
  | cons D T ih =>
    intro cl ns j env ad A s E ts us Q hc a hv k
    cases ts with
    | nil => exact fnt hc
    | cons e ts =>
      cases hv with
      | @cons _ z _ zs hz hzs =>
        show wpAny _ _ (do holding zs (assign e env z); assignInOrder (ts.map fun t => assign t env) zs) _ _ _
        refine wpAny_bind (wpAny_holding (D.go (and2 hc).1 a hz fun ad1 h1 tk1 st1 F1 H1 => ?_))
        exact ih (and2 hc).2 (a.on F1 H1) (hzs.mono fun _ _ r => r.mono st1.ext) fun ad2 h2 tk2 st2 F2 H2 => k ad2 h2 tk2 (a.then F1 st1 H1 st2) F2 H2
theorem xm_asgT {mts : List MT} (D : EvM X n fr m σ (.loc c) σ1) (g : σ1.obj c = some (.tup vs)) (T : AssM X n mts vs fr σ1 fr2 σ2) : ExM X n (.asgT mts m) fr σ .next fr2 σ2 := ⟨fun {cl ns j st env ad A s E Q} hc a k => by
  cases j; exact fnt hc
  refine sAsg_el hc fun us e p g1 => v1_el g1 fun u g1 => vTup_el g1 fun ts tk tp g1 => ?_
  obtain ⟨h1, h2, h3, h4, h5⟩ := and5 g1
  have hw : swappedStores [.Tuple ts tk tp] e env = pure none := by rw [← Option.isNone_iff_eq_none.mp h3]; exact swp_ok h2 env a.hs a.F.kind
  refine Assign_Tuple (D.go h5 a fun ad1 h1' tk1 z1 st1 H1 hz1 => ?_) (notSwap h1 (some (.Tuple ts tk tp)) p.line env : swapsWithSole [.Tuple ts tk tp] e p.line env = pure false) hw
  obtain ⟨q, hq, rfl, rs, ep, hob, hrs⟩ := HR.at (s := { s with heap := h1', toks := tk1 }) H1 g hz1
  have hl := ass_len T
  obtain ⟨he, hl2⟩ := ass_each h4 env
  have hl3 := hrs.length
  refine assign_Tuple_tuple a.R.hand ⟨_, hob, rfl, _, rfl⟩ (by rw [he, List.length_map, List.size_toArray]; lia) (by rw [he]; clear hl2 T h4 he hc g1 h2 h3 hw; induction ts with
    | nil => rfl
    | cons a l ih => rw [List.map_cons, List.findIdx?_cons]; simp [ih]) fun h2 hx => ?_
  have hk : ∀ b o, h1'.get? b = some o → h2.get? b = some o := fun b o e => hx b o (Nat.ne_of_lt (Heap.lt_size e)) e
  have st2 : Step ad1 h1' ad1 h2 := .keeps hk
  have F1 := a.F.step st1
  rw [he, List.map_map]
  exact ass_go T h4 (a.on (F1.step st2) (H1.keep hk)) hrs fun ad3 h3 tk3 st3 F3 H3 => k ad3 h3 tk3 .next (.after a.F st1 H1 (.after F1 st2 (H1.keep hk) st3)) F3 H3 .next⟩
noncomputable def bindAll : List String → List MV → List (String × MV) → List (String × MV)
  | x :: xs, v :: vs, l => bindAll xs vs (setL x v l)
  | _, _, l => l
theorem names_go {env : Env} : ∀ {xs : List String} {vs : List MV} {us : List Value} {fr : MF} {ad A s E} {Q : Unit → Shared → Prop}, (∀ x ∈ xs, env.kindOf (Str.ofString x) = some .local) → vs.length = xs.length → FrR X.base env fr ad s.heap → HR X.w X.base σ ad s.heap → All2 (VR ad) vs us → ContL X env ⟨bindAll xs vs fr.loc, fr.cel, fr.law⟩ σ ad s Q →
    wpAny (model PR X.w) A (assignInOrder (xs.map fun x => bindName env (Str.ofString x)) us) Q E s
  | [], [], _, fr, ad, A, s, E, Q, _, _, F, H, .nil, k => wpAny_pure (k ad s.heap s.toks (Step.refl _ _).toL F H)
  | x :: xs, v :: vs, _, fr, ad, A, s, E, Q, hl, hn, F, H, .cons (b := z) (bs := zs) hz hzs, k => by
    show wpAny _ _ (do holding zs (bindName env (Str.ofString x) z); assignInOrder (xs.map fun x => bindName env (Str.ofString x)) zs) _ _ _
    refine wpAny_bind (wpAny_holding (wpAny_bindName (st_local (hl x (.head _)) F H hz fun ad1 h1 tk1 st1 F1 H1 => ?_)))
    exact names_go (fun y hy => hl y (List.mem_cons_of_mem _ hy)) (Nat.succ.inj hn) F1 H1 (hzs.mono fun _ _ r => r.mono st1.ext) fun ad2 h2 tk2 st2 F2 H2 => k ad2 h2 tk2 (.then F F1 st1 H1 st2) F2 H2
  | [], _ :: _, _, _, _, _, _, _, _, _, hn, _, _, _, _ => by simp at hn
  | _ :: _, [], _, _, _, _, _, _, _, _, hn, _, _, _, _ => by simp at hn
theorem xm_asgSw {xs : List String} (D : EvM X n fr m σ (.loc c) σ1) (g : σ1.obj c = some (.tup vs)) (hlen : vs.length = xs.length) : ExM X n (.asgSw xs m) fr σ .next ⟨bindAll xs.reverse vs.reverse fr.loc, fr.cel, fr.law⟩ σ1 := ⟨fun {cl ns j st env ad A s E Q} hc a k => by
  cases j; exact fnt hc
  refine sAsg_el hc fun us e p g1 => v1_el g1 fun u g1 => vTup_el g1 fun ts tk tp g1 => ?_
  obtain ⟨h1, h2, h3, h4, h5⟩ := and5 g1
  have hw : swappedStores [.Tuple ts tk tp] e env = pure (some (xs.map Str.ofString)) := by rw [← eq_of_beq h3]; exact swp_ok h2 env a.hs a.F.kind
  refine Assign_Tuple_swapped (D.go h5 a fun ad1 h1' tk1 z1 st1 H1 hz1 => ?_) (notSwap h1 (some (.Tuple ts tk tp)) p.line env : swapsWithSole [.Tuple ts tk tp] e p.line env = pure false) hw
  obtain ⟨q, hq, rfl, rs, ep, hob, hrs⟩ := HR.at (s := { s with heap := h1', toks := tk1 }) H1 g hz1
  have hl3 := hrs.length
  rw [show (xs.map Str.ofString).length = rs.toArray.size by rw [List.length_map, List.size_toArray]; lia]
  refine unpackItems_tuple a.R.hand ⟨_, hob, rfl, _, rfl⟩ fun h2 hx => ?_
  have hk : ∀ b o, h1'.get? b = some o → h2.get? b = some o := fun b o e => hx b o (Nat.ne_of_lt (Heap.lt_size e)) e
  have st2 : Step ad1 h1' ad1 h2 := .keeps hk
  have F1 := a.F.step st1
  rw [show ((xs.map Str.ofString).reverse.map fun n => bindName env n) = (xs.reverse.map fun x => bindName env (Str.ofString x)) by rw [← List.map_reverse, List.map_map]; rfl]
  exact names_go (fun x hx => a.kindOf (List.all_eq_true.mp h4 x (List.mem_reverse.mp hx))) (by rw [List.length_reverse, List.length_reverse, hlen]) (F1.step st2) (H1.keep hk) hrs.rev fun ad3 h3 tk3 st3 F3 H3 => k ad3 h3 tk3 .next (.after a.F st1 H1 (.after F1 st2 (H1.keep hk) st3)) F3 H3 .next⟩
theorem xm_augV {b : BOp} (h : getL' x fr.loc = some u) (D : EvM X n fr m σ v σ1) (G : AugM X.w b u v t) : ExM X n (.aug (.var x) b m) fr σ .next ⟨setL x t fr.loc, fr.cel, fr.law⟩ σ1 := ⟨fun {cl ns j st env ad A s E Q} hc a k => by
  cases j; exact fnt hc
  obtain ⟨mp, hn, hmp⟩ := a.F.loc
  obtain ⟨u', h1, h2⟩ := hmp x _ h
  exact sAug_el hc fun t' o e p g => vName_el (and3 g).2.2 fun y xp g2 => nm_el (and2 g2).1 (wpAny_AugAssign_Name (wpAny_loadName_local a.F.kind (a.kindOf (and2 g2).2) hn h1 (D.go (and3 g).2.1 a fun ad1 h1 tk1 z1 st1 H1 hz1 =>
    G.go (s := { s with heap := h1, toks := tk1 }) (bopB_eq (and3 g).1) (h2.mono st1.ext) hz1 fun tk z hz => st_local (s := { s with heap := h1, toks := tk }) (a.kindOf (and2 g2).2) (a.F.step st1) H1 hz fun ad2 h2 tk2 st2 F2 H2 => k ad2 h2 tk2 .next (a.after st1 H1 st2) F2 H2 .next)))⟩
theorem xm_augA {b : BOp} (D : EvM X n fr l σ r σ1) (G1 : AttM X.w X.base σ1 r x u) (D2 : EvM X n fr m σ1 v σ2) (G : AugM X.w b u v t) (G2 : SetM X.w X.base σ2 r x t σ3) : ExM X n (.aug (.attr l x) b m) fr σ .next fr σ3 := ⟨fun {cl ns j st env ad A s E Q} hc a k => by
  cases j; exact fnt hc
  refine sAug_el hc fun t' o e p g => vAttr_el (and3 g).2.2 fun b' y xp g2 => nm_el (and2 g2).1 (wpAny_AugAssign_AttributeAny (D.go (and2 g2).2 a fun ad1 h1 tk1 z1 st1 H1 hz1 => G1.go (s := { s with heap := h1, toks := tk1 }) H1 hz1 fun tk u hu => D2.go (and3 g).2.1 (a.step (tk := tk) st1 H1) fun ad2 h2 tk2 z2 st2 H2 hz2 =>
    G.go (s := { s with heap := h2, toks := tk2 }) (bopB_eq (and3 g).1) (hu.mono st2.ext) hz2 fun tk3 z hz => G2.go (s := { s with heap := h2, toks := tk3 }) H2 (hz1.mono st2.ext) hz fun h' tk4 st3 H3 => ?_))
  have st := (st1.trans H1 st2).trans H2 st3
  exact k ad2 h' tk4 .next st.toL (a.F.step st) H3 .next⟩
theorem xm_augS {b : BOp} {σ4 : MS} {i : MV} (D : EvM X n fr l σ r σ1) (D1 : EvM X n fr d σ1 i σ2) (G1 : SubM X.w X.base σ2 r i u) (D2 : EvM X n fr m σ2 v σ3) (G : AugM X.w b u v t) (G2 : PutM X.w X.base σ3 r i t σ4) : ExM X n (.aug (.sub l d) b m) fr σ .next fr σ4 := ⟨fun {cl ns j st env ad A s E Q} hc a k => by
  cases j; exact fnt hc
  refine sAug_el hc fun t' o e p g => vSub_el (and3 g).2.2 fun b' k' xp g2 => wpAny_AugAssign_SubscriptAny (D.go (and3 g2).2.1 a fun ad1 h1 tk1 z1 st1 H1 hz1 => D1.go (and3 g2).2.2 (a.step st1 H1) fun ad2 h2 tk2 z2 st2 H2 hz2 => (G1.go (s := { s with heap := h2, toks := tk2 }) H2 (hz1.mono st2.ext) hz2 fun tk u hu =>
    D2.go (and3 g).2.1 ((a.step (tk := tk) st1 H1).step (tk := tk) st2 H2) fun ad3 h3 tk3 z3 st3 H3 hz3 => G.go (s := { s with heap := h3, toks := tk3 }) (bopB_eq (and3 g).1) (hu.mono st3.ext) hz3 fun tk4 z hz => G2.go (s := { s with heap := h3, toks := tk4 }) H3 ((hz1.mono st2.ext).mono st3.ext) (hz2.mono st3.ext) hz fun h' tk5 st4 H4 => ?_).1) (by cases k' <;> first | (intros; rfl) | exact fnt (and3 g2).1)
  have st := ((st1.trans H1 st2).trans H2 st3).trans H3 st4
  exact k ad3 h' tk5 .next st.toL (a.F.step st) H4 .next⟩
theorem def_go {k l c : Nat} {fv : List String} {ps : List (Nat × Nat)} {cs : List (String × Nat)} (h0 : σ.obj 0 = some (.codes ps)) (hm : ps.contains (l, c) = false) (hw : fr.law = true) (hcs : mCels fr fv = some cs) {cl ns j st env ad A s E} {Q : Flow → Shared → Prop} (hc : chkS cl ns (j + 1) st (.defn mt k l c fv) = true) (a : At X n fr σ cl ns env ad A s)
    (K : ∀ x, (match mt with | .var y => x = y ∧ isK ns (Str.ofString y) .local = true | .cel y => x = y ∧ isK ns (Str.ofString y) .cell = true | _ => False) → ∀ ad1 h1 tk1 z, Step ad s.heap ad1 h1 → HR X.w X.base ((σ.put 0 (.codes ((l, c) :: ps))).new (.fn k cs)) ad1 h1 → VR ad1 (.loc σ.next) z → wpAny (model PR X.w) A (storeName env (Str.ofString x) z) (fun _ s' => Q .next s') E { s with heap := h1, toks := tk1 }) : wpAny (model PR X.w) A (exec st env) Q E s := by
  refine sDef_el hc fun y params body ds rt tps scope ts q pos g0 => ?_
  obtain ⟨h1, h2, h3, h4, h5, h6, g1⟩ := and7 g0
  obtain ⟨h7, h8, h9, g2⟩ := and4 g1
  have hcl := a.g _ _ _ _ h8
  obtain ⟨_, _, _, _, _, _, ha⟩ := clF_ok hcl
  refine nil_el h1 (none_el h2 (nil_el h3 (none_el h4 ?_)))
  have e1 : pos.line = l := eq_of_beq h6
  have e2 : pos.col = c := eq_of_beq h7
  subst e1 e2
  obtain ⟨d1, d2⟩ := cl_defaults hcl
  have mk : ∀ x, (match mt with | .var y => x = y ∧ isK ns (Str.ofString y) .local = true | .cel y => x = y ∧ isK ns (Str.ofString y) .cell = true | _ => False) → wpAny (model PR X.w) A (exec (.FunctionDef (Str.ofString x) params body [] none [] scope none (Str.ofString x) pos) env) Q E s := fun x hx =>
    nestDef_K d1 d2 (ha env) (make_lam a h0 hm hw hcs hcl (freeB_eq h9) fun ad1 h1 tk1 z1 st1 H1 hz1 => K x hx ad1 h1 tk1 z1 st1 H1 hz1)
  cases mt with
  | var x => exact nm_el (and3 g2).1 (nm_el (and3 g2).2.1 (mk x ⟨rfl, (and3 g2).2.2⟩))
  | cel x => exact nm_el (and3 g2).1 (nm_el (and3 g2).2.1 (mk x ⟨rfl, (and3 g2).2.2⟩))
  | _ => exact fnt g2
theorem xm_defV {k l c : Nat} {fv : List String} {ps : List (Nat × Nat)} {cs : List (String × Nat)} (h0 : σ.obj 0 = some (.codes ps)) (hm : ps.contains (l, c) = false) (hw : fr.law = true) (hcs : mCels fr fv = some cs) : ExM X n (.defn (.var x) k l c fv) fr σ .next ⟨setL x (.loc σ.next) fr.loc, fr.cel, fr.law⟩ ((σ.put 0 (.codes ((l, c) :: ps))).new (.fn k cs)) := ⟨fun {cl ns j st env ad A s E Q} hc a K => by
  cases j; exact fnt hc
  refine def_go h0 hm hw hcs hc a fun x hx ad1 h1 tk1 z st1 H1 hz => ?_
  obtain ⟨rfl, hx⟩ := hx
  exact st_local (s := { s with heap := h1, toks := tk1 }) (a.kindOf hx) (a.F.step st1) H1 hz fun ad2 h2 tk2 st2 F2 H2 => K ad2 h2 tk2 .next (a.after st1 H1 st2) F2 H2 .next⟩
theorem xm_defC {k l c d : Nat} {fv : List String} {ps : List (Nat × Nat)} {cs : List (String × Nat)} {o : Option MV} (h0 : σ.obj 0 = some (.codes ps)) (hm : ps.contains (l, c) = false) (hw : fr.law = true) (hcs : mCels fr fv = some cs) (hd : getL' x fr.cel = some d) (g : ((σ.put 0 (.codes ((l, c) :: ps))).new (.fn k cs)).obj d = some (.cell o)) :
    ExM X n (.defn (.cel x) k l c fv) fr σ .next fr (((σ.put 0 (.codes ((l, c) :: ps))).new (.fn k cs)).put d (.cell (some (.loc σ.next)))) := ⟨fun {cl ns j st env ad A s E Q} hc a K => by
  cases j; exact fnt hc
  refine def_go h0 hm hw hcs hc a fun x hx ad1 h1 tk1 z st1 H1 hz => ?_
  obtain ⟨rfl, hx⟩ := hx
  exact st_cell (s := { s with heap := h1, toks := tk1 }) (a.kindOf hx) (a.F.step st1) H1 hd g hz fun ad2 h2 tk2 st2 F2 H2 => K ad2 h2 tk2 .next (a.after st1 H1 st2) F2 H2 .next⟩
end
end Mine
end
section
open PySem PySem.W PySem.Calls PyProof.Rows
set_option maxRecDepth 100000
namespace Mine
theorem range_none (P : Params) : nsIn (KF P) mainGlobals "range" = some none := isNN_eq (by kernel_rfl)
theorem range_boot : bootBuiltins "range" = some (.type "range") := by first | rfl | decide +kernel | boot_by_name
theorem range_ne : ("range" : Str) ≠ "__name__" := by decide
section
variable {w : World} {base : Heap}
theorem iter_kept {L : Addr} {ad ad' : AD} {h h' : Heap} (st : StepL L ad h ad' h') {I : Addr} (hL : I ≠ L) (hno : ∀ (n : Nat) (p : Addr × Addr), ad[n]? = some p → ¬ Own p I) : ∀ o, h.get? I = some o → h'.get? I = some o := fun o e => st.keep I o hL e hno
theorem not_ours {base : Heap} {L : Addr} {ad ad' : AD} {h h' : Heap} (st : StepL L ad h ad' h') {I : Addr} (hI : ∃ o, h.get? I = some o) (hno : ∀ (n : Nat) (p : Addr × Addr), ad[n]? = some p → ¬ Own p I) : ∀ (n : Nat) (p : Addr × Addr), ad'[n]? = some p → ¬ Own p I := fun n p e ho => by
  by_cases l : n < ad.length
  · have e1 : ad[n]? = some ad[n] := List.getElem?_eq_getElem l
    have e2 := st.ext _ _ e1
    rw [e] at e2
    cases e2
    exact hno n _ e1 ho
  · obtain ⟨o, e3⟩ := hI
    rw [st.fresh n p I e (Nat.not_lt.mp l) ho] at e3; cases e3
theorem turn_iter {env : Env} {fr : MF} {σ : MS} {ad : AD} {h h' : Heap} {I : Addr} (F : FrR base env fr ad h) (H : HR w base σ ad h) (hk : ∀ b o, b ≠ I → h.get? b = some o → h'.get? b = some o) (hL : I ≠ env.locals) (hb : base.get? I = none)
    (hno : ∀ (n : Nat) (p : Addr × Addr), ad[n]? = some p → ¬ Own p I) : FrR base env fr ad h' ∧ HR w base σ ad h' := by
  refine ⟨⟨F.kind, F.glob, F.bi, ?_, F.cel, F.own, F.off, F.code⟩, ⟨H.len, fun n o e => ?_, H.apart, fun n p b e ho => ?_, H.three, fun b o e => hk b o (fun z => by rw [z, hb] at e; cases e) (H.stays b o e)⟩⟩
  · obtain ⟨m, hn, hl⟩ := F.loc
    exact ⟨m, hn.at' fun o e => hk _ _ (fun z => hL z.symm) e, hl⟩
  · obtain ⟨p, hp, r⟩ := H.obj n o e
    exact ⟨p, hp, r.keep (.refl _) fun c ob oc e => hk c ob (fun z => hno n p hp (z ▸ oc)) e⟩
  · obtain ⟨a, o, d⟩ := H.off n p b e ho
    exact ⟨a, o, hk b o (fun z => hno n p e (z ▸ ho)) d⟩
theorem Step.back {σ σ' : MS} {ad ad1 : AD} {h h1 : Heap} (H0 : HR w base σ' ad h) (st : Step ad h ad1 h1) (H1 : HR w base σ ad1 h1) {b : Addr} (hb : h1.get? b = none) : h.get? b = none := by
  cases e : h.get? b with
  | none => rfl
  | some o =>
    by_cases q : ∃ (m : Nat) (p' : Addr × Addr), ad[m]? = some p' ∧ Own p' b
    · obtain ⟨m, p', hm, ho'⟩ := q
      obtain ⟨_, o', ho''⟩ := H1.off m p' b (st.ext _ _ hm) ho'
      rw [hb] at ho''; cases ho''
    · have := st.keep b o e fun m p' hm ho' => q ⟨m, p', hm, ho'⟩
      rw [hb] at this; cases this
theorem StepL.turn {L : Addr} {ad ad2 : AD} {h h3 h4 : Heap} {I : Addr} (st : StepL L ad h ad2 h3) (hI : h.get? I = none) (hk : ∀ b o, b ≠ I → h3.get? b = some o → h4.get? b = some o) : StepL L ad h ad2 h4 :=
  ⟨st.ext, fun b o nb e hn => hk b o (fun z => by rw [z, hI] at e; cases e) (st.keep b o nb e hn), st.fresh⟩
theorem swap_yes {env : Env} {elt : Expr} {gens : List Comprehension} {scope : Scope} {x : Str} {xp p : Pos} {l : Nat} (hk : env.scope.kind = .function) (hx : env.kindOf x = some .local) (hline : (xp.line == p.line) = true)
    (hany : (scope.names.any fun (n, k) => n == x && (k == .local || k == .cell)) = false) : swapsWith (.ListComp elt gens scope p) (some (.Name x xp)) l env = pure true := by
  unfold swapsWith
  show (pure (env.blockKind == .function && env.kindOf x == some .local && xp.line == p.line && !(scope.names.any fun (n, k) => n == x && (k == .local || k == .cell))) : Sem Bool) = pure true
  have hb : env.blockKind = .function := by unfold Env.blockKind; rw [hk]; rfl
  rw [hb, hx, hline, hany]; rfl
end
inductive WhM (X : Wb) (n : Nat) (t : ME) (b : List MSt) : Nat → MF → MS → MFl → MF → MS → Prop
  | stop {k fr σ σ1} : TeM X n fr t σ false σ1 → WhM X n t b (k + 1) fr σ .next fr σ1
  | more {k fr σ σ1 fr1 σ2 fl fr' σ'} : TeM X n fr t σ true σ1 → ExsM X n b fr σ1 .next fr1 σ2 → WhM X n t b k fr1 σ2 fl fr' σ' → WhM X n t b (k + 1) fr σ fl fr' σ'
inductive FoM (X : Wb) (n : Nat) (x : String) (b : List MSt) (G : MS → Prop) : List MV → MF → MS → MFl → MF → MS → Prop
  | nil {fr σ} : G σ → FoM X n x b G [] fr σ .next fr σ
  | cons {v r fr σ fr1 σ1 fl fr' σ'} : G σ → ExsM X n b ⟨setL x v fr.loc, fr.cel, fr.law⟩ σ .next fr1 σ1 → FoM X n x b G r fr1 σ1 fl fr' σ' → FoM X n x b G (v :: r) fr σ fl fr' σ'
  | ret {v r fr σ fr1 σ1 u} : G σ → ExsM X n b ⟨setL x v fr.loc, fr.cel, fr.law⟩ σ (.ret u) fr1 σ1 → FoM X n x b G (v :: r) fr σ (.ret u) fr1 σ1
theorem FoM.inv {X : Wb} {n : Nat} {x : String} {b : List MSt} {G : MS → Prop} {v : MV} {r : List MV} {fr fr' : MF} {σ σ' : MS} {fl : MFl} (W : FoM X n x b G (v :: r) fr σ fl fr' σ') :
    ∃ fl1 fr1 σ1, G σ ∧ ExsM X n b ⟨setL x v fr.loc, fr.cel, fr.law⟩ σ fl1 fr1 σ1 ∧ ((fl1 = .next ∧ FoM X n x b G r fr1 σ1 fl fr' σ') ∨ ((∃ u, fl1 = .ret u) ∧ fl1 = fl ∧ fr1 = fr' ∧ σ1 = σ')) := by
  cases W with
  | cons g D W => exact ⟨_, _, _, g, D, .inl ⟨rfl, W⟩⟩
  | ret g D => exact ⟨_, _, _, g, D, .inr ⟨⟨_, rfl⟩, rfl, rfl, rfl⟩⟩
section
variable {X : Wb} {n : Nat} {fr fr1 fr2 : MF} {σ σ1 σ2 : MS} {m : ME} {v : MV} {vs : List MV} {x : String} {fl : MFl} {sts : List MSt} {c k : Nat}
theorem xm_whl (W : WhM X n m sts k fr σ fl fr2 σ2) : ExM X n (.whl m sts) fr σ fl fr2 σ2 := ⟨fun {cl ns j st env ad A s E Q} hc a kk => by
  cases j; exact fnt hc
  refine sWhl_el hc fun t' a' o p g => nil_el (and3 g).1 (wpAny_While ?_)
  refine codeAny_whileLoop (s := s) (fun i s' => ∃ fr1 σ1 ad1 h1 tk1, s' = { s with heap := h1, toks := tk1 } ∧ WhM X n m sts i fr1 σ1 fl fr2 σ2 ∧ StepL env.locals ad s.heap ad1 h1 ∧ FrR X.base env fr1 ad1 h1 ∧ HR X.w X.base σ1 ad1 h1) (fun i s' hI => ?_) k ⟨fr, σ, ad, s.heap, s.toks, rfl, W, (Step.refl _ _).toL, a.F, a.H⟩
  obtain ⟨fr1, σ1, ad1, h1, tk1, rfl, W, st1, F1, H1⟩ := hI
  have a1 := a.on (tk := tk1) F1 H1
  cases W with
  | stop T =>
    refine T.go (and3 g).2.1 a1 fun ad2 h2 tk2 st2 H2 => ?_
    rw [if_neg Bool.false_ne_true]
    exact wpAny_execs_nil (kk ad2 h2 tk2 .next (a.then F1 st1 H1 st2.toL) (F1.step st2) H2 .next)
  | more T D W =>
    refine T.go (and3 g).2.1 a1 fun ad2 h2 tk2 st2 H2 => ?_
    rw [if_pos rfl]
    refine D.go (and3 g).2.2 (a1.step (tk := tk2) st2 H2) fun ad3 h3 tk3 f st3 F3 H3 hf => ?_
    cases hf
    exact ⟨_, Nat.lt_succ_self _, _, _, ad3, h3, tk3, rfl, W, a.then F1 st1 H1 (.after F1 st2 H2 st3), F3, H3⟩⟩
theorem for_go {cl : Nat → Arguments → FuncBody → Scope → Bool} {ns : List (Str × NameKind)} {env : Env} {ad0 ad1 : AD} {A : Around} {s : Shared} {E : Value → Shared → Prop} {Q : Flow → Shared → Prop} {j : Nat} {b' : List Stmt} {y : Str} {xp : Pos} {It : Addr} {h1 h2 : Heap} {tk1 : Tok} {G : MS → Prop} (Nx : Nat → AD → Heap → Prop)
    (W : FoM X n x sts G vs fr σ1 fl fr2 σ2) (a : At X n fr σ cl ns env ad0 A s) (hy : (nm x y && isK ns (Str.ofString x) .local) = true) (hb : chkL (chkS cl ns j) b' sts = true)
    (st1 : Step ad0 s.heap ad1 h1) (H1 : HR X.w X.base σ1 ad1 h1) (hIn : h1.get? It = none) (hI2 : ∃ o, h2.get? It = some o) (hk2 : ∀ b o, h1.get? b = some o → h2.get? b = some o) (hN : Nx 0 ad1 h2)
    (item : ∀ {i v σ ad h tk E} {Q : Option Value → Shared → Prop}, vs[i]? = some v → G σ → Nx i ad h → HR X.w X.base σ ad h → (∀ y h4 tk4, VR ad v y → Nx (i + 1) ad h4 → Heap.SameBut It h h4 → (∃ o, h4.get? It = some o) → Q (some y) { s with heap := h4, toks := tk4 }) → wpAny (model PR X.w) A (pyNext (.ref It)) Q E { s with heap := h, toks := tk })
    (fin : ∀ {i σ ad h tk E} {Q : Option Value → Shared → Prop}, vs.length ≤ i → G σ → Nx i ad h → HR X.w X.base σ ad h → (∀ h4, Heap.ExtBut It h h4 → Q none { s with heap := h4, toks := tk }) → wpAny (model PR X.w) A (pyNext (.ref It)) Q E { s with heap := h, toks := tk })
    (keep : ∀ {i ad h ad' h'}, Nx i ad h → (∀ o, h.get? It = some o → h'.get? It = some o) → StepL env.locals ad h ad' h' → Nx i ad' h')
    (k : ContF X env fl fr2 σ2 ad0 s Q) :
    codeAny (model PR X.w) A (.forLoop (.Name y xp) (.ref It) b' [] env) (fun r s' => match r with | .ok f => Q f s' | .error e => cameBackBy (model PR X.w) A env E e s') { s with heap := h2, toks := tk1 } := by
  have F1 := a.F.step st1
  have hIL : It ≠ env.locals := fun z => by obtain ⟨o, e⟩ := F1.there; rw [← z, hIn] at e; cases e
  have hIb : X.base.get? It = none := by
    cases z : X.base.get? It with
    | none => rfl
    | some o => rw [H1.stays _ _ z] at hIn; cases hIn
  have hIo : ∀ (n : Nat) (p : Addr × Addr), ad1[n]? = some p → ¬ Own p It := fun n p e ho => by
    obtain ⟨_, o, e'⟩ := H1.off n p It e ho
    rw [hIn] at e'; cases e'
  have hIs : s.heap.get? It = none := st1.back a.H H1 hIn
  have st2 : Step ad1 h1 ad1 h2 := .keeps hk2
  refine nm_el (and2 hy).1 ?_
  refine codeAny_forLoop (s := { s with heap := h2, toks := tk1 }) (fun m s' => ∃ i fr1 σ1 ad2 h3 tk2, s' = { s with heap := h3, toks := tk2 } ∧ i + m = vs.length ∧ FoM X n x sts G (vs.drop i) fr1 σ1 fl fr2 σ2 ∧
    StepL env.locals ad0 s.heap ad2 h3 ∧ FrR X.base env fr1 ad2 h3 ∧ HR X.w X.base σ1 ad2 h3 ∧ Nx i ad2 h3 ∧ (∃ o, h3.get? It = some o) ∧ ∀ (n : Nat) (p : Addr × Addr), ad2[n]? = some p → ¬ Own p It) (fun m s' hI' => ?_) vs.length
    ⟨0, fr, σ1, ad1, h2, tk1, rfl, Nat.zero_add _, W, .after a.F st1 H1 st2.toL, F1.step st2, H1.keep hk2, hN, hI2, hIo⟩
  obtain ⟨i, fr1, σ1, ad2, h3, tk2, rfl, him, W, st3, F3, H3, hN, hI3, hno⟩ := hI'
  by_cases hi : i < vs.length
  · have hv : vs[i]? = some vs[i] := List.getElem?_eq_getElem hi
    rw [List.drop_eq_getElem_cons hi] at W
    generalize vs[i] = v at hv W
    obtain ⟨fl1, fr4, σ4, hG, D, W⟩ := W.inv
    refine item hv hG hN H3 fun y h4 tk4 hvy hN4 hx hI4 => ?_
    obtain ⟨F4, H4⟩ := turn_iter F3 H3 (fun b o nb e => (hx.2 b nb).trans e) hIL hIb hno
    have st4 : StepL env.locals ad0 s.heap ad2 h4 := st3.turn hIs fun b o nb e => (hx.2 b nb).trans e
    refine wpAny_assign_Name (st_local (s := { s with heap := h4, toks := tk4 }) (a.kindOf (and2 hy).2) F4 H4 hvy fun ad5 h5 tk5 st5 F5 H5 => ?_)
    have hno5 := not_ours (base := X.base) st5 hI4 hno
    have hI5 : ∃ o, h5.get? It = some o := let ⟨o, e⟩ := hI4; ⟨o, iter_kept st5 hIL hno o e⟩
    refine D.go hb (a.on (tk := tk5) F5 H5) fun ad6 h6 tk6 f st6 F6 H6 hf => ?_
    have st7 : StepL env.locals ad0 s.heap ad6 h6 := .then a.F F5 (.then a.F F4 st4 H4 st5) H5 st6
    rcases W with ⟨rfl, W⟩ | ⟨⟨u, hu⟩, rfl, rfl, rfl⟩
    · cases hf
      exact ⟨vs.length - (i + 1), by lia, i + 1, _, _, ad6, h6, tk6, rfl, by lia, W, st7, F6, H6, keep (keep hN4 (iter_kept st5 hIL hno) st5) (iter_kept st6 hIL hno5) st6,
        (let ⟨o, e⟩ := hI5; ⟨o, iter_kept st6 hIL hno5 o e⟩), not_ours (base := X.base) st6 hI5 hno5⟩
    · subst hu
      have := k ad6 h6 tk6 f st7 F6 H6 hf
      cases hf
      exact this
  · rw [List.drop_eq_nil_iff.mpr (Nat.not_lt.mp hi)] at W
    cases W with
    | nil hG =>
      refine fin (Nat.not_lt.mp hi) hG hN H3 fun h4 hx => ?_
      obtain ⟨F4, H4⟩ := turn_iter F3 H3 (fun b o nb e => hx b o nb e) hIL hIb hno
      exact wpAny_execs_nil (k ad2 h4 tk2 .next (st3.turn hIs fun b o nb e => hx b o nb e) F4 H4 .next)
theorem xm_forL (D : EvM X n fr m σ (.loc c) σ1) (g : σ1.obj c = some (.list vs)) (W : FoM X n x sts (fun τ => τ.obj c = some (.list vs)) vs fr σ1 fl fr2 σ2) : ExM X n (.forL x m sts) fr σ fl fr2 σ2 := ⟨fun {cl ns j st env ad A s E Q} hc a k => by
  cases j; exact fnt hc
  refine sFor_el hc fun t' e' b' o p g1 => nil_el (and5 g1).1 (vName_el (and5 g1).2.1 fun y xp g2 => ?_)
  refine wpAny_For (D.go (and5 g1).2.2.2.1 a fun ad1 h1 tk1 z1 st1 H1 hz1 => ?_) (folded (and5 g1).2.2.1 env)
  obtain ⟨q, hq, rfl, rs, ep, hob, hrs⟩ := HR.at (s := { s with heap := h1, toks := tk1 }) H1 g hz1
  refine wpAny_pyIter_list (isL hob) ?_
  refine for_go (s := s) (fun i ad h => h.IsListIter h1.objs.size q.1 i ∧ ad[c]? = some q) W a g2 (and5 g1).2.2.2.2 st1 H1 (Heap.get?_none_of_le (Nat.le_refl _)) ⟨_, Heap.get?_push_size _ rfl⟩ (fun b o e => Heap.get?_push_of_some _ e) ⟨⟨_, Heap.get?_push_size _ rfl, rfl, rfl⟩, hq⟩ ?_ ?_ ?_ k
  · intro i v τ ad h tk E Q hv hG hN H K
    obtain ⟨q', hq', rs', ep', hob', hrs'⟩ := H.obj c _ hG
    rw [hN.2] at hq'
    cases hq'
    obtain ⟨y, hy, hvy⟩ := hrs'.get hv
    exact wpAny_pyNext_list_item (s := { s with heap := h, toks := tk }) hN.1 (isL hob') (x := y) (by rw [List.getElem?_toArray]; exact hy) fun h4 hit4 hx => K y h4 tk hvy ⟨hit4, hN.2⟩ hx (let ⟨o, e, _⟩ := hit4; ⟨o, e⟩)
  · intro i τ ad h tk E Q hv hG hN H K
    obtain ⟨q', hq', rs', ep', hob', hrs'⟩ := H.obj c _ hG
    rw [hN.2] at hq'
    cases hq'
    have hl' := hrs'.length
    exact wpAny_pyNext_list_end (s := { s with heap := h, toks := tk }) a.R.hand hN.1 (isL hob') (by rw [List.getElem?_toArray]; exact List.getElem?_eq_none (by lia)) K
  · exact fun hN hk hp => ⟨let ⟨o, e, z⟩ := hN.1; ⟨o, hk o e, z⟩, hp.ext _ _ hN.2⟩⟩
theorem xm_forR {N : Nat} (D : EvM X n fr m σ (.int (N : Int)) σ1) (hN : N < 1000) (W : FoM X n x sts (fun _ => True) ((List.range N).map fun i : Nat => .int (i : Int)) fr σ1 fl fr2 σ2) : ExM X n (.forR x m sts) fr σ fl fr2 σ2 := ⟨fun {cl ns j st env ad A s E Q} hc a k => by
  cases j; exact fnt hc
  refine sFor_el hc fun t' e' b' o p g1 => nil_el (and4 g1).1 (vName_el (and4 g1).2.1 fun y xp g2 => vCall_el (and4 g1).2.2.2 fun f as ks q g3 => nil_el (and4 g3).1 (vName_el (and4 g3).2.1 fun r rp g4 => dec_el g4 (v1_el (and4 g3).2.2.2 fun e' g5 => ?_)))
  obtain ⟨mg, mb', hg, hb, hbi, _⟩ := X.b.top
  have hg' := hg.keeps a.H.stays
  have hb' := hb.keeps a.H.stays
  rw [← a.F.glob] at hg'
  rw [← a.F.bi] at hb'
  refine wpAny_For ?_
  refine wpAny_Call_NameR (Name_function_global a.F.kind (a.kindOf (and4 g3).2.2.1) (loadGlobal_builtin hg' (mg_none_of X.b.k hg (range_none X.w.params)) hb' ((hbi _ range_ne).trans range_boot) ?_))
  rw [starred_no (and2 g5).1]
  refine PySem.callWith_type rfl (evalArgs_plain (spliced_cons (D.go (and2 g5).2 a fun ad1 h1 tk1 z1 st1 H1 hz1 => spliced_nil ?_)))
  obtain ⟨tok, rfl⟩ := hz1.isInt
  refine call_range_1 ?_
  refine wpAny_pyIter_range (IsRange.new ..) (small_one (by decide) (by decide) (by lia) (by lia)) ?_
  have hsz : Builtin.Range.rangeSize 0 (N : Int) 1 = (N : Int) := by rw [rangeSize_one]; split <;> lia
  rw [hsz]
  dsimp only
  refine for_go (s := s) (fun i ad h => IsRangeIter h (h1.push { cls := .type "range", data := .fields #[.int 0 tk1, .int N tok, .int 1 (tk1 + 1)] }).objs.size i ((N : Int) - i) 1) W a g2 (and4 g1).2.2.1 st1 H1 (Heap.get?_none_of_le (by rw [Heap.size_push]; exact Nat.le_succ _)) ⟨_, Heap.get?_push_size _ rfl⟩
    (fun b o e => Heap.get?_push_of_some _ (Heap.get?_push_of_some _ e)) (by rw [Int.natCast_zero, Int.sub_zero]; exact Heap.get?_push_size _ rfl) ?_ ?_ ?_ k
  · intro i v τ ad h tk E Q hv hG hN H K
    rw [List.getElem?_map, Option.map_eq_some_iff] at hv
    obtain ⟨i', hv, rfl⟩ := hv
    obtain ⟨hi, hv⟩ := List.getElem?_eq_some_iff.mp hv
    rw [List.length_range] at hi
    rw [List.getElem_range] at hv
    subst hv
    refine wpAny_pyNext_range_item (s := { s with heap := h, toks := tk }) hN (by lia) fun h4 hit4 hx => K _ h4 _ (.int _ _) ?_ hx ⟨_, hit4⟩
    have e1 : ((i : Int) + 1) = ((i + 1 : Nat) : Int) := by lia
    have e2 : ((N : Int) - (i : Int) - 1) = (N : Int) - ((i + 1 : Nat) : Int) := by lia
    rw [← e2, ← e1]
    exact hit4
  · intro i τ ad h tk E Q hv hG hN H K
    rw [List.length_map, List.length_range] at hv
    exact wpAny_pyNext_range_end (s := { s with heap := h, toks := tk }) a.R.hand hN (by lia) K
  · exact fun hN hk hp => hk _ hN⟩
theorem xm_asgC {y : String} {ms : List MV} {fv : List String} {mit melt : ME} {cond : Option ME} {cs : List (String × Nat)} (fb : MV → Bool) (fu : MV → MV) (D : EvM X n fr mit σ v σ1) (I : IterM X σ1 v ms) (hcs : mCels fr fv = some cs) (hm : ∀ m ∈ ms, CdM X cs σ1 x cond m (fb m) ∧ (fb m = true → PuM X ⟨[(x, m)], cs, false⟩ melt σ1 (fu m))) :
    ExM X n (.asg (.var y) (.comp melt x fv mit cond)) fr σ .next ⟨setL y (.loc σ1.next) fr.loc, fr.cel, fr.law⟩ (σ1.new (.list ((ms.filter fb).map fu))) := ⟨fun {cl ns j st env ad A s E Q} hc a k => by
  obtain _ | j := j
  · exact fnt hc
  refine sAsg_el hc fun ts e sp g => v1_el g fun t' g => (or2 g).elim (fun g => ?_) fun g => ?_
  · obtain ⟨h1, _, h2⟩ := and3 g
    obtain _ | j := j
    · exact fnt h2
    exact vComp_el (P := fun e => notComp e = true → wpAny (model PR X.w) A (exec (.Assign [t'] e sp) env) Q E s) h2 (fun _ _ _ _ _ h => fnt h) h1
  · refine vName_el g fun y' xp g => nm_el (and3 g).1 (vComp_el (and3 g).2.2 fun elt' gs scope p g3 => v1_el (and3 g3).2.2 fun gn g4 => ?_)
    obtain ⟨tz, it', ifs, as⟩ := gn
    obtain ⟨h5, h6, h7, h8, h9, h10, h11⟩ := and7 g4
    refine vName_el (x0 := tz) h5 fun y' zp h5 => nm_el h5 (dec_el (a := as) h6 ?_)
    have hky := a.kindOf (and3 g).2.1
    rw [exec_Assign_Name_used _ _ _ _ (swap_yes a.F.kind hky (and3 g3).1 (not1 (and3 g3).2.1))]
    refine wpAny_bind (wpAny_standAt (wpAny_bind ?_))
    show wpAny _ A (do let _ ← comprehension (.ListComp elt' [⟨.Name (Str.ofString x) zp, it', ifs, 0⟩] scope p) scope env _ (newList []) false (eval it' env) (some (assign (.Name (Str.ofString y) xp) env))) _ _ s
    refine wpAny_bind (wpAny_mono (comp_go (use := some (assign (.Name (Str.ofString y) xp) env)) (Q := fun _ s' => Q .next s') (E := E) a D I hcs hm h7 (compB_eq h8) h9 h10 h11 ?_) (fun _ s' hq => wpAny_pure (wpAny_pure hq)) fun _ _ e => e)
    intro ad1 h1 Dd Cc h' tk m' ys st1 H1 hD hC hDC hn hpl hys hk
    obtain ⟨c, hD''⟩ := hpl
    obtain ⟨H2, st2, hv2⟩ := new_list (s := { s with heap := h1 }) H1 (a := Dd) (h' := h') (rs := ys.toList) (n := c) (vs := (ms.filter fb).map fu) hk hD (by rw [Array.toArray_toList]; exact hD'') hys
    have F1 := a.F.step st1
    have F2 := F1.step st2
    refine wpAny_assign_Name (st_local (s := { s with heap := h', toks := tk }) hky F2 H2 hv2 fun ad3 h3 tk3 st3 F3 H3 => ?_)
    have hCL : Cc ≠ env.locals := fun z => by obtain ⟨o, e⟩ := F1.there; rw [← z, hC] at e; cases e
    have hCo : ∀ (n : Nat) (p : Addr × Addr), (ad1 ++ [(Dd, Dd)])[n]? = some p → ¬ Own p Cc := fun n p e ho => by
      by_cases l : n < ad1.length
      · rw [List.getElem?_append_left l] at e
        obtain ⟨_, o, e'⟩ := H1.off n p Cc e ho
        rw [hC] at e'; cases e'
      · rw [List.getElem?_append_right (Nat.not_lt.mp l)] at e
        cases z : n - ad1.length with
        | zero =>
          rw [z] at e
          simp at e
          subst e
          have : Cc = Dd := by rcases ho with e | e <;> exact e
          exact hDC this.symm
        | succ k => rw [z] at e; simp at e
    have hCb : X.base.get? Cc = none := by
      cases z : X.base.get? Cc with
      | none => rfl
      | some o => rw [H1.stays _ _ z] at hC; cases hC
    have hCe : ∃ o, h'.get? Cc = some o := let ⟨o, _, _, ho, _⟩ := hn; ⟨o, ho⟩
    refine ⟨m', hn.at' fun o e => st3.keep _ _ hCL e hCo, fun h4 hs4 => ?_⟩
    obtain ⟨F4, H4⟩ := turn_iter F3 H3 (fun b o nb e => (hs4.2 b nb).trans e) hCL hCb (not_ours (base := X.base) st3 hCe hCo)
    have stA : StepL env.locals ad s.heap ad3 h3 := .after a.F (st1.trans H1 st2) H2 st3
    exact k ad3 h4 tk3 .next (stA.turn (st1.back a.H H1 hC) fun b o nb e => (hs4.2 b nb).trans e) F4 H4 .next⟩
end
end Mine
end
section
open PySem PySem.W PySem.Calls PyProof.Rows
set_option maxRecDepth 100000
namespace Mine
theorem zip_lookup {names : List Str} {vals : List Value} (hn : names.Nodup) (hl : vals.length = names.length) : (names.filterMap fun n => ((names.zip vals).lookup n).map (n, ·)) = names.zip vals := by
  have key : ∀ (names : List Str) (vals : List Value) (pre : List (Str × Value)), names.Nodup → vals.length = names.length → (∀ n ∈ names, pre.lookup n = none) → (names.filterMap fun n => ((pre ++ names.zip vals).lookup n).map (n, ·)) = names.zip vals := by
    intro names
    induction names with
    | nil => intro vals pre _ _ _; rfl
    | cons a l ih =>
      intro vals pre hn hl hp
      cases vals with
      | nil => simp at hl
      | cons v vs =>
        rw [List.nodup_cons] at hn
        have h1 : (pre ++ (a :: l).zip (v :: vs)).lookup a = some v := by
          rw [List.lookup_append, hp a (.head _)]
          simp [List.zip_cons_cons, List.lookup_cons]
        rw [List.filterMap_cons, h1]
        show _ :: _ = _ :: _
        congr 1
        have := ih vs (pre ++ [(a, v)]) hn.2 (by simpa using hl) (fun n hm => by
          rw [List.lookup_append, hp n (List.mem_cons_of_mem _ hm)]
          have : (n == a) = false := beq_false_of_ne fun e => hn.1 (e ▸ hm)
          simp [List.lookup_cons, this])
        rw [List.append_assoc] at this
        exact this
  have := key names vals [] hn hl (fun _ _ => rfl)
  simpa using this
theorem look_zip {names : List Str} {vals : List Value} (hl : vals.length = names.length) {n : Str} (hm : n ∈ names) : ((names.zip vals).lookup n).isNone = false := by
  induction names generalizing vals with
  | nil => cases hm
  | cons a l ih => cases vals with
    | nil => simp at hl
    | cons v vs =>
      rw [List.zip_cons_cons, List.lookup_cons]
      cases e : n == a with
      | true => rfl
      | false =>
        rcases List.mem_cons.mp hm with rfl | h
        · simp at e
        · exact ih (by simpa using hl) h
theorem zip_end {names : List Str} {vals : List Value} (hn : names.Nodup) (hl : vals.length = names.length) : ((names ++ []).filterMap fun n => ((names.zip vals).lookup n).map (n, ·)) = names.zip vals := by rw [List.append_nil]; exact zip_lookup hn hl
theorem no_miss {ns : List Str} {vals : List Value} {k : Nat} (hl : vals.length = ns.length) : ¬ ((!((ns.take k).filter fun n => ((ns.zip vals).lookup n).isNone).isEmpty) = true) := by
  rw [List.filter_eq_nil_iff.mpr fun n hm => by rw [look_zip hl (List.mem_of_mem_take hm)]; exact Bool.false_ne_true]
  exact Bool.false_ne_true
theorem not_many {ns : List Str} {vals : List Value} (hl : vals.length = ns.length) : ¬ ((decide (vals.length > ns.length) && (none : Option Arg).isNone) = true) := by
  rw [hl, decide_eq_false (Nat.lt_irrefl _)]; exact Bool.false_ne_true
theorem for_nil {α β γ : Type} {l : List α} {b : β} {f : α → β → Sem (ForInStep β)} {g : β → Sem γ} (h : l = []) : (forIn l b f >>= g) = g b := by subst h; rfl
theorem bind_plain {fd : FuncData} {vals : List Value} (h1 : fd.params.posonlyargs = []) (h2 : fd.params.vararg = none) (h3 : fd.params.kwonlyargs = []) (h4 : fd.params.kwarg = none) (h5 : fd.defaults = .none) (hn : (fd.params.args.map (·.arg)).Nodup) (hl : vals.length = fd.params.args.length) :
    bindArgs fd ⟨vals, []⟩ = pure ((fd.params.args.map (·.arg)).zip vals) := by
  have hl' : vals.length = (fd.params.args.map (·.arg)).length := hl.trans (List.length_map _).symm
  obtain ⟨_, _, ⟨_, as, _, _, _, _, _⟩, _, _, _, _, _, _, _, _, _, _, _, _⟩ := fd
  cases h1; cases h2; cases h3; cases h4; cases h5
  exact (if_neg (not_many hl')).trans ((if_neg (no_miss hl')).trans ((for_nil (by simp)).trans (congrArg (fun l => (pure l : Sem _)) (zip_end hn hl'))))
end Mine
end
section
open PySem PySem.W PySem.Calls PyProof.Rows
set_option maxRecDepth 100000
namespace Mine
theorem get_zip {ad : AD} : ∀ {xs : List String} {vs : List MV} {us : List Value} {x : String} {v : MV}, All2 (VR ad) vs us → xs.Nodup → getL' x (xs.zip vs) = some v → ∃ u, ((xs.map Str.ofString).zip us).lookup (Str.ofString x) = some u ∧ VR ad v u
  | [], _, _, _, _, _, _, h => by cases h
  | y :: ys, _, _, x, v, .nil, _, h => by cases h
  | y :: ys, _, _, x, v, .cons (a := a) (b := b) r t, hn, h => by
    rw [List.nodup_cons] at hn
    rw [List.map_cons, List.zip_cons_cons, List.lookup_cons]
    rw [List.zip_cons_cons] at h
    unfold getL' at h
    by_cases q : y = x
    · subst q
      rw [if_pos rfl] at h
      cases h
      have : (Str.ofString y == Str.ofString y) = true := by simp
      rw [this]
      exact ⟨b, rfl, r⟩
    · rw [if_neg q] at h
      have : (Str.ofString x == Str.ofString y) = false := beq_false_of_ne fun e => q (cps_inj e).symm
      rw [this]
      exact get_zip t hn.2 h
theorem lookup_rev {l : List (Str × Value)} (hn : (l.map (·.1)).Nodup) (x : Str) : l.reverse.lookup x = l.lookup x := by
  induction l with
  | nil => rfl
  | cons a l ih =>
    rw [List.map_cons, List.nodup_cons] at hn
    rw [List.reverse_cons, List.lookup_append, ih hn.2]
    obtain ⟨a, b⟩ := a
    have e1 : List.lookup x ((a, b) :: l) = (match x == a with | true => some b | false => l.lookup x) := List.lookup_cons ..
    have e2 : List.lookup x [(a, b)] = (match x == a with | true => some b | false => none) := List.lookup_cons ..
    rw [e1, e2]
    cases q : x == a with
    | true =>
      have hx := eq_of_beq q
      have : l.lookup x = none := by
        cases e : l.lookup x with
        | none => rfl
        | some v => exact absurd (hx ▸ List.mem_map.mpr ⟨_, mem_of_lookup e, rfl⟩) hn.1
      rw [this]
      rfl
    | false =>
      cases l.lookup x <;> rfl
section
variable {w : World} {base : Heap} {n : Nat}
theorem Room.deeper {A : Around} (R : Room A (n + 1)) (env : Env) : Room (A.deeper env) n :=
  ⟨R.hand, by have := R.depth; show A.depth + 1 + 4 * n + 10 < 1000; lia, by have := R.units; show A.units + 3 + 20 * n + 200 < 9900; lia⟩
theorem back_step {L : Addr} {ad ad' : AD} {h h0 h' : Heap} (hL : h.get? L = none) (hk : ∀ b o, h.get? b = some o → h0.get? b = some o) (st : StepL L ad h0 ad' h') : Step ad h ad' h' where
  ext := st.ext
  keep := fun b o e hn => st.keep b o (fun z => by rw [z, hL] at e; cases e) (hk b o e) hn
  fresh := fun n p b e hn ho => by
    have := st.fresh n p b e hn ho
    cases z : h.get? b with
    | none => rfl
    | some o => rw [hk b o z] at this; cases this
theorem get_kw {ad : AD} {x : String} {v : MV} : ∀ {l : List (String × MV)} {l' : List (Str × Value)}, All2 (KwR ad) l l' → getL' x l = some v → ∃ u, l'.lookup (Str.ofString x) = some u ∧ VR ad v u
  | _, _, .nil, h => by cases h
  | _, _, .cons (a := (y, b)) (b := (y', u)) (as := l) (bs := l') r t, h => by
    obtain ⟨h1, h2⟩ := r
    dsimp only at h1 h2
    subst h1
    have e1 : List.lookup (Str.ofString x) ((Str.ofString y, u) :: l') = (match Str.ofString x == Str.ofString y with | true => some u | false => l'.lookup (Str.ofString x)) := List.lookup_cons ..
    rw [e1]
    unfold getL' at h
    by_cases q : y = x
    · subst q
      rw [if_pos rfl] at h
      cases h
      rw [beq_self_eq_true]
      exact ⟨u, rfl, h2⟩
    · rw [if_neg q] at h
      rw [beq_false_of_ne fun e => q (cps_inj e).symm]
      exact get_kw t h
theorem kw_names {ad : AD} : ∀ {l : List (String × MV)} {l' : List (Str × Value)}, All2 (KwR ad) l l' → l'.map (·.1) = (l.map (·.1)).map Str.ofString
  | _, _, .nil => rfl
  | _, _, .cons r t => by rw [List.map_cons, List.map_cons, List.map_cons, kw_names t, r.1]
theorem kw_zip {ad : AD} : ∀ {xs : List String} {vs : List MV} {us : List Value}, All2 (VR ad) vs us → All2 (KwR ad) (xs.zip vs) ((xs.map Str.ofString).zip us)
  | [], _, _, _ => .nil
  | _ :: _, _, _, .nil => .nil
  | x :: xs, _, _, .cons r t => .cons ⟨rfl, r⟩ (kw_zip t)
theorem Room.make {A : Around} {cC : Addr} {pos : List Value} {kw : List (Str × Value)} (R : Room A (n + 1)) : Room (A.under (.builtin "type.__call__" ⟨.ref cC :: pos, kw⟩)) n := by
  have h1 : (A.under (.builtin "type.__call__" ⟨.ref cC :: pos, kw⟩)).depth = A.depth + 1 := rfl
  have h2 : (A.under (.builtin "type.__call__" ⟨.ref cC :: pos, kw⟩)).units ≤ A.units + 10 := by
    show A.units + _ ≤ A.units + 10
    apply Nat.add_le_add_left
    exact Nat.le_of_ble_eq_true rfl
  refine ⟨R.hand, ?_, ?_⟩
  · have := R.depth
    rw [h1]; lia
  · have := R.units
    lia
end
theorem cellsFrom_none : ∀ {names : List (Str × NameKind)} {n : Nat} {acc : List (Str × Addr)}, (names.filter fun y => y.2 == .cell).map (·.1) = [] → cellsFrom n names acc = acc
  | [], _, _, _ => rfl
  | (a, k) :: r, n, acc, h => by
    unfold cellsFrom
    cases e : k == NameKind.cell with
    | true =>
      rw [List.filter_cons] at h
      dsimp only at h
      rw [e] at h
      simp at h
    | false =>
      rw [List.filter_cons] at h
      dsimp only at h
      rw [e] at h
      rw [if_neg Bool.false_ne_true]
      exact cellsFrom_none h
theorem cellsFrom_one {c : Str} : ∀ {names : List (Str × NameKind)} {n : Nat} {acc : List (Str × Addr)}, (names.filter fun y => y.2 == .cell).map (·.1) = [c] → cellsFrom n names acc = (c, n) :: acc
  | [], _, _, h => by cases h
  | (a, k) :: r, n, acc, h => by
    unfold cellsFrom
    cases e : k == NameKind.cell with
    | true =>
      rw [List.filter_cons] at h
      dsimp only at h
      rw [e, if_pos rfl, List.map_cons] at h
      injection h with h1 h2
      dsimp only at h1
      subst h1
      rw [if_pos rfl]
      exact cellsFrom_none h2
    | false =>
      rw [List.filter_cons] at h
      dsimp only at h
      rw [e] at h
      rw [if_neg Bool.false_ne_true]
      exact cellsFrom_one h
theorem bindL_skip {kd : Str → Option NameKind} {y : Str} : ∀ {l : List (Str × Value)} {m : Str → Option Value}, y ∉ l.map (·.1) → bindL kd l m y = m y
  | [], m, _ => rfl
  | (n, v) :: r, m, h => by
    rw [List.map_cons, List.mem_cons, not_or] at h
    unfold bindL
    rw [bindL_skip h.2]
    split
    · exact if_neg h.1
    · rfl
theorem bindL_get {kd : Str → Option NameKind} {y : Str} (hy : kd y = some .local) : ∀ {l : List (Str × Value)} {m : Str → Option Value} {u : Value}, (l.map (·.1)).Nodup → l.lookup y = some u → bindL kd l m y = some u
  | [], m, u, _, h => by cases h
  | (n, v) :: r, m, u, hn, h => by
    rw [List.map_cons, List.nodup_cons] at hn
    have e1 : List.lookup y ((n, v) :: r) = (match y == n with | true => some v | false => r.lookup y) := List.lookup_cons ..
    rw [e1] at h
    unfold bindL
    cases q : y == n with
    | true =>
      rw [q] at h
      cases h
      have e := eq_of_beq q
      subst e
      rw [bindL_skip hn.1, if_pos hy, if_pos rfl]
    | false =>
      rw [q] at h
      exact bindL_get hy hn.2 h
theorem bindC_skip {kd : Str → Option NameKind} {y : Str} : ∀ {l : List (Str × Value)} {m : Str → Option Value}, y ∉ l.map (·.1) → bindC kd l m y = m y
  | [], m, _ => rfl
  | (n, v) :: r, m, h => by
    rw [List.map_cons, List.mem_cons, not_or] at h
    unfold bindC
    rw [bindC_skip h.2]
    split
    · rfl
    · exact if_neg h.1
theorem bindC_get {kd : Str → Option NameKind} {y : Str} (hy : ¬ kd y = some .local) : ∀ {l : List (Str × Value)} {m : Str → Option Value} {u : Value}, (l.map (·.1)).Nodup → l.lookup y = some u → bindC kd l m y = some u
  | [], m, u, _, h => by cases h
  | (n, v) :: r, m, u, hn, h => by
    rw [List.map_cons, List.nodup_cons] at hn
    have e1 : List.lookup y ((n, v) :: r) = (match y == n with | true => some v | false => r.lookup y) := List.lookup_cons ..
    rw [e1] at h
    unfold bindC
    cases q : y == n with
    | true =>
      rw [q] at h
      cases h
      have e := eq_of_beq q
      subst e
      rw [bindC_skip hn.1, if_neg hy, if_pos rfl]
    | false =>
      rw [q] at h
      exact bindC_get hy hn.2 h
theorem get_none {xs : List String} {vs : List MV} {x : String} (hl : vs.length = xs.length) (h : getL' x (xs.zip vs) = none) : x ∉ xs := by
  induction xs generalizing vs with
  | nil => simp
  | cons a l ih =>
    cases vs with
    | nil => simp at hl
    | cons v vs =>
      rw [List.zip_cons_cons] at h
      unfold getL' at h
      split at h
      · cases h
      · rename_i q
        rw [List.mem_cons, not_or]
        exact ⟨fun e => q e.symm, ih (by simpa using hl) h⟩
theorem get_filter {x y : String} {v : MV} : ∀ {l : List (String × MV)}, getL' y (l.filter fun b => !([x] : List String).contains b.1) = some v → y ≠ x ∧ getL' y l = some v
  | [], h => by cases h
  | (a, b) :: l, h => by
    rw [List.filter_cons] at h
    by_cases q : a = x
    · subst q
      have : (!([a] : List String).contains a) = false := by simp
      rw [this] at h
      obtain ⟨h1, h2⟩ := get_filter (l := l) (by simpa using h)
      refine ⟨h1, ?_⟩
      unfold getL'
      rw [if_neg fun e => h1 e.symm]; exact h2
    · have : (!([x] : List String).contains a) = true := by simp [q]
      rw [this, if_pos rfl] at h
      unfold getL' at h ⊢
      by_cases r : a = y
      · subst r
        rw [if_pos rfl] at h ⊢
        exact ⟨q, h⟩
      · rw [if_neg r] at h ⊢
        exact get_filter h
theorem mem_initList {C fi : Nat} (h : initTab C = some fi) : (C, fi) ∈ initList := tabAt_mem h
noncomputable def okMake (K : Frag) (q : Nat × Nat) : Bool := makesIn K q.1 && isRf q.2 (findIn K (.ref q.1) "__init__") && isTyp "function" (typeIn K (.ref q.2)) && keepIn K (.ref q.1)
theorem make_all (P : Params) : initList.all (okMake (KF P)) = true := by kernel_rfl
structure FnM (X : Wb) (n : Nat) (a : Nat) (args : List MV) (kw : List (String × MV)) (σ : MS) (v : MV) (σ' : MS) : Prop where
  go : ∀ {ad A s args' kw' Rs}, Room A n → HR X.w X.base σ ad s.heap → All2 (VR ad) args args' → All2 (KwR ad) kw kw' → Cont X.w X.base σ' ad v s (fun v s' => Rs (.ok (.ret v)) s') → codeAny (model PR X.w) A (.call (.ref a) ⟨args', kw'⟩) Rs s
section
variable {X : Wb} {n : Nat} {fr1 : MF} {σ σ' : MS} {fl : MFl} {args : List MV} {kw binds : List (String × MV)} {cs : List (String × Nat)} {mf : MFun} {a : Nat} {v : MV} {m : ME} {k : Nat}
section
variable {cl : Nat → Arguments → FuncBody → Scope → Bool} {fd : FuncData} {ad : AD} {A : Around} {s : Shared} {args' : List Value} {kw' binds' : List (Str × Value)} {Rs : Result → Shared → Prop} {h₀ : Heap}
theorem noF : Gd noCl := fun _ _ _ _ h => fnt h
theorem base_none (H : HR X.w X.base σ ad s.heap) : X.base.get? s.heap.objs.size = none := by
  cases z : X.base.get? s.heap.objs.size with
  | none => rfl
  | some ob => exact absurd (Heap.lt_size (H.stays _ _ z)) (Nat.lt_irrefl _)
theorem own_none (H : HR X.w X.base σ ad s.heap) (j : Nat) (p : Addr × Addr) (hp : ad[j]? = some p) : ¬ Own p s.heap.objs.size := fun hown => by
  obtain ⟨_, ob, e⟩ := H.off j p _ hp hown
  exact absurd (Heap.lt_size e) (Nat.lt_irrefl _)
theorem fr_call (hok : FOk cl mf fd.params fd.body fd.scope) (hnd : (binds'.map (·.1)).Nodup) (hg : fd.globals = mainGlobals) (hbi : fd.builtins = builtinsNs) (hcl : ∀ y n, getL' y cs = some n → ∃ q : Addr × Addr, ad[n]? = some q ∧ fd.closure.lookup (Str.ofString y) = some q.1) (hkw : All2 (KwR ad) binds binds') (H : HR X.w X.base σ ad s.heap)
    (hns : h₀.Ns s.heap.objs.size (fun x => binds'.reverse.lookup x)) : FrR X.base (callEnv fd s.heap.objs.size a) ⟨binds, cs, false⟩ ad h₀ :=
  ⟨hok.kind, hg, hbi, ⟨_, hns, fun y v e => let ⟨u, h1, h2⟩ := get_kw hkw e; ⟨u, (lookup_rev hnd _).trans h1, h2⟩⟩, hcl, own_none H, base_none H, fun e => nomatch e⟩
theorem no_cells (hok : FOk cl mf fd.params fd.body fd.scope) (hcell : mf.cells = []) : ∀ x ∈ fd.scope.names, x.2 ≠ .cell := fun x hx e => by
  have hc := hok.cells
  rw [hcell] at hc
  have hm : x.1 ∈ (fd.scope.names.filter fun y => y.2 == .cell).map (·.1) := List.mem_map.mpr ⟨x, List.mem_filter.mpr ⟨hx, by rw [e]; rfl⟩, rfl⟩
  rw [hc] at hm
  cases hm
theorem all_local (hok : FOk cl mf fd.params fd.body fd.scope) (hcell : mf.cells = []) (hz : binds'.map (·.1) = mf.params.map Str.ofString) : ∀ x ∈ binds', fd.scope.names.lookup x.1 = some .local := fun x hx => by
  have hm : x.1 ∈ binds'.map (·.1) := List.mem_map.mpr ⟨x, hx, rfl⟩
  rw [hz] at hm
  obtain ⟨y, hy, e⟩ := List.mem_map.mp hm
  have := hok.locs y hy
  rw [hcell] at this
  rw [← e]
  simpa using this
theorem code_fun (hF : Gd cl) {body : List Stmt} {o : Obj} (ho : s.heap.get? a = some o) (hd : o.data = .func fd) (hg : fd.globals = mainGlobals) (hbi : fd.builtins = builtinsNs) (hcode : s.heap.CodeRec fd.code fd.qualname) (hb : fd.body = .stmts body) (hok : FOk cl mf fd.params fd.body fd.scope) (hnd : mf.params.Nodup)
    (hcell : mf.cells = []) (hcl : ∀ y n, getL' y cs = some n → ∃ q : Addr × Addr, ad[n]? = some q ∧ fd.closure.lookup (Str.ofString y) = some q.1)
    (hnm : binds.map (·.1) = mf.params) (hbt : BindsTo s fd ⟨args', kw'⟩ binds') (hkw : All2 (KwR ad) binds binds')
    (D : ExsM X n mf.body ⟨binds, cs, false⟩ σ fl fr1 σ') (R : Room A (n + 1)) (H : HR X.w X.base σ ad s.heap) (k : Cont X.w X.base σ' ad (outOf fl) s (fun v s' => Rs (.ok (.ret v)) s')) : codeAny (model PR X.w) A (.call (.ref a) ⟨args', kw'⟩) Rs s := by
  have hz := kw_names hkw
  rw [hnm] at hz
  have hnd' : (binds'.map (·.1)).Nodup := by rw [hz]; exact nodup_of hnd
  have hdep := R.depth
  refine codeAny_call_def (by show A.depth < 1000; lia) ho hd (X.b.limit.keeps H.stays) hcode hb hbt (no_cells hok hcell) (all_local hok hcell hz) (fun h₀ hns hk => ?_) hok.coro hok.gen hok.kind
  have hT := hok.text
  rw [hb] at hT
  obtain ⟨j, hT⟩ := hT
  refine D.go hT ⟨hF, rfl, R.deeper _, fr_call hok hnd' hg hbi hcl hkw H hns, H.keep hk⟩ fun ad' h' tk f st F' H' hf => ?_
  have stp := back_step (Heap.get?_none_of_le (Nat.le_refl _)) hk st
  cases hf with
  | next => exact k ad' h' tk .none stp H' .none
  | ret hv => exact k ad' h' tk _ stp H' hv
theorem call_lam (hF : Gd cl) {body : Expr} {o : Obj} {E Q : Value → Shared → Prop} (ho : s.heap.get? a = some o) (hd : o.data = .func fd) (hg : fd.globals = mainGlobals) (hbi : fd.builtins = builtinsNs) (hcode : s.heap.CodeRec fd.code fd.qualname) (hb : fd.body = .expr body) (hok : FOk cl mf fd.params fd.body fd.scope) (hdf : fd.defaults = .none) (hnd : mf.params.Nodup)
    (hcell : mf.cells = []) (hcl : ∀ y n, getL' y cs = some n → ∃ q : Addr × Addr, ad[n]? = some q ∧ fd.closure.lookup (Str.ofString y) = some q.1) (hlen : mf.params.length = args.length)
    (D : ∀ me, mf.body = [.ret me] → EvM X n ⟨mf.params.zip args, cs, false⟩ me σ v σ') (R : Room A (n + 1)) (H : HR X.w X.base σ ad s.heap) (ha : All2 (VR ad) args args') (k : Cont X.w X.base σ' ad v s Q) : wpAny (model PR X.w) A (call (.ref a) args') Q E s := by
  have hpn := hok.names
  have hon := hok.only
  have hal := ha.length
  have hpl : fd.params.args.length = mf.params.length := by
    have := congrArg List.length hpn
    rwa [List.length_map, List.length_map] at this
  have hnd' : (fd.params.args.map (·.arg)).Nodup := by rw [hpn]; exact nodup_of hnd
  have hz : ((fd.params.args.map (·.arg)).zip args').map (·.1) = fd.params.args.map (·.arg) := List.map_fst_zip (by rw [List.length_map]; lia)
  have hdep := R.depth
  have hkw : All2 (KwR ad) (mf.params.zip args) ((fd.params.args.map (·.arg)).zip args') := by rw [hpn]; exact kw_zip ha
  refine wpAny_call (kla_callFunE (by show A.depth < 1000; lia) ho hd hok.coro hok.gen hb hcode ?_)
  rw [bind_plain hon.1 hon.2.1 hon.2.2.1 hon.2.2.2.1 hdf hnd' (by lia)]
  refine wpAny_pure (wpAny_newFunctionEnv (no_cells hok hcell) (all_local hok hcell (hz.trans hpn)) (fun h₀ hns hsb => ⟨(X.b.limit.keeps H.stays).fresh _ hsb, kla_codeExpr ?_⟩) hok.kind)
  have hk : ∀ b o, s.heap.get? b = some o → h₀.get? b = some o := fun b o e => hsb.extBut b o (Nat.ne_of_lt (Heap.lt_size e)) (Heap.get?_push_of_some _ e)
  have hT := hok.text
  rw [hb] at hT
  obtain ⟨j, me, hme, hTe⟩ := hT
  refine (D me hme).go hTe ⟨hF, rfl, R.deeper _, fr_call hok (by rw [hz]; exact hnd') hg hbi hcl hkw H hns, H.keep hk⟩ fun ad' h' tk z st H' hz => ?_
  exact k ad' h' tk z (back_step (Heap.get?_none_of_le (Nat.le_refl _)) hk st.toL) H' hz
end
theorem binds_plain {mf : MFun} {cl : Nat → Arguments → FuncBody → Scope → Bool} {fd : FuncData} {s : Shared} {ad : AD} {args : List MV} {args' : List Value} (hok : FOk cl mf fd.params fd.body fd.scope) (hdf : fd.defaults = .none) (hdd : mf.dflt = []) (hnd : mf.params.Nodup)
    (hlen : mf.params.length = args.length) (ha : All2 (VR ad) args args') : ∃ binds', (mf.params.zip args).map (·.1) = mf.params ∧ BindsTo s fd ⟨args', []⟩ binds' ∧ All2 (KwR ad) (mf.params.zip args) binds' := by
  have hpn := hok.names
  have hon := hok.only
  have hal := ha.length
  have hpl : fd.params.args.length = mf.params.length := by
    have := congrArg List.length hpn
    rwa [List.length_map, List.length_map] at this
  have hnd' : (fd.params.args.map (·.arg)).Nodup := by rw [hpn]; exact nodup_of hnd
  refine ⟨_, List.map_fst_zip (by lia), BindsTo.of_eq (bind_plain hon.1 hon.2.1 hon.2.2.1 hon.2.2.2.1 hdf hnd' (by lia)), ?_⟩
  rw [hpn]
  exact kw_zip ha
theorem fm_fn (h2 : funTab a = some mf) (hdd : mf.dflt.isEmpty = true) (hc : mf.cells.isEmpty = true) (hl : mf.params.length = args.length) (D : ExsM X n mf.body ⟨mf.params.zip args, [], false⟩ σ fl fr1 σ') : FnM X (n + 1) a args [] σ (outOf fl) σ' := ⟨fun {ad A s args' kw' Rs} R H ha hkw k => by
  cases hkw
  obtain ⟨oc, od, fd, osl, hl', hg, hclo, hbi, hcd, ⟨b, hb⟩, hdn, hnd, hok⟩ := (funK X.w.params h2).ex
  have XK := X.b.k.keeps H.stays
  obtain ⟨binds', h1, h2, h3⟩ := binds_plain (s := s) hok (hdn (List.isEmpty_iff.mp hdd)) (List.isEmpty_iff.mp hdd) hnd hl ha
  exact code_fun noF (XK _ _ hl') rfl hg hbi (codeRec_of XK hcd) hb hok hnd (List.isEmpty_iff.mp hc) (fun y n e => by cases e) h1 h2 h3 D R H k⟩
theorem keep_fun {w : World} (h : funTab a = some mf) : keepIn (KK w) (.ref a) = true := by
  obtain ⟨oc, od, fd, osl, hl, _⟩ := (funK w.params h).ex
  have hl' : List.lookup a (KK w) = some ⟨oc, od, .func fd, osl⟩ := hl
  unfold keepIn
  dsimp only
  rw [hl']
theorem cm_top (h2 : funTab a = some mf) (D : FnM X n a args kw σ v σ') : CaM X n (.top a) args kw σ v σ' := ⟨fun H hf => by
  cases hf.isTop
  exact ⟨keeps_K (keep_fun h2) _ (X.b.k.keeps H.stays), fun R ha hkw k => wpAny_call (D.go R H ha hkw k)⟩⟩
theorem cm_new {c fi : Nat} (hi : initTab c = some fi) (D : FnM X n fi (.loc σ.next :: args) kw (σ.new (.inst c [])) .none σ') : CaM X (n + 1) (.top c) args kw σ (.loc σ.next) σ' := ⟨fun {ad s f'} H hf => by
  cases hf.isTop
  obtain ⟨hm, hfi, ht, hkp⟩ := and4 (List.all_eq_true.mp (make_all X.w.params) _ (mem_initList hi))
  have XK := X.b.k.keeps H.stays
  refine ⟨keeps_K hkp _ XK, fun {A args' kw' E Q} R ha hkw k => wpAny_call ?_⟩
  obtain ⟨hh, g, d, t, os⟩ := s
  refine make_core (makes_of XK hm) (looks_findIn XK (isRf_eq hfi)) (fun self => bind_fn XK self (isTyp_eq ht)) (.inl rfl) ?_
  have hk : ∀ b o, hh.get? b = some o → ((hh.push emptyDict).push (instObj c hh.objs.size)).get? b = some o := fun b o e => Heap.get?_push_of_some _ (Heap.get?_push_of_some _ e)
  have hx : ((hh.push emptyDict).push (instObj c hh.objs.size)).get? (hh.objs.size + 1) = some (instObj c hh.objs.size) := by
    have := Heap.get?_push_size (h := hh.push emptyDict) (o := instObj c hh.objs.size) rfl
    rwa [Heap.size_push] at this
  have hdx : ((hh.push emptyDict).push (instObj c hh.objs.size)).get? hh.objs.size = some (dictOf [] 0) := Heap.get?_push_of_some _ (Heap.get?_push_size _ rfl)
  obtain ⟨H1, st1⟩ := H.new (p := (hh.objs.size + 1, hh.objs.size)) (o := .inst c []) hk (fun b hb => by
    rcases hb with e | e
    · rw [e]; exact ⟨Heap.get?_none_of_le (Nat.le_succ _), _, hx⟩
    · rw [e]; exact ⟨Heap.get?_none_of_le (Nat.le_refl _), _, hdx⟩) ⟨hx, [], 0, hdx, .nil⟩
  have hn := H.at_new (hh.objs.size + 1, hh.objs.size)
  refine D.go (s := ⟨_, g, d, t, os⟩) R.make H1 (.cons (.loc hn) (ha.mono fun _ _ r => r.mono st1.ext)) (hkw.mono fun _ _ r => ⟨r.1, r.2.mono st1.ext⟩) fun ad' h' tk v st H' hv => ?_
  cases hv
  exact ⟨rfl, k ad' h' tk _ (st1.trans H1 st) H' (.loc (st.ext _ _ hn))⟩⟩
theorem cm_bi {f : String} (D : BiM X.w X.base (.builtin f) args σ v σ') : CaM X n (.bi f) args [] σ v σ' := ⟨fun H hf => by
  cases hf
  exact ⟨⟨.machine, .inr (.inl rfl), Looks.of_pure rfl⟩, fun R ha hkw k => by cases hkw; exact D.go R.zero H ha k⟩⟩
theorem cm_typ {f : String} (D : BiM X.w X.base (.type f) args σ v σ') : CaM X n (.typ f) args [] σ v σ' := ⟨fun H hf => by
  cases hf
  exact ⟨⟨.machine, .inr (.inl rfl), Looks.of_pure rfl⟩, fun R ha hkw k => by cases hkw; exact D.go R.zero H ha k⟩⟩
theorem lam_nd {j : Nat} (h : lamTab j = some mf) : mf.params.Nodup := by
  unfold lamTab at h
  split at h <;> first | (cases h; exact (by decide)) | cases h
theorem cm_loc {c : Nat} (g : σ.obj c = some (.fn k cs)) (hm : lamTab k = some mf) (hl : mf.params.length = args.length) (D : ExsM X n mf.body ⟨mf.params.zip args, cs, false⟩ σ fl fr1 σ') (D2 : ∀ me, mf.body = [.ret me] → EvM X n ⟨mf.params.zip args, cs, false⟩ me σ (outOf fl) σ') : CaM X (n + 1) (.loc c) args [] σ (outOf fl) σ' := ⟨fun {ad s f'} H hf => by
  obtain ⟨p, hp, rfl, o, name, qual, params, body, scope, clos, doc, pm, ct, ho, hd, hrec, hcl, hcs⟩ := H.at g hf
  refine ⟨⟨.frame, .inl rfl, (Looks.ld (part := none) ho).andThen (by rw [hd]; exact .now)⟩, fun {A args' kw' E Q} R ha hk k => ?_⟩
  cases hk
  obtain ⟨mf', hmf', hce, hdf, hok, hnc, _⟩ := clF_ok hcl
  rw [hm] at hmf'
  cases hmf'
  have hnd := lam_nd hm
  cases body with
  | stmts b =>
    obtain ⟨binds', h1, h2, h3⟩ := binds_plain (fd := fnD name qual params (.stmts b) scope clos doc pm (.ref p.2) ct) (s := s) hok rfl hdf hnd hl ha
    exact wpAny_call (code_fun noF ho hd rfl rfl hrec rfl hok hnd hce hcs h1 h2 h3 D R H k)
  | expr b => exact call_lam noF ho hd rfl rfl hrec rfl hok rfl hnd hce hcs hl D2 R H ha k⟩
theorem cm_ret {c : Nat} (g : σ.obj c = some (.fn k cs)) (hm : lamTab k = some mf) (hb : mf.body = [.ret m]) (hl : mf.params.length = args.length) (D : EvM X n ⟨mf.params.zip args, cs, false⟩ m σ v σ') : CaM X (n + 1) (.loc c) args [] σ v σ' :=
  cm_loc (fl := .ret v) g hm hl (by rw [hb]; exact xms_stop (xm_ret D)) fun me e => by rw [hb] at e; cases e; exact D
end
end Mine
end
section
open PySem PySem.W PySem.Calls PyProof.Rows
set_option maxRecDepth 100000
namespace Mine
noncomputable def isB (c : Bool) : Value → Bool
  | .bool b => b == c
  | _ => false
noncomputable def isI (c : Int) : Value → Bool
  | .int i _ => i == c
  | _ => false
noncomputable def dfV (v : Value) : MV → Bool
  | .bool c => isB c v
  | .int c => isI c v
  | _ => false
theorem dfV_ok {ad : AD} {v : Value} {m : MV} (h : dfV v m = true) : VR ad m v := by
  unfold dfV at h
  split at h
  · unfold isB at h
    split at h
    · rw [eq_of_beq h]; exact .bool _
    · exact fnt h
  · unfold isI at h
    split at h
    · rw [eq_of_beq h]; exact .int _ _
    · exact fnt h
  · exact fnt h
noncomputable def dfB : List Value → List (String × MV) → Bool
  | [], d => d.isEmpty
  | v :: r, d => match d with
    | [] => false
    | m :: d => dfV v m.2 && dfB r d
theorem dfB_ok {ad : AD} : ∀ {l : List Value} {d : List (String × MV)}, dfB l d = true → All2 (VR ad) (d.map (·.2)) l
  | [], d, h => by cases d with
    | nil => exact .nil
    | cons _ _ => exact fnt h
  | v :: r, d, h => by cases d with
    | nil => exact fnt h
    | cons m d => exact .cons (dfV_ok (and2 h).1) (dfB_ok (and2 h).2)
noncomputable def dfK (K : Frag) (a : Nat) (mf : MFun) : Bool := match K.lookup a with
  | some ⟨_, _, .func fd, _⟩ => (match fd.defaults with
    | .ref T => (match K.lookup T with
      | some ⟨_, _, .seq items _, _⟩ => dfB items.toList mf.dflt
      | _ => false)
    | _ => false)
  | _ => false
theorem df_all (P : Params) : ([191, 620] : List Nat).all (fun a => match funTab a with | some mf => dfK (KF P) a mf | none => false) = true := by kernel_rfl
theorem dfK_ok {K : Frag} {a : Nat} {mf : MFun} {oc : Value} {od : Option Addr} {fd : FuncData} {osl : Array (Option Value)} (h : dfK K a mf = true) (e : K.lookup a = some ⟨oc, od, .func fd, osl⟩) :
    ∃ T o items n, fd.defaults = .ref T ∧ K.lookup T = some o ∧ o.data = .seq items n ∧ dfB items.toList mf.dflt = true := by
  unfold dfK at h
  rw [e] at h
  dsimp only at h
  split at h
  · rename_i T hT
    split at h
    · rename_i oc' od' items n osl' e'
      exact ⟨T, _, items, n, hT, e', rfl, h⟩
    · cases h
  · cases h
theorem args_cons {as : List Arg} {n : Str} {ns : List Str} (h : as.map (·.arg) = n :: ns) : ∃ an p r, as = ⟨n, an, p⟩ :: r ∧ r.map (·.arg) = ns := by
  obtain ⟨⟨_, an, p⟩, r, rfl, rfl, rfl⟩ := List.map_eq_cons_iff.mp h
  exact ⟨an, p, r, rfl, rfl⟩
theorem bind_ref {fd : FuncData} {s : Shared} {v1 v2 d : Value} {T : Addr} {o : Obj} {n : Nat} (h1 : fd.params.posonlyargs = []) (h2 : fd.params.vararg = none) (h3 : fd.params.kwonlyargs = []) (h4 : fd.params.kwarg = none) (hn : fd.params.args.map (·.arg) = ["self", "target", "is_weak"].map Str.ofString)
    (hd : fd.defaults = .ref T) (ho : s.heap.get? T = some o) (hs : o.data = .seq #[d] n) : BindsTo s fd ⟨[v1, v2], []⟩ [(Str.ofString "self", v1), (Str.ofString "target", v2), (Str.ofString "is_weak", d)] := by
  obtain ⟨_, _, ⟨_, as, _, _, _, _, _⟩, _, _, _, _, _, _, _, _, _, _, _, _⟩ := fd
  cases h1; cases h2; cases h3; cases h4; cases hd
  have hn0 : as.map (·.arg) = _ := hn
  obtain ⟨_, _, _, rfl, hn1⟩ := args_cons hn0
  obtain ⟨_, _, _, rfl, hn2⟩ := args_cons hn1
  obtain ⟨_, _, _, rfl, hn3⟩ := args_cons hn2
  cases List.map_eq_nil_iff.mp hn3
  exact BindsTo.of_defaults rfl ho hs rfl rfl
theorem bind_lim {fd : FuncData} {s : Shared} {v1 v6 d2 d3 d4 d5 d6 : Value} {T : Addr} {o : Obj} {n : Nat} (h1 : fd.params.posonlyargs = []) (h2 : fd.params.vararg = none) (h3 : fd.params.kwonlyargs = []) (h4 : fd.params.kwarg = none)
    (hn : fd.params.args.map (·.arg) = ["self", "width", "depth", "steps", "text", "items"].map Str.ofString)
    (hd : fd.defaults = .ref T) (ho : s.heap.get? T = some o) (hs : o.data = .seq #[d2, d3, d4, d5, d6] n) : BindsTo s fd ⟨[v1], [(Str.ofString "items", v6)]⟩ [(Str.ofString "self", v1), (Str.ofString "width", d2), (Str.ofString "depth", d3), (Str.ofString "steps", d4), (Str.ofString "text", d5), (Str.ofString "items", v6)] := by
  obtain ⟨_, _, ⟨_, as, _, _, _, _, _⟩, _, _, _, _, _, _, _, _, _, _, _, _⟩ := fd
  cases h1; cases h2; cases h3; cases h4; cases hd
  have hn0 : as.map (·.arg) = _ := hn
  obtain ⟨_, _, _, rfl, hn1⟩ := args_cons hn0
  obtain ⟨_, _, _, rfl, hn2⟩ := args_cons hn1
  obtain ⟨_, _, _, rfl, hn3⟩ := args_cons hn2
  obtain ⟨_, _, _, rfl, hn4⟩ := args_cons hn3
  obtain ⟨_, _, _, rfl, hn5⟩ := args_cons hn4
  obtain ⟨_, _, _, rfl, hn6⟩ := args_cons hn5
  cases List.map_eq_nil_iff.mp hn6
  exact BindsTo.of_defaults rfl ho hs rfl rfl
theorem get_setL {y z : String} {v : MV} : ∀ l : List (String × MV), getL' z (setL y v l) = if y = z then some v else getL' z l
  | [] => by
    unfold setL getL'
    by_cases q : y = z
    · rw [if_pos q, if_pos q]
    · rw [if_neg q, if_neg q]; rfl
  | (a, b) :: l => by
    have ih := get_setL (y := y) (z := z) (v := v) l
    unfold setL
    by_cases q : a = y
    · subst q
      rw [if_pos rfl]
      unfold getL'
      by_cases q : a = z
      · rw [if_pos q, if_pos q]
      · rw [if_neg q, if_neg q, if_neg q]
    · rw [if_neg q]
      unfold getL'
      rw [ih]
      by_cases r : a = z
      · subst r
        rw [if_pos rfl, if_pos rfl, if_neg fun e => q e.symm]
      · rw [if_neg r, if_neg r]
noncomputable def S0 : MS := ⟨fun _ => none, 0⟩
noncomputable def scal : MV → Bool
  | .int _ => true
  | .str _ => true
  | _ => false
theorem VR.scal {a b : AD} {m : MV} {v : Value} (h : VR a m v) (hm : Mine.scal m = true) : VR b m v := by
  cases h <;> first | exact fnt hm | constructor
section
variable {X : Wb} {n : Nat} {fr fr1 : MF} {σ σ1 σ' : MS} {m : ME} {v : MV} {args : List MV} {x : String} {fl : MFl} {sts : List MSt} {d a : Nat} {l l' : List (String × MV)} {es : List (Str × MV)} {mf : MFun}
theorem pre0 (a : AD) : Pre [] a := fun n p e => by simp at e
theorem xm_forD (D : EvM X n fr m σ (.loc d) σ1) (g : σ1.obj d = some (.dS es)) (hl : ∀ y v, getL' y l = some v → getL' y fr.loc = some v ∧ scal v = true) (W : FoM X n x sts (fun _ => True) (es.map fun e : Str × MV => .str e.1) ⟨l, [], false⟩ S0 fl ⟨l', [], false⟩ S0) : ExM X n (.forL x m sts) fr σ fl ⟨l', [], false⟩ σ1 := ⟨fun {cl ns j st env ad A s E Q} hc a k => by
  cases j; exact fnt hc
  refine sFor_el hc fun t' e' b' o p g1 => nil_el (and5 g1).1 (vName_el (and5 g1).2.1 fun y xp g2 => ?_)
  refine wpAny_For (D.go (and5 g1).2.2.2.1 a fun ad1 h1 tk1 z1 st1 H1 hz1 => ?_) (folded (and5 g1).2.2.1 env)
  obtain ⟨q, hq, rfl, lo, rs, Dd, hrs⟩ := HR.at (s := { s with heap := h1, toks := tk1 }) H1 g hz1
  obtain ⟨ep, hat⟩ := Dd.dictAt
  have F1 := a.F.step st1
  have hrl := hrs.length
  have hqL : q.1 ≠ env.locals := fun z => F1.own d q hq (.inl z.symm)
  have hq1 : ∃ ob, h1.get? q.1 = some ob := dictOf_get Dd
  have F2 : FrR X.base env ⟨l, [], false⟩ [] h1 := by
    obtain ⟨mm, hn, hl'⟩ := F1.loc
    refine ⟨F1.kind, F1.glob, F1.bi, ⟨mm, hn, fun y v e => ?_⟩, (fun y j e => nomatch e), (fun j p hp => by simp at hp), F1.off, (fun e => nomatch e)⟩
    obtain ⟨e1, e2⟩ := hl y v e
    obtain ⟨u, h1, h2⟩ := hl' y v e1
    exact ⟨u, h1, h2.scal e2⟩
  have H2 : HR X.w X.base S0 [] h1 := ⟨rfl, (fun n o e => nomatch e), (fun n m p q b e => by simp at e), (fun n p b e => by simp at e), H1.three, H1.stays⟩
  refine wpAny_pyIter_dict lo hat ?_
  refine for_go (s := { s with heap := h1, toks := tk1 }) (fun i ad h => h.IsKeyIter h1.objs.size q.1 i rs.length ep ∧ h.DictAt (PySem.strKind PR X.w) q.1 rs ep ∧ ∀ (n : Nat) (p : Addr × Addr), ad[n]? = some p → ¬ Own p q.1) W ⟨a.g, a.hs, a.R, F2, H2⟩ g2 (and5 g1).2.2.2.2 (.refl _ _) H2 (Heap.get?_none_of_le (Nat.le_refl _)) ⟨_, Heap.get?_push_size _ rfl⟩ (fun b o e => Heap.get?_push_of_some _ e)
    ⟨⟨_, Heap.get?_push_size _ rfl, rfl, rfl⟩, Heap.DictAt.keep hat fun b o e => Heap.get?_push_of_some _ e, fun n p e => by simp at e⟩ ?_ ?_ ?_ fun ad6 h6 tk6 f st6 F6 H6 hf => ?_
  · intro i v τ ad h tk E Q hv hG hN H K
    rw [List.getElem?_map, Option.map_eq_some_iff] at hv
    obtain ⟨e, hv, rfl⟩ := hv
    obtain ⟨z, hz1, hz2⟩ := hrs.get hv
    refine wpAny_pyNext_dict_item (s := { s with heap := h, toks := tk }) hN.1 hN.2.1 hz1 fun key' h4 hkey' hit4 hs4 => K key' h4 tk (by have := keyS (ad := ad) hkey'; rw [← hz2.1] at this; exact this) ⟨hit4, ?_, hN.2.2⟩ hs4 (let ⟨o, e, _⟩ := hit4; ⟨o, e⟩)
    obtain ⟨o, es', ho, r⟩ := hN.2.1
    exact ⟨o, es', (hs4.2 _ fun z => by obtain ⟨ob, e⟩ := hq1; rw [z, Heap.get?_none_of_le (Nat.le_refl _)] at e; cases e).trans ho, r⟩
  · intro i τ ad h tk E Q hv hG hN H K
    rw [List.length_map] at hv
    exact wpAny_pyNext_dict_end (s := { s with heap := h, toks := tk }) a.R.hand hN.1 hN.2.1 (List.getElem?_eq_none (by lia)) fun h4 hx4 => K h4 hx4
  · intro i ad h ad' h' hN hk st
    obtain ⟨o, es', ho, r⟩ := hN.2.1
    exact ⟨let ⟨o, e, z⟩ := hN.1; ⟨o, hk o e, z⟩, ⟨o, es', st.keep _ _ hqL ho hN.2.2, r⟩, not_ours (base := X.base) st ⟨o, ho⟩ hN.2.2⟩
  · cases List.eq_nil_of_length_eq_zero H6.len
    have k16 : ∀ b o, b ≠ env.locals → h1.get? b = some o → h6.get? b = some o := fun b o nb e => st6.keep b o nb e fun n p e => by simp at e
    refine k ad1 h6 tk6 f ⟨st1.ext, fun b o nb e hn => k16 b o nb (st1.keep b o e hn), st1.fresh⟩ ⟨F6.kind, F6.glob, F6.bi, let ⟨mm, h1, h2⟩ := F6.loc; ⟨mm, h1, fun y v e => let ⟨u, h3, h4⟩ := h2 y v e; ⟨u, h3, h4.mono (pre0 _)⟩⟩, (fun y j e => nomatch e), F1.own, F1.off, (fun e => nomatch e)⟩ ?_ ?_
    · exact ⟨H1.len, fun n o e => let ⟨p, hp, r⟩ := H1.obj n o e; ⟨p, hp, r.keep (.refl _) fun c ob oc e => k16 c ob (fun z => F1.own n p hp (z ▸ oc)) e⟩, H1.apart, fun n p b e ho => let ⟨a, o, d⟩ := H1.off n p b e ho; ⟨a, o, k16 b o (fun z => F1.own n p e (z ▸ ho)) d⟩, H1.three, fun b o e => k16 b o (fun z => by rw [z, F1.off] at e; cases e) (H1.stays b o e)⟩
    · cases hf with
      | next => exact .next
      | ret hv => exact .ret (hv.mono (pre0 _))⟩
end
end Mine
end
section
open PySem PySem.W PySem.Calls PyProof.Rows
set_option maxRecDepth 100000
namespace Mine
section
variable {X : Wb} {n : Nat} {fr fr1 : MF} {σ σ' : MS} {v : MV} {args : List MV} {x : String} {fl : MFl} {a : Nat} {mf : MFun}
theorem call_cell {fd : FuncData} {body : List Stmt} {o : Obj} {ad : AD} {A : Around} {s : Shared} {args' : List Value} {Rs : Result → Shared → Prop}
    (ho : s.heap.get? a = some o) (hd : o.data = .func fd) (hg : fd.globals = mainGlobals) (hbi : fd.builtins = builtinsNs) (hcode : s.heap.CodeRec fd.code fd.qualname) (hb : fd.body = .stmts body) (hok : FOk noCl mf fd.params fd.body fd.scope) (hdf : fd.defaults = .none) (hnd : mf.params.Nodup)
    (hcell : mf.cells = [x]) (hclo : fd.closure = []) (hlen : args.length = mf.params.length)
    (D : ExsM X n mf.body ⟨(mf.params.zip args).filter fun b => !([x] : List String).contains b.1, [(x, σ.next)], false⟩ (σ.new (.cell (getL' x (mf.params.zip args)))) fl fr1 σ') (R : Room A (n + 1)) (H : HR X.w X.base σ ad s.heap) (ha : All2 (VR ad) args args')
    (k : Cont X.w X.base σ' ad (outOf fl) s (fun v s' => Rs (.ok (.ret v)) s')) : codeAny (model PR X.w) A (.call (.ref a) ⟨args', []⟩) Rs s := by
  have hpn := hok.names
  have hon := hok.only
  have hal := ha.length
  have hpl : fd.params.args.length = mf.params.length := by
    have := congrArg List.length hpn
    rwa [List.length_map, List.length_map] at this
  have hnd' : (fd.params.args.map (·.arg)).Nodup := by rw [hpn]; exact nodup_of hnd
  have hz : ((fd.params.args.map (·.arg)).zip args').map (·.1) = fd.params.args.map (·.arg) := List.map_fst_zip (by rw [List.length_map]; lia)
  have hdep := R.depth
  have hc := hok.cells
  rw [hcell] at hc
  have hcf : ∀ m, cellsFrom m fd.scope.names [] = [(Str.ofString x, m)] := fun m => cellsFrom_one hc
  have hxc : fd.scope.names.lookup (Str.ofString x) ≠ some .local ∨ x ∉ mf.params := by
    by_cases q : x ∈ mf.params
    · left
      have := hok.locs x q
      rw [hcell] at this
      simp at this
      rw [this]
      intro e; cases e
    · exact .inr q
  refine (codeAny_call_cells (by show A.depth < 1000; lia) ho hd (X.b.limit.keeps H.stays) hcode hb (bind_plain hon.1 hon.2.1 hon.2.2.1 hon.2.2.2.1 hdf hnd' (by lia)) hclo (fun y hy => ?_) (fun s₁ X₁ => ?_) hok.coro hok.gen hok.kind)
  · have hm : y.1 ∈ fd.params.args.map (·.arg) := by rw [← hz]; exact List.mem_map.mpr ⟨y, hy, rfl⟩
    rw [hpn] at hm
    obtain ⟨z, hz', e⟩ := List.mem_map.mp hm
    have := hok.locs z hz'
    rw [hcell] at this
    rw [← e]
    by_cases q : z = x
    · subst q
      right
      refine ⟨by simpa using this, ?_⟩
      rw [hcf]
      simp [List.lookup_cons]
    · left
      simpa [q] using this
  · obtain ⟨h₁, tk₁, rfl⟩ := X₁.toInCall.same
    have hLn : s.heap.get? s.heap.objs.size = none := Heap.get?_none_of_le (Nat.le_refl _)
    have hCn : s.heap.get? (s.heap.objs.size + 1) = none := Heap.get?_none_of_le (Nat.le_succ _)
    have hk : ∀ b o, s.heap.get? b = some o → h₁.get? b = some o := X₁.toInCall.keep
    have hbn : ∀ b, s.heap.get? b = none → X.base.get? b = none := fun b hb => by
      cases z : X.base.get? b with
      | none => rfl
      | some ob => rw [H.stays _ _ z] at hb; cases hb
    have hcells : (callEnvC fd s.heap.objs.size a).cells = [(Str.ofString x, s.heap.objs.size + 1)] := hcf _
    have hlk : ([(Str.ofString x, s.heap.objs.size + 1)] : List (Str × Addr)).lookup (Str.ofString x) = some (s.heap.objs.size + 1) := by
      have e1 : List.lookup (Str.ofString x) [(Str.ofString x, s.heap.objs.size + 1)] = (match Str.ofString x == Str.ofString x with | true => some (s.heap.objs.size + 1) | false => none) := List.lookup_cons ..
      rw [e1, beq_self_eq_true]
    obtain ⟨oc, hoc, hdc⟩ := X₁.cell (Str.ofString x) (s.heap.objs.size + 1) (by rw [hcells]; exact hlk)
    have hkd : ∀ z, (callEnvC fd s.heap.objs.size a).kindOf z = fd.scope.names.lookup z := fun z => rfl
    have hzl : ((fd.params.args.map (·.arg)).zip args') = (mf.params.map Str.ofString).zip args' := by rw [hpn]
    have hnd2 : (((fd.params.args.map (·.arg)).zip args').map (·.1)).Nodup := by rw [hz]; exact hnd'
    have hcel : ObjAt X.w X.base (ad ++ [(s.heap.objs.size + 1, s.heap.objs.size + 1)]) h₁ (s.heap.objs.size + 1, s.heap.objs.size + 1) (.cell (getL' x (mf.params.zip args))) := by
      refine ⟨oc, _, hoc, hdc, ?_⟩
      cases hg' : getL' x (mf.params.zip args) with
      | some v =>
        obtain ⟨u, h1, h2⟩ := get_zip ha hnd hg'
        have hxp : x ∈ mf.params := by
          by_cases q : x ∈ mf.params
          · exact q
          · have : (mf.params.map Str.ofString).zip args' = (mf.params.map Str.ofString).zip args' := rfl
            have hm' : Str.ofString x ∈ ((mf.params.map Str.ofString).zip args').map (·.1) := List.mem_map.mpr ⟨_, mem_of_lookup h1, rfl⟩
            rw [List.map_fst_zip (by rw [List.length_map]; lia)] at hm'
            obtain ⟨z, hz', e⟩ := List.mem_map.mp hm'
            rw [← cps_inj e] at q
            exact absurd hz' q
        have hnl : ¬ (callEnvC fd s.heap.objs.size a).kindOf (Str.ofString x) = some .local := by
          rw [hkd]
          rcases hxc with h | h
          · exact h
          · exact absurd hxp h
        rw [bindC_get hnl hnd2 (by rw [hzl]; exact h1)]
        exact h2.mono (.snoc _ _)
      | none =>
        have hxn := get_none (by lia) hg'
        rw [bindC_skip (by
          rw [hz, hpn]
          intro hm'
          obtain ⟨z, hz', e⟩ := List.mem_map.mp hm'
          rw [cps_inj e] at hz'
          exact hxn hz')]
        trivial
    have H1 : HR X.w X.base (σ.new (.cell (getL' x (mf.params.zip args)))) (ad ++ [(s.heap.objs.size + 1, s.heap.objs.size + 1)]) h₁ :=
      (H.keep hk).adopt (p := (s.heap.objs.size + 1, s.heap.objs.size + 1)) (fun b ob _ e => e) (fun b hb => by
        have : b = s.heap.objs.size + 1 := by rcases hb with e | e <;> exact e
        subst this
        refine ⟨fun j p hp hown => ?_, hbn _ hCn, _, hoc⟩
        obtain ⟨_, ob, e⟩ := H.off j p _ hp hown
        rw [hCn] at e; cases e) hcel
    have at_ : ∀ {j : Nat} {q : Addr × Addr}, (ad ++ [(s.heap.objs.size + 1, s.heap.objs.size + 1)])[j]? = some q → ad[j]? = some q ∨ q = (s.heap.objs.size + 1, s.heap.objs.size + 1) := fun {j q} e => by
      by_cases l : j < ad.length
      · rw [List.getElem?_append_left l] at e; exact .inl e
      · rw [List.getElem?_append_right (Nat.not_lt.mp l)] at e
        cases z : j - ad.length with
        | zero => rw [z] at e; simp at e; exact .inr e.symm
        | succ i => rw [z] at e; simp at e
    have F0 : FrR X.base (callEnvC fd s.heap.objs.size a) ⟨(mf.params.zip args).filter fun b => !([x] : List String).contains b.1, [(x, σ.next)], false⟩ (ad ++ [(s.heap.objs.size + 1, s.heap.objs.size + 1)]) h₁ := by
      refine ⟨hok.kind, hg, hbi, ⟨_, X₁.toInCall.ns, fun y v e => ?_⟩, fun y j e => ?_, fun j p hp hown => ?_, hbn _ hLn, fun e => by cases e⟩
      · obtain ⟨hyx, e⟩ := get_filter e
        obtain ⟨u, h1, h2⟩ := get_zip ha hnd e
        refine ⟨u, bindL_get ?_ hnd2 (by rw [hzl]; exact h1), h2.mono (.snoc _ _)⟩
        have hm' : Str.ofString y ∈ ((mf.params.map Str.ofString).zip args').map (·.1) := List.mem_map.mpr ⟨_, mem_of_lookup h1, rfl⟩
        rw [List.map_fst_zip (by rw [List.length_map]; lia)] at hm'
        obtain ⟨z, hz', e⟩ := List.mem_map.mp hm'
        have hyp : y ∈ mf.params := by rw [← cps_inj e]; exact hz'
        have := hok.locs y hyp
        rw [hcell] at this
        rw [hkd]
        simpa [hyx] using this
      · unfold getL' at e
        by_cases q : x = y
        · subst q
          rw [if_pos rfl] at e
          cases e
          exact ⟨_, H.at_new _, by rw [hcells]; exact hlk⟩
        · rw [if_neg q] at e; cases e
      · rcases at_ hp with hp | rfl
        · obtain ⟨_, ob, e⟩ := H.off j p _ hp hown
          exact absurd (Heap.lt_size e) (Nat.lt_irrefl _)
        · have : s.heap.objs.size = s.heap.objs.size + 1 := by rcases hown with e | e <;> exact e
          lia
    have hT := hok.text
    rw [hb] at hT
    obtain ⟨jT, hT⟩ := hT
    refine D.go hT ⟨noF, rfl, R.deeper _, F0, H1⟩ fun ad' h' tk f st F' H' hf => ?_
    have stp : Step ad s.heap ad' h' := by
      refine ⟨(Pre.snoc _ _).trans st.ext, fun b ob e hn => ?_, fun j p b e hj hown => ?_⟩
      · refine st.keep b ob (fun z => ?_) (hk b ob e) fun j p hp hown => ?_
        · rw [z] at e
          exact absurd (Heap.lt_size e) (Nat.lt_irrefl _)
        · rcases at_ hp with hp | rfl
          · exact hn j p hp hown
          · have : b = s.heap.objs.size + 1 := by rcases hown with e | e <;> exact e
            rw [this, hCn] at e; cases e
      · by_cases l : j < (ad ++ [(s.heap.objs.size + 1, s.heap.objs.size + 1)]).length
        · have e1 : (ad ++ [(s.heap.objs.size + 1, s.heap.objs.size + 1)])[j]? = some (ad ++ [(s.heap.objs.size + 1, s.heap.objs.size + 1)])[j] := List.getElem?_eq_getElem l
          have e2 := st.ext _ _ e1
          rw [e] at e2
          cases e2
          rcases at_ e1 with hp | hp
          · exact absurd (List.getElem?_eq_some_iff.mp hp).1 (Nat.not_lt.mpr hj)
          · rw [hp] at hown
            have : b = s.heap.objs.size + 1 := by rcases hown with e | e <;> exact e
            rw [this]; exact hCn
        · have := st.fresh j p b e (Nat.not_lt.mp l) hown
          cases z : s.heap.get? b with
          | none => rfl
          | some ob => rw [hk b ob z] at this; cases this
    have := k ad' h' tk
    cases hf with
    | next => exact this .none stp H' .none
    | ret hv => exact this _ stp H' hv
theorem fm_cell (h2 : funTab a = some mf) (hdd : mf.dflt.isEmpty = true) (hc : mf.cells = [x]) (hl : args.length = mf.params.length)
    (D : ExsM X n mf.body ⟨(mf.params.zip args).filter fun b => !([x] : List String).contains b.1, [(x, σ.next)], false⟩ (σ.new (.cell (getL' x (mf.params.zip args)))) fl fr1 σ') : FnM X (n + 1) a args [] σ (outOf fl) σ' := ⟨fun {ad A s args' kw' Rs} R H ha hkw k => by
  cases hkw
  obtain ⟨oc, od, fd, osl, hl', hg, hclo, hbi, hcd, ⟨b, hb⟩, hdn, hnd, hok⟩ := (funK X.w.params h2).ex
  have XK := X.b.k.keeps H.stays
  exact call_cell (XK _ _ hl') rfl hg hbi (codeRec_of XK hcd) hb hok (hdn (List.isEmpty_iff.mp hdd)) hnd hc hclo hl D R H ha k⟩
theorem fm_191 {v1 v2 : MV} (D : ExsM X n b191 ⟨[("self", v1), ("target", v2), ("is_weak", .bool false)], [], false⟩ σ fl fr1 σ') : FnM X (n + 1) 191 [v1, v2] [] σ (outOf fl) σ' := ⟨fun {ad A s args' kw' Rs} R H ha hkw k => by
  cases hkw
  have hf : funTab 191 = some ⟨["self", "target", "is_weak"], [("is_weak", .bool false)], [], b191⟩ := rfl
  obtain ⟨oc, od, fd, osl, hl', hg, hclo, hbi, hcd, ⟨b, hb⟩, hdn, hnd, hok⟩ := (funK X.w.params hf).ex
  have XK := X.b.k.keeps H.stays
  have hon := hok.only
  obtain ⟨T, oT, items, m, e1, e2, e3, e4⟩ := dfK_ok (List.all_eq_true.mp (df_all X.w.params) 191 (by decide)) hl'
  obtain ⟨x1, x2, rfl, r1, r2⟩ := all2 ha
  obtain ⟨il⟩ := items
  obtain ⟨x3, rfl, r3⟩ := all1 (dfB_ok (ad := ad) e4)
  exact code_fun noF (XK _ _ hl') rfl hg hbi (codeRec_of XK hcd) hb hok hnd rfl (fun y n e => by cases e) rfl (bind_ref hon.1 hon.2.1 hon.2.2.1 hon.2.2.2.1 hok.names e1 (XK _ _ e2) e3) (.cons ⟨rfl, r1⟩ (.cons ⟨rfl, r2⟩ (.cons ⟨rfl, r3⟩ .nil))) D R H k⟩
theorem fm_620 {v1 v2 : MV} (D : ExsM X n b620 ⟨[("self", v1), ("width", .int 64), ("depth", .int 50), ("steps", .int 1000000), ("text", .int 100000), ("items", v2)], [], false⟩ σ fl fr1 σ') : FnM X (n + 1) 620 [v1] [("items", v2)] σ (outOf fl) σ' := ⟨fun {ad A s args' kw' Rs} R H ha hkw k => by
  have hf : funTab 620 = some ⟨["self", "width", "depth", "steps", "text", "items"], [("width", .int 64), ("depth", .int 50), ("steps", .int 1000000), ("text", .int 100000), ("items", .int 10000)], [], b620⟩ := rfl
  obtain ⟨oc, od, fd, osl, hl', hg, hclo, hbi, hcd, ⟨b, hb⟩, hdn, hnd, hok⟩ := (funK X.w.params hf).ex
  have XK := X.b.k.keeps H.stays
  have hon := hok.only
  obtain ⟨T, oT, items, m, e1, e2, e3, e4⟩ := dfK_ok (List.all_eq_true.mp (df_all X.w.params) 620 (by decide)) hl'
  obtain ⟨x1, rfl, r1⟩ := all1 ha
  obtain ⟨⟨k1, k2⟩, rfl, rk1, rk2⟩ := all1 hkw
  dsimp only at rk1 rk2
  subst rk1
  obtain ⟨il⟩ := items
  have hdl := dfB_ok (ad := ad) e4
  cases hdl with
  | cons r2 t =>
  cases t with
  | cons r3 t =>
  cases t with
  | cons r4 t =>
  cases t with
  | cons r5 t =>
  cases t with
  | cons r6 t =>
  cases t
  exact code_fun noF (XK _ _ hl') rfl hg hbi (codeRec_of XK hcd) hb hok hnd rfl (fun y n e => by cases e) rfl (bind_lim hon.1 hon.2.1 hon.2.2.1 hon.2.2.2.1 hok.names e1 (XK _ _ e2) e3) (.cons ⟨rfl, r1⟩ (.cons ⟨rfl, r2⟩ (.cons ⟨rfl, r3⟩ (.cons ⟨rfl, r4⟩ (.cons ⟨rfl, r5⟩ (.cons ⟨rfl, rk2⟩ .nil)))))) D R H k⟩
theorem fd322 {key : Str} : ∀ (ks : List Str) (l : List (String × MV)) (i : Int), getL' "key" l = some (.str key) → getL' "place" l = some (.int i) →
    ∃ fl l', FoM X n "other" [.ite (.cmp .eq (.var "other") (.var "key")) [.ret (.var "place")] [], .aug (.var "place") .add (.int 1)] (fun _ => True) (ks.map .str) ⟨l, [], false⟩ S0 fl ⟨l', [], false⟩ S0 ∧ (fl = .ret (.int (keyPlace key ks i)) ∨ (fl = .next ∧ keyPlace key ks i = -1))
  | [], l, i, _, _ => ⟨_, _, .nil trivial, .inr ⟨rfl, rfl⟩⟩
  | x :: ks, l, i, hk, hp => by
    have e1 : getL' "other" (setL "other" (.str x) l) = some (.str x) := by rw [get_setL, if_pos rfl]
    have e2 : getL' "key" (setL "other" (.str x) l) = some (.str key) := by rw [get_setL, if_neg (by decide), hk]
    have e3 : getL' "place" (setL "other" (.str x) l) = some (.int i) := by rw [get_setL, if_neg (by decide), hp]
    have T : TeM X n ⟨setL "other" (.str x) l, [], false⟩ (.cmp .eq (.var "other") (.var "key")) S0 (x == key) S0 := tm_cmp (em_var e1) (em_var e2) km_str
    rw [keyPlace]
    by_cases q : x = key
    · rw [if_pos q]
      rw [show (x == key) = true by simpa using q] at T
      exact ⟨_, _, .ret trivial (xms_stop (xm_ite T (xms_stop (xm_ret (em_var e3))))), .inl rfl⟩
    · rw [if_neg q]
      rw [show (x == key) = false by simpa using q] at T
      obtain ⟨fl, l', W, h⟩ := fd322 ks (setL "place" (.int (i + 1)) (setL "other" (.str x) l)) (i + 1) (by rw [get_setL, if_neg (by decide)]; exact e2) (by rw [get_setL, if_pos rfl])
      exact ⟨fl, l', .cons trivial (xms_cons (xm_ite T xms_nil) (xms_cons (xm_augV e3 em_int gm_add) xms_nil)) W, h⟩
theorem cm_322 {t d : Nat} {key : Str} {fs : List (String × MV)} {es : List (Str × MV)} (g : σ.obj t = some (.inst 136 fs)) (h : getL' "table" fs = some (.loc d)) (g2 : σ.obj d = some (.dS es)) : CaM X (n + 1) (.top 322) [.loc t, .str key] [] σ (.int (keyPlace key (es.map fun e => e.1) 0)) σ := by
  have e1 : ∀ y v, getL' y [("key", .str key), ("place", .int 0)] = some v → getL' y (setL "place" (.int 0) [("table_thing", .loc t), ("key", .str key)]) = some v ∧ scal v = true := by
    intro y v e
    simp only [getL'] at e
    split at e
    · rename_i q; subst q; cases e; exact ⟨rfl, rfl⟩
    · split at e
      · rename_i q; subst q; cases e; exact ⟨rfl, rfl⟩
      · cases e
  obtain ⟨fl, l', W, hf⟩ := fd322 (X := X) (n := n) (key := key) (es.map fun e => e.1) [("key", .str key), ("place", .int 0)] 0 rfl rfl
  rw [List.map_map] at W
  have L := xm_forD (m := .attr (.var "table_thing") "table") (fr := ⟨setL "place" (.int 0) [("table_thing", .loc t), ("key", .str key)], [], false⟩) (σ := σ) (em_attr (em_var rfl) (am_get X.b.toBs g (by decide) h rfl)) g2 e1 W
  have S := xm_asg (X := X) (n := n) (fr := ⟨[("table_thing", .loc t), ("key", .str key)], [], false⟩) (σ := σ) rfl (em_int (i := 0)) (sm_var (x := "place"))
  refine cm_top rfl ?_
  rcases hf with rfl | ⟨rfl, h1⟩
  · exact fm_fn (fl := .ret (.int _)) rfl rfl rfl rfl (xms_cons S (xms_stop L))
  · rw [h1]
    exact fm_fn (fl := .ret (.int (-1))) rfl rfl rfl rfl (xms_cons S (xms_cons L (xms_stop (xm_ret em_int))))
end
end Mine
end
section
open PySem PySem.W PySem.Calls PyProof.Rows
set_option maxRecDepth 100000
namespace Mine
theorem ints_vr {ad : AD} : ∀ {vs : List Value} {is : List Int}, IntsAre vs is → All2 (VR ad) (is.map .int) vs
  | _, _, .nil => .nil
  | _, _, .cons n t r => .cons (.int n t) (ints_vr r)
section
variable {X : Wb} {n : Nat} {fr fr1 fr2 : MF} {σ σ1 σ2 : MS} {fl : MFl} {ms : List MSt}
theorem em_script {a : Nat} {items : List Value} {is : List Int} (hv : getL' "script" fr.loc = some (.top a)) (hL : X.base.IsList a items.toArray) (hI : IntsAre items is) (hn : is.length ≤ 63) :
    EvM X n fr (.sliceT (.var "script") (.int 50)) σ (.loc σ.next) (σ.new (.list ((is.take 50).map .int))) := ⟨fun {cl ns j e env ad A s E Q} hc a0 K => by
  cases j; exact fnt hc
  refine vSub_el hc fun o i p g1 => vSlice_el g1 fun lo hi st q g1 => none_el (and3 g1).1 (none_el (and3 g1).2.1 (vSome_el (and3 g1).2.2 fun i g1 => Subscript_ ((em_var (n := n) (σ := σ) hv).go (and2 g1).1 a0 fun ad1 h1 tk1 z1 st1 H1 hz1 =>
    wpAny_Slice (wpAny_evalPart_none (wpAny_evalPart_some ((em_int (i := 50)).go (and2 g1).2 (a0.step (tk := tk1) st1 H1) fun ad2 h2 tk2 z2 st2 H2 hz2 => wpAny_evalPart_none ?_))))))
  obtain ⟨t, rfl⟩ := hz2.isInt
  cases hz1
  have hlen : items.length = is.length := by
    have := (ints_vr (ad := ad) hI).length
    simpa using this.symm
  have hL1 : h2.IsList a items.toArray := by
    obtain ⟨o, e, r⟩ := hL
    exact ⟨o, H2.stays a o e, r⟩
  have hL' := hL1.push { cls := .type "slice", data := .fields #[.none, .int 50 t, .none] }
  refine slice_tail (T := "list") hL'.typeIs list_getitem_look (wpAny_getItem_list_slice (hi := some 50) hL' (Heap.IsSliceOf.new ..) .none (.int _ _) .none (by simp) ?_ (by rw [List.size_toArray, sizeLine_eq]; lia))
  have hpick : slicePick items.toArray none (some 50) none = (items.take 50).toArray := by
    have := slicePick_upto' items.toArray 50
    simpa using this
  rw [hpick]
  have hk2 : ∀ b' ob, h2.get? b' = some ob → ((h2.push { cls := .type "slice", data := .fields #[.none, .int 50 t, .none] }).push { cls := .type "list", data := .seq (items.take 50).toArray }).get? b' = some ob := fun b' ob e => Heap.get?_push_of_some _ (Heap.get?_push_of_some _ e)
  obtain ⟨x', st, hv'⟩ := new_list (s := { s with heap := h2, toks := tk2 }) H2 (a := (h2.push { cls := .type "slice", data := .fields #[.none, .int 50 t, .none] }).objs.size) (rs := items.take 50) (n := 0) (vs := (is.take 50).map .int) hk2
    (Heap.get?_none_of_le (by rw [Heap.size_push]; exact Nat.le_succ _)) (Heap.get?_push_size _ rfl) (by rw [List.map_take]; exact (ints_vr hI).take _)
  exact K _ _ _ _ ((st1.trans H1 st2).trans H2 st) x' hv'⟩
theorem FrR.forget {base : Heap} {env : Env} {fr fr' : MF} {ad : AD} {h : Heap} (x : FrR base env fr ad h) (hl : ∀ y v, getL' y fr'.loc = some v → getL' y fr.loc = some v) (hc : fr'.cel = fr.cel) (hw : fr'.law = fr.law) : FrR base env fr' ad h where
  kind := x.kind
  glob := x.glob
  bi := x.bi
  loc := let ⟨m, h1, h2⟩ := x.loc; ⟨m, h1, fun y v e => h2 y v (hl y v e)⟩
  cel := fun y n e => x.cel y n (by rw [← hc]; exact e)
  own := x.own
  off := x.off
  code := fun e => x.code (by rw [← hw]; exact e)
theorem HR.forget {w : World} {base : Heap} {σ σ' : MS} {ad : AD} {h : Heap} (x : HR w base σ ad h) (ho : ∀ n o, σ'.obj n = some o → σ.obj n = some o) (hn : σ'.next = σ.next) : HR w base σ' ad h :=
  ⟨by rw [hn]; exact x.len, fun n o e => x.obj n o (ho n o e), x.apart, x.off, x.three, x.stays⟩
theorem xms_less (D : ExsM X n ms fr σ fl fr2 σ2) (hl : ∀ y v, getL' y fr.loc = some v → getL' y fr1.loc = some v) (hc : fr.cel = fr1.cel) (hw : fr.law = fr1.law) (ho : ∀ n o, σ.obj n = some o → σ1.obj n = some o) (hn : σ.next = σ1.next) : ExsM X n ms fr1 σ1 fl fr2 σ2 :=
  ⟨fun hk a k => D.go hk ⟨a.g, a.hs, a.R, a.F.forget hl hc hw, a.H.forget ho hn⟩ k⟩
end
noncomputable def PureOk : Prop := ∀ (X : Wb) (row : List Int), row.length ≤ 50 → ∃ fr σ l, ExsM X 9 bLaw initF (initS row) (.ret (.bool true)) fr σ ∧ σ.obj 0 = some (.codes l)
noncomputable def la0 : MSt := .asg (.var "purse") (.dict ["at", "row"] [.int 0, .sliceT (.var "script") (.int 50)])
theorem body_ok : chkL (chkS chkCl dL.scope.names 60) dL.body (la0 :: bLaw) = true := by kernel_rfl
theorem kind_ok : dL.scope.kind = .function := by kernel_rfl
theorem cells_ok (L : Nat) : cellsFrom (L + 1) dL.scope.names [] = [(S "told", L + 1 + 1 + 1 + 1 + 1 + 1 + 1 + 1), (S "thing", L + 1 + 1 + 1 + 1 + 1 + 1 + 1), (S "run", L + 1 + 1 + 1 + 1 + 1 + 1), (S "own", L + 1 + 1 + 1 + 1 + 1), (S "is_hash", L + 1 + 1 + 1 + 1), (S "gone", L + 1 + 1 + 1), (S "elem", L + 1 + 1), (S "due", L + 1)] := by kernel_rfl
section
variable {w : World} {base : Heap}
noncomputable def scr0 (a : Nat) : MF := ⟨[("script", .top a)], initF.cel, true⟩
noncomputable def st0 : MS := ⟨fun n => if n = 0 then some (.codes []) else if n < 9 then some (.cell none) else none, 9⟩
theorem law_body (B : Bse w base) (HP : PureOk) {env : Env} {a : Nat} {items : List Value} {is : List Int} (hL : base.IsList a items.toArray) (hI : IntsAre items is) (hn : is.length ≤ 63) (hs : env.scope.names = dL.scope.names)
    {ad : AD} {A : Around} {s : Shared} {E : Value → Shared → Prop} {Q : Flow → Shared → Prop} (R : Room A 9) (F : FrR base env (scr0 a) ad s.heap) (H : HR w base st0 ad s.heap)
    {b : List Stmt} (hb : dL.body = b) (k : ∀ h' tk, base.StaysIn h' → (∃ ps, h'.get? 655 = some (tabObj ps)) → Q (.ret (.bool true)) { s with heap := h', toks := tk }) : wpAny (model PR w) A (execs b env) Q E s := by
  rw [← hb]
  obtain ⟨fr, σ, l, hp, hc⟩ := HP ⟨w, base, B⟩ (is.take 50) (by rw [List.length_take]; lia)
  refine (xms_cons (xm_asg (fr := scr0 a) (σ := st0) rfl (em_dict (ks := ["at", "row"]) (.cons em_int (.cons (em_script (X := ⟨w, base, B⟩) rfl hL hI hn) .nil)) rfl rfl (by decide) (by decide)) sm_var) (xms_less hp (fun y v e => ?_) rfl rfl (fun n o e => ?_) rfl)).go body_ok ⟨fun _ _ _ _ h => h, hs, R, F, H⟩ fun ad2 h2 tk2 f st2 F3 H3 hf => ?_
  · have : initF.loc = [("purse", .loc 10)] := rfl
    rw [this] at e
    unfold getL' at e
    split at e
    · rename_i q; subst q; rw [← e]; rfl
    · unfold getL' at e; cases e
  · unfold initS at e
    dsimp only at e
    unfold MS.new st0
    dsimp only
    split at e
    · rename_i q; subst q; exact e
    · rename_i q0
      split at e
      · rename_i q; rw [if_neg (by lia), if_neg (by lia), if_neg q0, if_pos q]; exact e
      · rename_i q9
        split at e
        · rename_i q; subst q; exact e
        · split at e
          · rename_i q; subst q; exact e
          · cases e
  · cases hf with
    | ret hv =>
      cases hv
      obtain ⟨p, hp1, hp2, ps, hp3, _⟩ := H3.obj 0 _ hc
      exact k h2 tk2 H3.stays ⟨ps, hp3⟩
end
end Mine
end
section
open PySem PySem.W PySem.Calls PyProof.Rows
set_option maxRecDepth 100000
namespace Mine
section
variable {w : World} {base h : Heap} {L : Nat}
noncomputable def adE (L : Nat) : AD := (655, 655) :: (List.range 8).map fun i => (L + i + 1, L + i + 1)
theorem adE_at {n : Nat} {p : Addr × Addr} (e : (adE L)[n]? = some p) : (n = 0 ∧ p = (655, 655)) ∨ (0 < n ∧ n ≤ 8 ∧ p = (L + n, L + n)) := by
  cases n with
  | zero => cases e; exact .inl ⟨rfl, rfl⟩
  | succ n =>
    unfold adE at e
    rw [List.getElem?_cons_succ, List.getElem?_map, Option.map_eq_some_iff] at e
    obtain ⟨i, h, rfl⟩ := e
    obtain ⟨hi, h⟩ := List.getElem?_eq_some_iff.mp h
    rw [List.length_range] at hi
    rw [List.getElem_range] at h
    subst h
    exact .inr ⟨Nat.succ_pos _, hi, rfl⟩
theorem adE_of {n : Nat} (h0 : 0 < n) (h8 : n ≤ 8) : (adE L)[n]? = some (L + n, L + n) := by
  cases n with
  | zero => cases h0
  | succ n =>
    unfold adE
    rw [List.getElem?_cons_succ, List.getElem?_map, List.getElem?_range h8]; rfl
theorem entry_HR (hc : ∀ i : Nat, 0 < i → i ≤ 8 → (∃ o, h.get? (L + i) = some o ∧ o.data = .cell none) ∧ base.get? (L + i) = none) (h1 : h.get? 655 = some (tabObj #[])) (h2 : base.get? 655 = none) (h3 : 655 < L)
    (h4 : ∃ o, base.get? 3 = some o) (h5 : base.StaysIn h) : HR w base st0 (adE L) h where
  len := rfl
  obj := fun n o e => by
    unfold st0 at e
    dsimp only at e
    split at e
    · rename_i q; subst q; cases e
      exact ⟨_, rfl, rfl, #[], h1, True.intro, fun _ _ => rfl⟩
    · rename_i q
      split at e
      · rename_i q9
        cases e
        obtain ⟨⟨o, ho, hd⟩, _⟩ := hc n (by lia) (by lia)
        exact ⟨_, adE_of (by lia) (by lia), o, none, ho, hd, True.intro⟩
      · cases e
  apart := fun n m p q b e1 e2 o1 o2 => by
    have d : ∀ {n : Nat} {p : Addr × Addr}, (adE L)[n]? = some p → ∀ b, Own p b → (n = 0 ∧ @Eq Nat b 655) ∨ (0 < n ∧ @Eq Nat b (L + n)) := fun {n p} e b ob => by
      rcases adE_at e with ⟨a, rfl⟩ | ⟨a, _, rfl⟩
      · exact .inl ⟨a, by rcases ob with z | z <;> exact z⟩
      · exact .inr ⟨a, by rcases ob with z | z <;> exact z⟩
    have x := d e1 b o1
    have y := d e2 b o2
    lia
  off := fun n p b e ob => by
    rcases adE_at e with ⟨a, rfl⟩ | ⟨a, a8, rfl⟩
    · have : b = 655 := by rcases ob with z | z <;> exact z
      subst this
      exact ⟨h2, _, h1⟩
    · have : b = L + n := by rcases ob with z | z <;> exact z
      subst this
      obtain ⟨⟨o, ho, _⟩, q⟩ := hc n a a8
      exact ⟨q, o, ho⟩
  three := h4
  stays := h5
theorem getL_mem {β : Type} {x : String} {v : β} : ∀ {l : List (String × β)}, getL' x l = some v → (x, v) ∈ l
  | [], h => by cases h
  | (y, u) :: r, h => by
    unfold getL' at h
    split at h
    · rename_i q; cases h; subst q; exact .head _
    · exact .tail _ (getL_mem h)
theorem cel_all (L : Nat) : ∀ p ∈ initF.cel, (0 < p.2 ∧ p.2 ≤ 8) ∧ (cellsFrom (L + 1) dL.scope.names []).lookup (Str.ofString p.1) = some (L + p.2) := by
  rw [cells_ok]
  exact List.forall_mem_cons.mpr ⟨⟨⟨by decide, by decide⟩, by kernel_rfl⟩, List.forall_mem_cons.mpr ⟨⟨⟨by decide, by decide⟩, by kernel_rfl⟩, List.forall_mem_cons.mpr ⟨⟨⟨by decide, by decide⟩, by kernel_rfl⟩, List.forall_mem_cons.mpr ⟨⟨⟨by decide, by decide⟩, by kernel_rfl⟩, List.forall_mem_cons.mpr ⟨⟨⟨by decide, by decide⟩, by kernel_rfl⟩, List.forall_mem_cons.mpr ⟨⟨⟨by decide, by decide⟩, by kernel_rfl⟩, List.forall_mem_cons.mpr ⟨⟨⟨by decide, by decide⟩, by kernel_rfl⟩, List.forall_mem_cons.mpr ⟨⟨⟨by decide, by decide⟩, by kernel_rfl⟩, fun _ h => nomatch h⟩⟩⟩⟩⟩⟩⟩⟩
theorem entry_FrR {fa : Addr} {m : Str → Option Value} {a : Nat} (F : Fr base L h m) (hm : m (S "script") = some (.ref a)) (h2 : base.get? L = none) (h3 : 655 < L) : FrR base (envOfC dL.name dL.scope L fa (.ref 659)) (scr0 a) (adE L) h where
  kind := kind_ok
  glob := rfl
  bi := rfl
  loc := ⟨m, F.ns, fun x v e => by
    simp only [scr0, getL'] at e
    split at e
    · rename_i q; subst q; cases e; exact ⟨_, hm, .top a⟩
    · cases e⟩
  cel := fun x n e => let ⟨⟨h0, h8⟩, h⟩ := cel_all L _ (getL_mem e); ⟨_, adE_of h0 h8, h⟩
  own := fun n p e o => by
    rcases adE_at e with ⟨a, rfl⟩ | ⟨a, _, rfl⟩
    · have : L = 655 := by rcases o with z | z <;> exact z
      lia
    · have : L = L + n := by rcases o with z | z <;> exact z
      lia
  off := h2
  code := fun _ => rfl
end
theorem tabs_K (P : Params) : noTabs (KF P) = true := by kernel_rfl
theorem head_K (P : Params) : codeHdIn (KF P) 659 655 = true := by kernel_rfl
theorem tab_K (P : Params) : tabIn (KF P) (S "law") = some (659, 655) := by kernel_rfl
theorem three_K (P : Params) : ((KF P).lookup 3).isSome = true := by kernel_rfl
theorem prog_eq : RR.prog = PR := by kernel_rfl
theorem walk_law (HP : PureOk) : WalkO QV lsT (XL QV []) HK.says RR dL [] fun f vs => PySem.call f vs := by
  intro w s₀ s₁ mg mb G Y fa o pm cd doc dV kV ho hd hcd hD hmg hg args vals as hpre hlay hrd hwl hlo
  have KX := km_in_of Y
  have hT8 := km_tabs_of Y
  refine Ground.open G ?_
  intro T B D TE TW
  have hT9 : TabsAt ([(659, 655)] : List (Addr × Addr)) s₁.heap := List.forall_mem_cons.mpr ⟨⟨codeHd_of_K (c := 659) (P := 655) KX (head_K _), hT8 655 (by simp)⟩, fun _ h => nomatch h⟩
  have he9 : cd = PySem.Value.ref 659 := law_code (x := PySem.Str.ofString "law") (c := 659) (P := 655) KX (Top.g T) (tab_K _) hmg ho hd
  subst he9
  clear hmg
  wrow_args hpre hlay hrd hwl hlo
  rename_i is _ _ _ _ _ _ _ a items _ hL _ _ _ hI _ hlen _
  refine enter_call ?_
  w_top on
  kn_posts
  w_call any ho hd hcd hD T F
  rename_i h1 tk1 o8 o7 o6 o5 o4 o3 o2 o1 d8 d7 d6 d5 d4 d3 d2 d1 N0 X0
  have X' := ghost_K hT9 KX (tabs_K _)
  have T' := ghost_top hT9 T
  have C' := (ghost_code hT9).1
  have N' := ghost_news hT9 F N0
  have F' := ghost_fr hT9 F
  have L' := ghost_list hT9 hL
  have h3 : 655 < s₁.heap.objs.size := Heap.lt_size (hT9 (659, 655) (.head _)).2
  have n655 := N' (655, tabObj #[]) (List.mem_append_right _ (.head _))
  obtain ⟨ob3, e3⟩ := Option.isSome_iff_exists.mp (three_K w.params)
  have B' : Bse w (ghostOf s₁.heap [(659, 655)]) := {
    k := X'
    limit := T'.nolimit
    code := C'
    top := ⟨mg, mb, T'.g, T'.b, T'.builtins, fun h hk => by
      obtain ⟨bm, ob, b1, b2, b3, b4, b5, b6⟩ := T'.bmain
      refine ⟨bm, ob, b1, b2, fun q => ?_, fun q => ?_, hk _ _ b3, b4, b5, b6⟩
      · obtain ⟨o, es, ep, e, hd, _⟩ := T'.g
        rw [q, e] at b3; cases b3; rw [hd] at b6; cases b6
      · rw [q, n655.2.2] at b3; cases b3⟩ }
  have hc : ∀ i : Nat, 0 < i → i ≤ 8 → (∃ o, h1.get? (s₁.heap.objs.size + i) = some o ∧ o.data = .cell none) ∧ (ghostOf s₁.heap [(659, 655)]).get? (s₁.heap.objs.size + i) = none := fun i hi h8 => by
    match i, hi, h8 with
    | 1, _, _ =>
      have n := N' (s₁.heap.objs.size + 1, o1) (List.mem_append_left _ (.tail _ (.tail _ (.tail _ (.tail _ (.tail _ (.tail _ (.tail _ (.head _)))))))))
      exact ⟨⟨o1, n.1, d1.trans (congrArg Data.cell (by kernel_rfl))⟩, n.2.2⟩
    | 2, _, _ =>
      have n := N' (s₁.heap.objs.size + 2, o2) (List.mem_append_left _ (.tail _ (.tail _ (.tail _ (.tail _ (.tail _ (.tail _ (.head _))))))))
      exact ⟨⟨o2, n.1, d2.trans (congrArg Data.cell (by kernel_rfl))⟩, n.2.2⟩
    | 3, _, _ =>
      have n := N' (s₁.heap.objs.size + 3, o3) (List.mem_append_left _ (.tail _ (.tail _ (.tail _ (.tail _ (.tail _ (.head _)))))))
      exact ⟨⟨o3, n.1, d3.trans (congrArg Data.cell (by kernel_rfl))⟩, n.2.2⟩
    | 4, _, _ =>
      have n := N' (s₁.heap.objs.size + 4, o4) (List.mem_append_left _ (.tail _ (.tail _ (.tail _ (.tail _ (.head _))))))
      exact ⟨⟨o4, n.1, d4.trans (congrArg Data.cell (by kernel_rfl))⟩, n.2.2⟩
    | 5, _, _ =>
      have n := N' (s₁.heap.objs.size + 5, o5) (List.mem_append_left _ (.tail _ (.tail _ (.tail _ (.head _)))))
      exact ⟨⟨o5, n.1, d5.trans (congrArg Data.cell (by kernel_rfl))⟩, n.2.2⟩
    | 6, _, _ =>
      have n := N' (s₁.heap.objs.size + 6, o6) (List.mem_append_left _ (.tail _ (.tail _ (.head _))))
      exact ⟨⟨o6, n.1, d6.trans (congrArg Data.cell (by kernel_rfl))⟩, n.2.2⟩
    | 7, _, _ =>
      have n := N' (s₁.heap.objs.size + 7, o7) (List.mem_append_left _ (.tail _ (.head _)))
      exact ⟨⟨o7, n.1, d7.trans (congrArg Data.cell (by kernel_rfl))⟩, n.2.2⟩
    | 8, _, _ =>
      have n := N' (s₁.heap.objs.size + 8, o8) (List.mem_append_left _ (.head _))
      exact ⟨⟨o8, n.1, d8.trans (congrArg Data.cell (by kernel_rfl))⟩, n.2.2⟩
  have hL0 : (ghostOf s₁.heap [(659, 655)]).get? s₁.heap.objs.size = none := ghost_fresh (Heap.get?_none_of_le (Nat.le_refl _))
  rw [prog_eq]
  generalize hb : dL.body = b
  refine law_body (s := ⟨h1, s₁.gens, s₁.drawn, tk1, s₁.os⟩) B' HP L' hI (by lia) rfl (A := callerA.deeper (envOfC dL.name dL.scope s₁.heap.objs.size fa (Value.ref 659))) (ad := adE s₁.heap.objs.size) (Room.deeper ⟨rfl, by decide, by decide⟩ _)
    (entry_FrR F' (by kernel_rfl) hL0 h3) (entry_HR hc n655.1 n655.2.2 h3 ⟨ob3, X' 3 ob3 e3⟩ F'.keep) hb fun h' tk hk hg' => ?_
  refine ⟨⟨.inl ⟨.bool true, .bool true, [], rfl, fun _ => rfl, .bool true, by kernel_rfl, unshared_nil⟩, hk, rfl, hg⟩, hg', trivial⟩
end Mine
end
section
namespace Mine
open PySem
noncomputable def cnt {α : Type} (f : α → Nat) : List α → Nat
  | [] => 0
  | a :: l => f a + cnt f l
theorem cnt_nil {α : Type} (f : α → Nat) : cnt f [] = 0 := rfl
theorem cnt_cons {α : Type} (f : α → Nat) (a : α) (l : List α) : cnt f (a :: l) = f a + cnt f l := rfl
theorem cnt_app {α : Type} (f : α → Nat) (a b : List α) : cnt f (a ++ b) = cnt f a + cnt f b := by
  induction a with
  | nil => simp [cnt]
  | cons x a ih => simp [cnt, ih, Nat.add_assoc]
open Classical in
theorem permC {α : Type} {a b : List α} (h : ∀ f : α → Nat, cnt f a = cnt f b) : a.Perm b := by
  have key : ∀ (x : α) (l : List α), cnt (fun y => if y = x then 1 else 0) l = l.count x := by
    intro x l
    induction l with
    | nil => rfl
    | cons y l ih =>
      rw [cnt, ih, List.count_cons, Nat.add_comm]
      by_cases q : y = x <;> simp [q]
  exact List.perm_iff_count.mpr fun x => by rw [← key, ← key, h]
structure Led (σ : MS) (L : List (Nat × MO)) : Prop where
  at_ : ∀ p ∈ L, σ.obj p.1 = some p.2
  nd : (L.map (·.1)).Nodup
  lt : ∀ p ∈ L, p.1 < σ.next
namespace Led
variable {σ : MS} {L L' : List (Nat × MO)} {n : Nat} {o o' : MO}
theorem perm (h : Led σ L) (p : L.Perm L') : Led σ L' := ⟨fun q hq => h.at_ q (p.mem_iff.mpr hq), (p.map _).nodup_iff.mp h.nd, fun q hq => h.lt q (p.mem_iff.mpr hq)⟩
theorem get (h : Led σ L) (i : Nat) (e : L[i]? = some (n, o)) : σ.obj n = some o := h.at_ (n, o) (List.mem_of_getElem? e)
theorem bound (h : Led σ L) (i : Nat) (e : L[i]? = some (n, o)) : n < σ.next := h.lt (n, o) (List.mem_of_getElem? e)
theorem tail {q} (h : Led σ (q :: L)) : Led σ L := ⟨fun p hp => h.at_ p (.tail _ hp), (List.nodup_cons.mp h.nd).2, fun p hp => h.lt p (.tail _ hp)⟩
theorem drop (h : Led σ (L' ++ L)) : Led σ L := by
  induction L' with
  | nil => exact h
  | cons q l ih => exact ih h.tail
theorem new (h : Led σ L) (o : MO) : Led (σ.new o) ((σ.next, o) :: L) where
  at_ := fun p hp => by
    rcases List.mem_cons.mp hp with rfl | hp
    · simp [MS.new]
    · have := h.lt p hp
      simp only [MS.new]
      rw [if_neg (by lia)]
      exact h.at_ p hp
  nd := by
    rw [List.map_cons, List.nodup_cons]
    refine ⟨fun hm => ?_, h.nd⟩
    obtain ⟨p, hp, e⟩ := List.mem_map.mp hm
    have := h.lt p hp
    simp at e
    lia
  lt := fun p hp => by
    rcases List.mem_cons.mp hp with rfl | hp
    · exact Nat.lt_succ_self _
    · exact Nat.lt_succ_of_lt (h.lt p hp)
theorem newL (h : Led σ L) (o : MO) : Led (σ.new o) L := (h.new o).tail
theorem set (h : Led σ L) (i : Nat) (e : L[i]? = some (n, o)) (o' : MO) : Led (σ.put n o') (L.set i (n, o')) where
  at_ := fun p hp => by
    obtain ⟨j, hj, rfl⟩ := List.getElem_of_mem hp
    simp only [List.getElem_set]
    rw [List.length_set] at hj
    split
    · simp [MS.put]
    · rename_i hij
      have hi : i < L.length := (List.getElem?_eq_some_iff.mp e).1
      have hei : L[i] = (n, o) := (List.getElem?_eq_some_iff.mp e).2
      have hne : (L[j]).1 ≠ n := fun q => by
        have h1 := (List.nodup_iff_pairwise_ne.mp h.nd)
        rw [List.pairwise_iff_getElem] at h1
        rcases Nat.lt_or_gt_of_ne hij with hlt | hlt
        · have := h1 i j (by simpa using hi) (by simpa using hj) hlt
          simp [hei] at this
          exact this q.symm
        · have := h1 j i (by simpa using hj) (by simpa using hi) hlt
          simp [hei] at this
          exact this q
      simp only [MS.put]
      rw [if_neg hne]
      exact h.at_ _ (List.getElem_mem _)
  nd := by
    have : (L.set i (n, o')).map (·.1) = L.map (·.1) := by
      rw [List.map_set]
      apply List.ext_getElem?
      intro j
      rw [List.getElem?_set]
      split
      · rename_i hij
        subst hij
        simp [e]
        exact (List.getElem?_eq_some_iff.mp e).1
      · rfl
    rw [this]; exact h.nd
  lt := fun p hp => by
    have : p.1 ∈ (L.set i (n, o')).map (·.1) := List.mem_map_of_mem hp
    have e2 : (L.set i (n, o')).map (·.1) = L.map (·.1) := by
      rw [List.map_set]
      apply List.ext_getElem?
      intro j
      rw [List.getElem?_set]
      split
      · rename_i hij
        subst hij
        simp [e]
        exact (List.getElem?_eq_some_iff.mp e).1
      · rfl
    rw [e2] at this
    obtain ⟨q, hq, e3⟩ := List.mem_map.mp this
    have := h.lt q hq
    show p.1 < σ.next
    lia
end Led
theorem Led.of {σ σ' : MS} {F F' R : List (Nat × MO)} (H : Led σ (F ++ R)) (hn : σ.next ≤ σ'.next) (hk : ∀ m, m < σ.next → m ∉ F.map (·.1) → σ'.obj m = σ.obj m)
    (h1 : ∀ p ∈ F', σ'.obj p.1 = some p.2 ∧ p.1 < σ'.next ∧ (p.1 ∈ F.map (·.1) ∨ σ.next ≤ p.1)) (h2 : (F'.map (·.1)).Nodup) : Led σ' (F' ++ R) := by
  have nd := H.nd
  rw [List.map_append, List.nodup_append] at nd
  obtain ⟨_, n2, n3⟩ := nd
  have hR : ∀ p ∈ R, p.1 < σ.next ∧ p.1 ∉ F.map (·.1) := fun p hp => ⟨H.lt p (List.mem_append_right _ hp), fun hm => n3 _ hm _ (List.mem_map_of_mem hp) rfl⟩
  refine ⟨fun p hp => ?_, ?_, fun p hp => ?_⟩
  · rcases List.mem_append.mp hp with hp | hp
    · exact (h1 p hp).1
    · rw [hk _ (hR p hp).1 (hR p hp).2]; exact H.at_ p (List.mem_append_right _ hp)
  · rw [List.map_append, List.nodup_append]
    refine ⟨h2, n2, fun a ha b hb e => ?_⟩
    subst e
    obtain ⟨p, hp, rfl⟩ := List.mem_map.mp ha
    obtain ⟨q, hq, e⟩ := List.mem_map.mp hb
    have x := hR q hq
    have e : q.1 = p.1 := e
    rw [e] at x
    rcases (h1 p hp).2.2 with y | y
    · exact x.2 y
    · lia
  · rcases List.mem_append.mp hp with hp | hp
    · exact (h1 p hp).2.1
    · exact Nat.lt_of_lt_of_le (hR p hp).1 hn
theorem Led.apart {σ : MS} {F R : List (Nat × MO)} (H : Led σ (F ++ R)) : (F.map (·.1)).Pairwise (fun a b => ¬ a = b ∧ ¬ b = a) := by
  have nd := H.nd
  rw [List.map_append, List.nodup_append] at nd
  exact nd.1.imp fun h => ⟨h, fun e => h e.symm⟩
theorem obj_put (σ : MS) (n m : Nat) (o : MO) : (σ.put n o).obj m = if m = n then some o else σ.obj m := rfl
theorem obj_new (σ : MS) (m : Nat) (o : MO) : (σ.new o).obj m = if m = σ.next then some o else σ.obj m := rfl
theorem next_new (σ : MS) (o : MO) : (σ.new o).next = σ.next + 1 := rfl
theorem put_put (σ : MS) (n : Nat) (a b : MO) : (σ.put n a).put n b = σ.put n b := by
  unfold MS.put
  simp only [MS.mk.injEq, and_true]
  funext k
  split <;> rfl
noncomputable def mk (l : Nat) (r : Option (MV × MS)) : Option (MV × MS) := match r with
  | some (.none, σ') => some (.loc l, σ')
  | _ => none
theorem at98 : attrTab 98 = ["value", "magic", "number", "count", "blessed", "weak", "is_destroyed", "is_freed"] := by kernel_rfl
theorem at117 : attrTab 117 = ["items", "tied", "number", "count", "blessed", "weak", "is_destroyed", "is_freed"] := by kernel_rfl
theorem at136 : attrTab 136 = ["table", "at", "tied", "number", "count", "blessed", "weak", "is_destroyed", "is_freed"] := by kernel_rfl
noncomputable def heapO (L : Int) (z : Nat) : MO := .inst 257 [("limits", .loc 11), ("last", .int L), ("zero", .loc z)]
noncomputable def cntO : MO := .inst 580 [("heap", .loc 12), ("destroy", .loc 18), ("places", .loc 20), ("empties", .loc 21)]
noncomputable def limO : MO := .inst 623 [("width", .int 64), ("depth", .int 50), ("steps", .int 1000000), ("text", .int 100000), ("items", .int 4)]
noncomputable def runO : MO := .inst 601 [("heap", .loc 12), ("counter", .loc 19), ("stash", .none), ("limits", .loc 11), ("nodes", .loc 23), ("lvs", .loc 24), ("statements", .loc 25), ("funcs", .loc 26), ("operators", .loc 27), ("out", .loc 28), ("err", .loc 29),
  ("saves", .loc 30), ("frames", .loc 31), ("match", .none), ("patterns", .loc 32), ("steps", .int 0), ("methods", .none), ("call_code", .none), ("compile_text", .none)]
noncomputable def scO (num cnt : Int) (fr : Bool) (wk : Nat) (v : MV) : MO := .inst 98 [("number", .int num), ("count", .int cnt), ("blessed", .none), ("weak", .loc wk), ("is_destroyed", .bool false), ("is_freed", .bool fr), ("value", v), ("magic", .none)]
noncomputable def arO (num cnt : Int) (bl : MV) (ds fr : Bool) (wk it : Nat) : MO := .inst 117 [("number", .int num), ("count", .int cnt), ("blessed", bl), ("weak", .loc wk), ("is_destroyed", .bool ds), ("is_freed", .bool fr), ("items", .loc it), ("tied", .none)]
noncomputable def haO (cnt : Int) (fr : Bool) (tb : Nat) : MO := .inst 136 [("number", .int 1), ("count", .int cnt), ("blessed", .none), ("weak", .loc 34), ("is_destroyed", .bool false), ("is_freed", .bool fr), ("table", .loc tb), ("at", .int 0), ("tied", .none)]
noncomputable def refO (p : Nat) : MO := .inst 194 [("target", .loc p), ("is_weak", .bool false)]
noncomputable def obO (C : Nat) (num k : Int) (rest : List (String × MV)) : MO := .inst C (("number", .int num) :: ("count", .int k) :: rest)
end Mine
end
section
open PySem PySem.W PySem.Calls PyProof.Rows
namespace Mine
structure LS where
  σ : MS
  L : List (Nat × MO)
@[reducible] noncomputable def LS.put (s : LS) (i n : Nat) (o : MO) : LS := ⟨s.σ.put n o, s.L.set i (n, o)⟩
@[reducible] noncomputable def LS.new (s : LS) (o : MO) : LS := ⟨s.σ.new o, (s.σ.next, o) :: s.L⟩
noncomputable abbrev LS.H (s : LS) : Prop := Led s.σ s.L
theorem Led.ne {σ : MS} {L : List (Nat × MO)} (H : Led σ L) {i j n m : Nat} {a b : MO} (g : L[i]? = some (n, a)) (g2 : L[j]? = some (m, b)) (ij : ¬ i = j) : ¬ n = m := fun e => by
  have hnd := List.nodup_iff_pairwise_ne.mp H.nd
  rw [List.pairwise_iff_getElem] at hnd
  obtain ⟨h1, h2⟩ := List.getElem?_eq_some_iff.mp g
  obtain ⟨h3, h4⟩ := List.getElem?_eq_some_iff.mp g2
  rcases Nat.lt_or_gt_of_ne ij with h | h
  · exact hnd i j (by simpa using h1) (by simpa using h3) h (by simp [h2, h4, e])
  · exact hnd j i (by simpa using h3) (by simpa using h1) h (by simp [h2, h4, e])
section
variable {α : Type} {a0 a1 a2 a3 a4 a5 a6 a7 a8 a9 a10 a11 a12 a13 a14 a15 a16 a17 a18 : α} {l : List α}
theorem ix0 : (a0 :: l)[0]? = some a0 := rfl
theorem ix1 : (a0 :: a1 :: l)[1]? = some a1 := rfl
theorem ix2 : (a0 :: a1 :: a2 :: l)[2]? = some a2 := rfl
theorem ix3 : (a0 :: a1 :: a2 :: a3 :: l)[3]? = some a3 := rfl
theorem ix4 : (a0 :: a1 :: a2 :: a3 :: a4 :: l)[4]? = some a4 := rfl
theorem ix5 : (a0 :: a1 :: a2 :: a3 :: a4 :: a5 :: l)[5]? = some a5 := rfl
theorem ix6 : (a0 :: a1 :: a2 :: a3 :: a4 :: a5 :: a6 :: l)[6]? = some a6 := rfl
theorem ix7 : (a0 :: a1 :: a2 :: a3 :: a4 :: a5 :: a6 :: a7 :: l)[7]? = some a7 := rfl
theorem ix8 : (a0 :: a1 :: a2 :: a3 :: a4 :: a5 :: a6 :: a7 :: a8 :: l)[8]? = some a8 := rfl
theorem ix9 : (a0 :: a1 :: a2 :: a3 :: a4 :: a5 :: a6 :: a7 :: a8 :: a9 :: l)[9]? = some a9 := rfl
theorem ix10 : (a0 :: a1 :: a2 :: a3 :: a4 :: a5 :: a6 :: a7 :: a8 :: a9 :: a10 :: l)[10]? = some a10 := rfl
theorem ix11 : (a0 :: a1 :: a2 :: a3 :: a4 :: a5 :: a6 :: a7 :: a8 :: a9 :: a10 :: a11 :: l)[11]? = some a11 := rfl
theorem ix12 : (a0 :: a1 :: a2 :: a3 :: a4 :: a5 :: a6 :: a7 :: a8 :: a9 :: a10 :: a11 :: a12 :: l)[12]? = some a12 := rfl
end
section
variable (X : Wb) (N : Nat) (fr : MF)
structure EvL (e : ME) (s : LS) (v : MV) (s' : LS) : Prop where
  ev : s.H → EvM X N fr e s.σ v s'.σ
  H : s.H → s'.H
structure EvsL (e : List ME) (s : LS) (v : List MV) (s' : LS) : Prop where
  ev : s.H → EvsM X N fr e s.σ v s'.σ
  H : s.H → s'.H
structure TeL (e : ME) (s : LS) (p : Bool) (s' : LS) : Prop where
  ev : s.H → TeM X N fr e s.σ p s'.σ
  H : s.H → s'.H
structure CaL (f : MV) (args : List MV) (s : LS) (v : MV) (s' : LS) : Prop where
  ev : s.H → CaM X N f args [] s.σ v s'.σ
  H : s.H → s'.H
structure FnL (f : Nat) (args : List MV) (s : LS) (v : MV) (s' : LS) : Prop where
  ev : s.H → FnM X N f args [] s.σ v s'.σ
  H : s.H → s'.H
structure ExL (st : MSt) (fr : MF) (s : LS) (fl : MFl) (fr' : MF) (s' : LS) : Prop where
  ev : s.H → ExM X N st fr s.σ fl fr' s'.σ
  H : s.H → s'.H
structure ExsL (st : List MSt) (fr : MF) (s : LS) (fl : MFl) (fr' : MF) (s' : LS) : Prop where
  ev : s.H → ExsM X N st fr s.σ fl fr' s'.σ
  H : s.H → s'.H
structure BiL (f : String) (args : List MV) (s : LS) (v : MV) (s' : LS) : Prop where
  ev : s.H → BiM X.w X.base (.builtin f) args s.σ v s'.σ
  H : s.H → s'.H
structure BinL (c : BOp) (s : LS) (v u t : MV) (s' : LS) : Prop where
  ev : s.H → BinM X.w X.base c s.σ v u t s'.σ
  H : s.H → s'.H
structure PutL (s : LS) (v u t : MV) (s' : LS) : Prop where
  ev : s.H → PutM X.w X.base s.σ v u t s'.σ
  H : s.H → s'.H
structure SubL (s : LS) (v u t : MV) : Prop where
  ev : s.H → SubM X.w X.base s.σ v u t
structure CmpL (c : COp) (s : LS) (v u : MV) (p : Bool) : Prop where
  ev : s.H → CmpM X.w X.base c s.σ v u p
structure MethL (s : LS) (v : MV) (x : String) (f : MV) (first : List MV) : Prop where
  ev : s.H → MethM X.w X.base s.σ v x f first
structure IterL (s : LS) (v : MV) (vs : List MV) : Prop where
  ev : s.H → IterM X s.σ v vs
structure CoL (s : LS) (cs : List (String × Nat)) (x : String) (elt : ME) (cond : Option ME) (ms us : List MV) : Prop where
  ev : s.H → ∃ (fb : MV → Bool) (fu : MV → MV), (∀ m ∈ ms, CdM X cs s.σ x cond m (fb m) ∧ (fb m = true → PuM X ⟨[(x, m)], cs, false⟩ elt s.σ (fu m))) ∧ (ms.filter fb).map fu = us
structure AsV (ts : List MT) (vs : List MV) (l l' : List (String × MV)) : Prop where
  go : ∀ cel law σ, AssM X N ts vs ⟨l, cel, law⟩ σ ⟨l', cel, law⟩ σ
end
noncomputable def cmpI (c : COp) (a b : Int) : Option Bool := match c with
  | .eq => some (a == b) | .ne => some (a != b) | .lt => some (decide (a < b)) | .le => some (decide (a ≤ b)) | .gt => some (decide (a > b)) | .ge => some (decide (a ≥ b)) | _ => none
noncomputable def noKey {α : Type} (x : String) : List (String × α) → Bool
  | [] => true
  | (y, _) :: l => !(y == x) && noKey x l
noncomputable def ahead {α : Type} (x : String) : Nat → List (String × α) → Bool
  | 0, _ => true
  | n + 1, (y, _) :: l => !(y == x) && ahead x n l
  | _ + 1, [] => true
section
variable {α : Type} {x : String} {v u : α}
theorem getL_at : ∀ {j : Nat} {l : List (String × α)}, l[j]? = some (x, v) → ahead x j l = true → getL' x l = some v
  | 0, (y, u) :: l, h, _ => by cases h; rw [getL', if_pos rfl]
  | n + 1, (y, u) :: l, h, k => by
    simp only [ahead, Bool.and_eq_true, Bool.not_eq_true', beq_eq_false_iff_ne] at k
    rw [getL', if_neg k.1]; exact getL_at (j := n) h k.2
theorem getL_no : ∀ {l : List (String × α)}, noKey x l = true → getL' x l = none
  | [], _ => rfl
  | (y, u) :: l, k => by
    simp only [noKey, Bool.and_eq_true, Bool.not_eq_true', beq_eq_false_iff_ne] at k
    rw [getL', if_neg k.1]; exact getL_no k.2
theorem setL_at : ∀ {j : Nat} {l : List (String × α)}, l[j]? = some (x, v) → ahead x j l = true → setL x u l = l.set j (x, u)
  | 0, (y, _) :: l, h, _ => by cases h; rw [setL, if_pos rfl]; rfl
  | n + 1, (y, _) :: l, h, k => by
    simp only [ahead, Bool.and_eq_true, Bool.not_eq_true', beq_eq_false_iff_ne] at k
    rw [setL, if_neg k.1]; exact congrArg _ (setL_at (j := n) h k.2)
theorem setL_no : ∀ {l : List (String × α)}, noKey x l = true → setL x u l = l ++ [(x, u)]
  | [], _ => rfl
  | (y, _) :: l, k => by
    simp only [noKey, Bool.and_eq_true, Bool.not_eq_true', beq_eq_false_iff_ne] at k
    rw [setL, if_neg k.1]; exact congrArg _ (setL_no k.2)
end
noncomputable def aheadK (k : Str) : Nat → List (Str × MV) → Bool
  | 0, _ => true
  | n + 1, e :: l => !decide (e.1 = k) && aheadK k n l
  | _ + 1, [] => true
noncomputable def onlyK (k : Str) : Nat → List (Str × MV) → Bool
  | 0, _ :: l => l.all fun e => !decide (e.1 = k)
  | n + 1, e :: l => !decide (e.1 = k) && onlyK k n l
  | _, [] => true
theorem find_at {k : Str} {v : MV} : ∀ {j : Nat} {l : List (Str × MV)}, l[j]? = some (k, v) → aheadK k j l = true → l.find? (fun e => decide (e.1 = k)) = some (k, v)
  | 0, e :: l, h, _ => by cases h; rw [List.find?_cons, decide_eq_true rfl]
  | n + 1, e :: l, h, a => by
    simp only [aheadK, Bool.and_eq_true, Bool.not_eq_true'] at a
    rw [List.find?_cons, a.1]; exact find_at (j := n) h a.2
theorem put_at {k : Str} {v u : MV} : ∀ {j : Nat} {l : List (Str × MV)}, l[j]? = some (k, v) → onlyK k j l = true → (l.map fun e => if e.1 = k then (e.1, u) else e) = l.set j (k, u) ∧ l.any (fun e => decide (e.1 = k)) = true
  | 0, e :: l, h, a => by
    cases h
    refine ⟨?_, by rw [List.any_cons, decide_eq_true rfl]; rfl⟩
    rw [List.map_cons, if_pos rfl, List.set_cons_zero]
    refine congrArg _ ((List.map_congr_left fun e he => ?_).trans (List.map_id l))
    have : ¬ e.1 = k := by simpa using List.all_eq_true.mp a e he
    rw [if_neg this]; rfl
  | n + 1, e :: l, h, a => by
    simp only [onlyK, Bool.and_eq_true, Bool.not_eq_true'] at a
    have ⟨h1, h2⟩ := put_at (u := u) (j := n) (l := l) h a.2
    rw [List.map_cons, if_neg (of_decide_eq_false a.1), h1, List.any_cons, h2, Bool.or_true]
    exact ⟨rfl, rfl⟩
theorem g_same {x : String} {v : MV} : ∀ {l : List (String × MV)}, getL' x (setL x v l) = some v
  | [] => by rw [setL, getL', if_pos rfl]
  | (y, u) :: l => by
    rw [setL]
    by_cases q : y = x
    · rw [if_pos q, getL', if_pos q]
    · rw [if_neg q, getL', if_neg q]; exact g_same
theorem g_skip {x y : String} {u v : MV} (h : (y == x) = false) : ∀ {l : List (String × MV)}, getL' x l = some v → getL' x (setL y u l) = some v
  | [], h => by cases h
  | (z, w) :: l, g => by
    have hy : ¬ y = x := by simpa using h
    rw [getL'] at g
    rw [setL]
    by_cases q : z = y
    · rw [if_pos q, getL']
      rw [if_neg (by rw [q]; exact hy)] at g ⊢
      exact g
    · rw [if_neg q, getL']
      by_cases r : z = x
      · rw [if_pos r] at g ⊢; exact g
      · rw [if_neg r] at g ⊢; exact g_skip h g
section
variable {X : Wb} {N : Nat} {fr fr1 fr2 fr3 : MF} {s s1 s2 s3 s4 : LS} {e a b : ME} {x : String} {v u t : MV} {as : List ME} {vs us : List MV} {i j n m K : Nat} {o : MO} {fs l : List (String × MV)} {p q : Bool} {st : MSt} {sts sts2 : List MSt} {fl : MFl} {es : List (Int × MV)} {et : List (Str × MV)}
theorem set_self {l : List MV} {k : Nat} {u : MV} (h : k < l.length) : (l.set k u)[k]? = some u := by rw [List.getElem?_set, if_pos rfl, if_pos h]
theorem map_self {l : List (Str × MV)} {k k' : Str} {w u : MV} (h : l.find? (fun e => decide (e.1 = k)) = some (k', w)) : (l.map fun e => if e.1 = k then (e.1, u) else e).find? (fun e => decide (e.1 = k)) = some (k, u) := by
  induction l with
  | nil => cases h
  | cons e l ih =>
    rw [List.map_cons]
    by_cases q : e.1 = k
    · rw [if_pos q, List.find?_cons]; simp [q]
    · rw [List.find?_cons, decide_eq_false q] at h
      rw [if_neg q, List.find?_cons, decide_eq_false q]
      exact ih h
theorem app_self {l : List (Str × MV)} {k : Str} {u : MV} (h : l.find? (fun e => decide (e.1 = k)) = none) : (l ++ [(k, u)]).find? (fun e => decide (e.1 = k)) = some (k, u) := by rw [List.find?_append, h]; simp
theorem e_none  : EvL X N fr .none s .none s := ⟨fun H => em_none, id⟩
theorem e_bool  : EvL X N fr (.bool p) s (.bool p) s := ⟨fun H => em_bool, id⟩
theorem e_int {k : Int} : EvL X N fr (.int k) s (.int k) s := ⟨fun H => em_int, id⟩
theorem e_str  : EvL X N fr (.str x) s (.str (Str.ofString x)) s := ⟨fun H => em_str, id⟩
theorem e_val  : EvL X N fr (.val v) s v s := ⟨fun H => em_val, id⟩
theorem e_var (h : fr.loc[j]? = some (x, v)) (k : ahead x j fr.loc = true) : EvL X N fr (.var x) s v s := ⟨fun H => em_var (getL_at h k), id⟩
theorem e_varF (h : getL' x fr.loc = some v) : EvL X N fr (.var x) s v s := ⟨fun H => em_var h, id⟩
theorem e_cel (h : fr.cel[j]? = some (x, n)) (k : ahead x j fr.cel = true) (g : s.L[i]? = some (n, .cell (some v))) : EvL X N fr (.cel x) s v s := ⟨fun H => em_cel (getL_at h k) (H.get _ g), id⟩
theorem e_attr (d : EvL X N fr e s (.loc n) s1) (g : s1.L[i]? = some (n, .inst K fs)) (c : (attrTab K).contains x = true) (h : fs[j]? = some (x, v)) (k : ahead x j fs = true) (ok : okV v = true) : EvL X N fr (.attr e x) s v s1 := ⟨fun H => em_attr (d.ev H) (am_get X.b.toBs (Led.get (d.H H) _ g) c (getL_at h k) ok), d.H⟩
theorem e_call (d : EvL X N fr e s v s1) (ds : EvsL X N fr as s1 vs s2) (c : CaL X N v vs s2 u s3) : EvL X N fr (.call e as) s u s3 := ⟨fun H => em_call (d.ev H) (ds.ev (d.H H)) (c.ev (ds.H (d.H H))), fun H => (c.H (ds.H (d.H H)))⟩
theorem e_meth (d : EvL X N fr e s v s1) (g : MethL X s1 v x t vs) (ds : EvsL X N fr as s1 us s2) (c : CaL X N t (vs ++ us) s2 u s3) : EvL X N fr (.meth e x as) s u s3 := ⟨fun H => em_meth (d.ev H) (g.ev (d.H H)) (ds.ev (d.H H)) (c.ev (ds.H (d.H H))), fun H => (c.H (ds.H (d.H H)))⟩
theorem e_cmp {c : COp} (d : EvL X N fr a s v s1) (d2 : EvL X N fr b s1 u s2) (h : CmpL X c s2 v u p) : EvL X N fr (.cmp c a b) s (.bool p) s2 := ⟨fun H => em_cmp (d.ev H) (d2.ev (d.H H)) (h.ev (d2.H (d.H H))), fun H => (d2.H (d.H H))⟩
theorem e_bin {c : BOp} (d : EvL X N fr a s v s1) (d2 : EvL X N fr b s1 u s2) (h : BinL X c s2 v u t s3) : EvL X N fr (.bin c a b) s t s3 := ⟨fun H => em_bin (d.ev H) (d2.ev (d.H H)) (h.ev (d2.H (d.H H))), fun H => (h.H (d2.H (d.H H)))⟩
theorem e_ifeT (d : TeL X N fr e s true s1) (d2 : EvL X N fr a s1 v s2) : EvL X N fr (.ife e a b) s v s2 := ⟨fun H => em_ife (p := true) (d.ev H) (d2.ev (d.H H)), fun H => (d2.H (d.H H))⟩
theorem e_ifeF (d : TeL X N fr e s false s1) (d2 : EvL X N fr b s1 v s2) : EvL X N fr (.ife e a b) s v s2 := ⟨fun H => em_ife (p := false) (d.ev H) (d2.ev (d.H H)), fun H => (d2.H (d.H H))⟩
theorem e_sub (d : EvL X N fr a s v s1) (d2 : EvL X N fr b s1 u s2) (h : SubL X s2 v u t) : EvL X N fr (.sub a b) s t s2 := ⟨fun H => em_sub (d.ev H) (d2.ev (d.H H)) (h.ev (d2.H (d.H H))), fun H => (d2.H (d.H H))⟩
theorem e_list (ds : EvsL X N fr as s vs s1) (c : vs.length < 1000) : EvL X N fr (.list as) s (.loc s1.σ.next) (s1.new (.list vs)) := ⟨fun H => em_list (ds.ev H) c, fun H => Led.new (ds.H H) _⟩
theorem e_tup (ds : EvsL X N fr as s vs s1) (c : vs.length < 1000) : EvL X N fr (.tup as) s (.loc s1.σ.next) (s1.new (.tup vs)) := ⟨fun H => em_tup (ds.ev H) c, fun H => Led.new (ds.H H) _⟩
theorem e_dict0  : EvL X N fr (.dict [] []) s (.loc s.σ.next) (s.new (.dI [])) := ⟨fun H => em_dict0, fun H => Led.new H _⟩
theorem e_comp {elt : ME} {fv : List String} {it : ME} {cond : Option ME} {cs : List (String × Nat)} (d : EvL X N fr it s v s1) (h : IterL X s1 v vs) (hc : mCels fr fv = some cs) (hi : CoL X s1 cs x elt cond vs us) : EvL X N fr (.comp elt x fv it cond) s (.loc s1.σ.next) (s1.new (.list us)) := ⟨fun H => by obtain ⟨fb, fu, h1, rfl⟩ := hi.ev (d.H H); exact em_comp fb fu (d.ev H) (h.ev (d.H H)) hc h1, fun H => Led.new (d.H H) _⟩
theorem es_nil  : EvsL X N fr [] s [] s := ⟨fun H => ems_nil, id⟩
theorem es_cons (d : EvL X N fr e s v s1) (ds : EvsL X N fr as s1 vs s2) : EvsL X N fr (e :: as) s (v :: vs) s2 := ⟨fun H => ems_cons (d.ev H) (ds.ev (d.H H)), fun H => (ds.H (d.H H))⟩
theorem t_notT (d : TeL X N fr a s true s1) : TeL X N fr (.not a) s false s1 := ⟨fun H => tm_not (d.ev H), d.H⟩
theorem t_notF (d : TeL X N fr a s false s1) : TeL X N fr (.not a) s true s1 := ⟨fun H => tm_not (d.ev H), d.H⟩
theorem t_andT (d : TeL X N fr a s true s1) (d2 : TeL X N fr b s1 q s2) : TeL X N fr (.and a b) s q s2 := ⟨fun H => tm_andT (d.ev H) (d2.ev (d.H H)), fun H => (d2.H (d.H H))⟩
theorem t_andF (d : TeL X N fr a s false s1) : TeL X N fr (.and a b) s false s1 := ⟨fun H => tm_andF (d.ev H), d.H⟩
theorem t_orT (d : TeL X N fr a s true s1) : TeL X N fr (.or a b) s true s1 := ⟨fun H => tm_orT (d.ev H), d.H⟩
theorem t_orF (d : TeL X N fr a s false s1) (d2 : TeL X N fr b s1 q s2) : TeL X N fr (.or a b) s q s2 := ⟨fun H => tm_orF (d.ev H) (d2.ev (d.H H)), fun H => (d2.H (d.H H))⟩
theorem t_cmp {c : COp} (d : EvL X N fr a s v s1) (d2 : EvL X N fr b s1 u s2) (h : CmpL X c s2 v u p) : TeL X N fr (.cmp c a b) s p s2 := ⟨fun H => tm_cmp (d.ev H) (d2.ev (d.H H)) (h.ev (d2.H (d.H H))), fun H => (d2.H (d.H H))⟩
theorem t_of (d : EvL X N fr e s (.bool p) s1) (h : plainT e = true) : TeL X N fr e s p s1 := ⟨fun H => tm_of (d.ev H) h, d.H⟩
theorem x_nil  : ExsL X N [] fr s .next fr s := ⟨fun H => xms_nil, id⟩
theorem x_cons (d : ExL X N st fr s .next fr1 s1) (ds : ExsL X N sts fr1 s1 fl fr2 s2) : ExsL X N (st :: sts) fr s fl fr2 s2 := ⟨fun H => xms_cons (d.ev H) (ds.ev (d.H H)), fun H => (ds.H (d.H H))⟩
theorem x_stop (d : ExL X N st fr s (.ret v) fr1 s1) : ExsL X N (st :: sts) fr s (.ret v) fr1 s1 := ⟨fun H => xms_stop (d.ev H), d.H⟩
theorem x_one (d : ExL X N st fr s fl fr1 s1) : ExsL X N [st] fr s fl fr1 s1 := ⟨fun H => xms_one (d.ev H), d.H⟩
theorem x_expr (d : EvL X N fr e s v s1) : ExL X N (.expr e) fr s .next fr s1 := ⟨fun H => xm_expr (d.ev H), d.H⟩
theorem x_ret (d : EvL X N fr e s v s1) : ExL X N (.ret e) fr s (.ret v) fr s1 := ⟨fun H => xm_ret (d.ev H), d.H⟩
theorem x_retN  : ExL X N .retN fr s (.ret .none) fr s := ⟨fun H => xm_retN, id⟩
theorem x_varG (hn : notCompM e = true) (d : EvL X N fr e s v s1) (h : setL x v fr.loc = l) : ExL X N (.asg (.var x) e) fr s .next ⟨l, fr.cel, fr.law⟩ s1 := ⟨fun H => h ▸ xm_asg hn (d.ev H) sm_var, d.H⟩
theorem x_asgC {y : String} {elt : ME} {fv : List String} {it : ME} {cond : Option ME} {cs : List (String × Nat)} (d : EvL X N fr it s v s1) (h : IterL X s1 v vs) (hc : mCels fr fv = some cs) (hi : CoL X s1 cs x elt cond vs us) (hl : setL y (.loc s1.σ.next) fr.loc = l) : ExL X N (.asg (.var y) (.comp elt x fv it cond)) fr s .next ⟨l, fr.cel, fr.law⟩ (s1.new (.list us)) := ⟨fun H => by obtain ⟨fb, fu, h1, rfl⟩ := hi.ev (d.H H); exact hl ▸ xm_asgC fb fu (d.ev H) (h.ev (d.H H)) hc h1, fun H => Led.new (d.H H) _⟩
theorem x_cel {v0 : Option MV} (hn : notCompM e = true) (d : EvL X N fr e s v s1) (h : fr.cel[j]? = some (x, n)) (k : ahead x j fr.cel = true) (g : s1.L[i]? = some (n, .cell v0)) : ExL X N (.asg (.cel x) e) fr s .next fr (s1.put i n (.cell (some v))) := ⟨fun H => xm_asg hn (d.ev H) (sm_cel (getL_at h k) (Led.get (d.H H) _ g)), fun H => Led.set (d.H H) i g _⟩
theorem x_attrG (hn : notCompM e = true) (d : EvL X N fr e s v s1) (d2 : EvL X N fr a s1 (.loc n) s2) (g : s2.L[i]? = some (n, .inst K fs)) (c : (attrTab K).contains x = true) (k : fs.length < 100) (h : setL x v fs = l) : ExL X N (.asg (.attr a x) e) fr s .next fr (s2.put i n (.inst K l)) := ⟨fun H => xm_asg hn (d.ev H) (sm_attr (d2.ev (d.H H)) (am_set X.b.toBs (Led.get (d2.H (d.H H)) _ g) c k h)), fun H => Led.set (d2.H (d.H H)) i g _⟩
theorem x_sub (hn : notCompM e = true) (d : EvL X N fr e s v s1) (d2 : EvL X N fr a s1 t s2) (d3 : EvL X N fr b s2 u s3) (h : PutL X s3 t u v s4) : ExL X N (.asg (.sub a b) e) fr s .next fr s4 := ⟨fun H => xm_asg hn (d.ev H) (sm_sub (d2.ev (d.H H)) (d3.ev (d2.H (d.H H))) (h.ev (d3.H (d2.H (d.H H))))), fun H => (h.H (d3.H (d2.H (d.H H))))⟩
theorem x_augA {op : BOp} (d : EvL X N fr a s (.loc n) s1) (g : s1.L[i]? = some (n, .inst K fs)) (c : (attrTab K).contains x = true) (q : fs.length < 100) (h : fs[j]? = some (x, u)) (k : ahead x j fs = true) (ok : okV u = true) (d2 : EvL X N fr e s1 v s1) (q2 : AugM X.w op u v t) : ExL X N (.aug (.attr a x) op e) fr s .next fr (s1.put i n (.inst K (fs.set j (x, t)))) := ⟨fun H => xm_augA (d.ev H) (am_get X.b.toBs (Led.get (d.H H) _ g) c (getL_at h k) ok) (d2.ev (d.H H)) q2 (am_set X.b.toBs (Led.get (d.H H) _ g) c q (setL_at h k)), fun H => Led.set (d.H H) i g _⟩
theorem x_augS {op : BOp} {k : MV} (d : EvL X N fr a s (.loc n) s1) (d2 : EvL X N fr b s1 k s2) (r : SubL X s2 (.loc n) k u) (d3 : EvL X N fr e s2 v s3) (q2 : AugM X.w op u v t) (p : PutL X s3 (.loc n) k t s4) : ExL X N (.aug (.sub a b) op e) fr s .next fr s4 := ⟨fun H => xm_augS (d.ev H) (d2.ev (d.H H)) (r.ev (d2.H (d.H H))) (d3.ev (d2.H (d.H H))) q2 (p.ev (d3.H (d2.H (d.H H)))), fun H => (p.H (d3.H (d2.H (d.H H))))⟩
theorem x_iteT (d : TeL X N fr e s true s1) (d2 : ExsL X N sts fr s1 fl fr1 s2) : ExL X N (.ite e sts sts2) fr s fl fr1 s2 := ⟨fun H => xm_ite (p := true) (d.ev H) (d2.ev (d.H H)), fun H => (d2.H (d.H H))⟩
theorem x_iteF (d : TeL X N fr e s false s1) (d2 : ExsL X N sts2 fr s1 fl fr1 s2) : ExL X N (.ite e sts sts2) fr s fl fr1 s2 := ⟨fun H => xm_ite (p := false) (d.ev H) (d2.ev (d.H H)), fun H => (d2.H (d.H H))⟩
theorem x_forL0 {bd : List MSt} (d : EvL X N fr e s (.loc n) s1) (g : s1.L[i]? = some (n, .list [])) : ExL X N (.forL x e bd) fr s .next fr s1 := ⟨fun H => xm_forL (d.ev H) (Led.get (d.H H) _ g) (.nil (Led.get (d.H H) _ g)), d.H⟩
theorem r_idx {k : Nat} (g : s.L[i]? = some (n, .list vs)) (c : vs.length < 1000) (h : vs[k]? = some v) : SubL X s (.loc n) (.int (k : Int)) v := ⟨fun H => rm_idx (H.get _ g) c h⟩
theorem r_last (g : s.L[i]? = some (n, .list vs)) (c : vs.length < 1000) (h : vs.getLast? = some v) : SubL X s (.loc n) (.int (-1)) v := ⟨fun H => rm_last (H.get _ g) c h⟩
theorem r_key {k k' : Str} (g : s.L[i]? = some (n, .dS et)) (h : et.find? (fun e => e.1 = k) = some (k', v)) : SubL X s (.loc n) (.str k) v := ⟨fun H => rm_key (dkS X.w) (H.get _ g) h⟩
theorem r_keyI {k k' : Int} (g : s.L[i]? = some (n, .dI es)) (h : es.find? (fun e => e.1 = k) = some (k', v)) : SubL X s (.loc n) (.int k) v := ⟨fun H => rm_key (dkI X.w) (H.get _ g) h⟩
theorem p_list {k : Nat} (g : s.L[i]? = some (n, .list vs)) (c : k < vs.length) (c2 : vs.length < 1000) : PutL X s (.loc n) (.int (k : Int)) u (s.put i n (.list (vs.set k u))) := ⟨fun H => pm_list (H.get _ g) c c2, fun H => Led.set H i g _⟩
theorem p_key {k : Str} (g : s.L[i]? = some (n, .dS et)) (h : et.any (fun e => e.1 = k) = true) (c : et.length < 1000) : PutL X s (.loc n) (.str k) u (s.put i n (.dS (et.map fun e => if e.1 = k then (e.1, u) else e))) := ⟨fun H => pm_key (dkS X.w) (H.get _ g) h c, fun H => Led.set H i g _⟩
theorem p_keyN {k : Str} (g : s.L[i]? = some (n, .dS et)) (h : et.any (fun e => e.1 = k) = false) (c : et.length < 1000) : PutL X s (.loc n) (.str k) u (s.put i n (.dS (et ++ [(k, u)]))) := ⟨fun H => pm_keyN (dkS X.w) (H.get _ g) h c, fun H => Led.set H i g _⟩
theorem p_key0 {k : Str} (g : s.L[i]? = some (n, .dI [])) : PutL X s (.loc n) (.str k) u (s.put i n (.dS [(k, u)])) := ⟨fun H => pm_key0 (H.get _ g), fun H => Led.set H i g _⟩
theorem p_keyJ {k : Str} {v0 : MV} (g : s.L[i]? = some (n, .dS et)) (h : et[j]? = some (k, v0)) (a : onlyK k j et = true) (c : et.length < 1000) : PutL X s (.loc n) (.str k) u (s.put i n (.dS (et.set j (k, u)))) := ⟨fun H => (put_at (u := u) h a).1 ▸ pm_key (dkS X.w) (H.get _ g) (put_at (u := u) h a).2 c, fun H => Led.set H i g _⟩
theorem p_keyI {k : Int} (g : s.L[i]? = some (n, .dI es)) (h : es.any (fun e => e.1 = k) = true) (c : es.length < 1000) : PutL X s (.loc n) (.int k) u (s.put i n (.dI (es.map fun e => if e.1 = k then (e.1, u) else e))) := ⟨fun H => pm_key (dkI X.w) (H.get _ g) h c, fun H => Led.set H i g _⟩
theorem p_keyIN {k : Int} (g : s.L[i]? = some (n, .dI es)) (h : es.any (fun e => e.1 = k) = false) (c : es.length < 1000) : PutL X s (.loc n) (.int k) u (s.put i n (.dI (es ++ [(k, u)]))) := ⟨fun H => pm_keyN (dkI X.w) (H.get _ g) h c, fun H => Led.set H i g _⟩
theorem k_int {c : COp} {y z : Int} (h : cmpI c y z = some p) : CmpL X c s (.int y) (.int z) p := ⟨fun H => km_int h⟩
theorem k_is (hj : notJ v = true) (h : (v == .none) = p) : CmpL X .isN s v .none p := ⟨fun H => h ▸ km_is hj⟩
theorem k_isnt (hj : notJ v = true) (h : (!(v == .none)) = p) : CmpL X .notN s v .none p := ⟨fun H => h ▸ km_isnt hj⟩
theorem k_eqT (g : s.L[i]? = some (n, .list vs)) (g2 : s.L[j]? = some (m, .list [])) (h : vs.isEmpty = true) : CmpL X .eq s (.loc n) (.loc m) true := ⟨fun H => by have := km_eqn (base := X.base) (w := X.w) (H.get _ g) (H.get _ g2); rwa [h] at this⟩
theorem k_eqF (g : s.L[i]? = some (n, .list vs)) (g2 : s.L[j]? = some (m, .list [])) (h : vs.isEmpty = false) : CmpL X .eq s (.loc n) (.loc m) false := ⟨fun H => by have := km_eqn (base := X.base) (w := X.w) (H.get _ g) (H.get _ g2); rwa [h] at this⟩
theorem k_neT (g : s.L[i]? = some (n, .list vs)) (g2 : s.L[j]? = some (m, .list [])) (h : vs.isEmpty = false) : CmpL X .ne s (.loc n) (.loc m) true := ⟨fun H => by have := km_nen (base := X.base) (w := X.w) (H.get _ g) (H.get _ g2); rwa [h] at this⟩
theorem k_neF (g : s.L[i]? = some (n, .list vs)) (g2 : s.L[j]? = some (m, .list [])) (h : vs.isEmpty = true) : CmpL X .ne s (.loc n) (.loc m) false := ⟨fun H => by have := km_nen (base := X.base) (w := X.w) (H.get _ g) (H.get _ g2); rwa [h] at this⟩
theorem i_getS1 {k k' : Str} (g : s.L[i]? = some (n, .dS et)) (h : et.find? (fun e => e.1 = k) = some (k', v)) : BiL X "dict.get" [.loc n, .str k] s v s := ⟨fun H => im_get1 (dkS X.w) (H.get _ g) h, id⟩
theorem i_getS0 {k : Str} (g : s.L[i]? = some (n, .dS et)) (h : et.find? (fun e => e.1 = k) = none) : BiL X "dict.get" [.loc n, .str k] s .none s := ⟨fun H => im_get0 (dkS X.w) (H.get _ g) h, id⟩
theorem k_ninS1 {k k' : Str} (g : s.L[i]? = some (n, .dS et)) (h : et.find? (fun e => e.1 = k) = some (k', v)) : CmpL X .nin s (.str k) (.loc n) false := ⟨fun H => by have := km_nin (base := X.base) (dkS X.w) (k := k) (H.get _ g); rwa [h] at this⟩
theorem k_ninS0 {k : Str} (g : s.L[i]? = some (n, .dS et)) (h : et.find? (fun e => e.1 = k) = none) : CmpL X .nin s (.str k) (.loc n) true := ⟨fun H => by have := km_nin (base := X.base) (dkS X.w) (k := k) (H.get _ g); rwa [h] at this⟩
theorem i_dpopS {k k' : Str} (g : s.L[i]? = some (n, .dS et)) (h : et.find? (fun e => e.1 = k) = some (k', v)) (c : et.length < 1000) : BiL X "dict.pop" [.loc n, .str k] s v (s.put i n (.dS (et.filter fun e => decide (e.1 ≠ k)))) := ⟨fun H => im_pop1 (dkS X.w) (H.get _ g) h c, fun H => Led.set H i g _⟩
theorem i_getI1 {k k' : Int} (g : s.L[i]? = some (n, .dI es)) (h : es.find? (fun e => e.1 = k) = some (k', v)) : BiL X "dict.get" [.loc n, .int k] s v s := ⟨fun H => im_get1 (dkI X.w) (H.get _ g) h, id⟩
theorem i_getI0 {k : Int} (g : s.L[i]? = some (n, .dI es)) (h : es.find? (fun e => e.1 = k) = none) : BiL X "dict.get" [.loc n, .int k] s .none s := ⟨fun H => im_get0 (dkI X.w) (H.get _ g) h, id⟩
theorem k_innI1 {k k' : Int} (g : s.L[i]? = some (n, .dI es)) (h : es.find? (fun e => e.1 = k) = some (k', v)) : CmpL X .inn s (.int k) (.loc n) true := ⟨fun H => by have := km_in (base := X.base) (dkI X.w) (k := k) (H.get _ g); rwa [h] at this⟩
theorem k_innI0 {k : Int} (g : s.L[i]? = some (n, .dI es)) (h : es.find? (fun e => e.1 = k) = none) : CmpL X .inn s (.int k) (.loc n) false := ⟨fun H => by have := km_in (base := X.base) (dkI X.w) (k := k) (H.get _ g); rwa [h] at this⟩
theorem i_dpopDI {k k' : Int} (g : s.L[i]? = some (n, .dI es)) (h : es.find? (fun e => e.1 = k) = some (k', u)) (c : es.length < 1000) : BiL X "dict.pop" [.loc n, .int k, v] s u (s.put i n (.dI (es.filter fun e => decide (e.1 ≠ k)))) := ⟨fun H => im_pop2 (dkI X.w) (H.get _ g) h c, fun H => Led.set H i g _⟩
theorem i_dpop0 {k : Int} (g : s.L[i]? = some (n, .dI [])) : BiL X "dict.pop" [.loc n, .int k, v] s v s := ⟨fun H => im_pop0 (dkI X.w) (H.get _ g) rfl, id⟩
theorem i_get00 {k : Str} (g : s.L[i]? = some (n, .dI [])) : BiL X "dict.get" [.loc n, .str k] s .none s := ⟨fun H => im_get00 (H.get _ g), id⟩
theorem k_nin00 {k : Str} (g : s.L[i]? = some (n, .dI [])) : CmpL X .nin s (.str k) (.loc n) true := ⟨fun H => km_nin00 (H.get _ g)⟩
theorem b_add {y z : Int} : BinL X .add s (.int y) (.int z) (.int (y + z)) s := ⟨fun _ => om_add, id⟩
theorem b_sub {y z : Int} : BinL X .sub s (.int y) (.int z) (.int (y - z)) s := ⟨fun _ => om_sub, id⟩
theorem b_mul {y z : Int} (h : y.natAbs < 1000000) : BinL X .mul s (.int y) (.int z) (.int (y * z)) s := ⟨fun _ => om_mul h, id⟩
theorem b_fdiv {y z : Int} (h : 0 < z ∧ z < 1000000) : BinL X .fdiv s (.int y) (.int z) (.int (Int.fdiv y z)) s := ⟨fun _ => om_fdiv h, id⟩
theorem b_mod {y z : Int} (h : 0 < z) : BinL X .mod s (.int y) (.int z) (.int (Int.fmod y z)) s := ⟨fun _ => om_mod h, id⟩
theorem b_addS {y z : Str} (c : y.length < 10) (c2 : z.length < 10) : BinL X .add s (.str y) (.str z) (.str (y ++ z)) s := ⟨fun _ => om_addS c c2, id⟩
theorem b_addL (g : s.L[i]? = some (n, .list vs)) (g2 : s.L[j]? = some (m, .list us)) (c : vs.length < 1000) (c2 : us.length < 1000) : BinL X .add s (.loc n) (.loc m) (.loc s.σ.next) (s.new (.list (vs ++ us))) := ⟨fun H => om_addL (H.get _ g) (H.get _ g2) c c2, fun H => Led.new H _⟩
theorem b_mulL {k : Int} (g : s.L[i]? = some (n, .list [v])) (c : 0 ≤ k ∧ k < 100) : BinL X .mul s (.loc n) (.int k) (.loc s.σ.next) (s.new (.list (List.replicate k.toNat v))) := ⟨fun H => om_mulL (H.get _ g) c, fun H => Led.new H _⟩
theorem r_iter (g : s.L[i]? = some (n, .list vs)) (c : vs.length < 1000) (p : vs.all plainV = true) : IterL X s (.loc n) vs := ⟨fun H => tm_list (H.get _ g) c p⟩
theorem r_iterS (g : s.L[i]? = some (n, .dS et)) (c : et.length < 1000) : IterL X s (.loc n) (et.map fun e => .str e.1) := ⟨fun H => tm_keysS (H.get _ g) c⟩
theorem r_iterI (g : s.L[i]? = some (n, .dI es)) (c : es.length < 1000) : IterL X s (.loc n) (es.map fun e => .int e.1) := ⟨fun H => tm_keysI (H.get _ g) c⟩
theorem r_some {cs : List (String × Nat)} {vs us : List MV} (hj : vs.all plainV = true) (h : vs.filter (fun m => !(m == .none)) = us) : CoL X s cs "one" (.var "one") (some (.cmp .notN (.var "one") .none)) vs us := ⟨fun H => ⟨fun m => !(m == .none), id, fun m hm =>
  ⟨pt_cmp (pu_var rfl) pu_none (km_isnt (by have := List.all_eq_true.mp hj m hm; cases m <;> first | rfl | cases this)), fun _ => pu_var rfl⟩, by rw [List.map_id]; exact h⟩⟩
theorem r_nil {cs : List (String × Nat)} {elt : ME} {cond : Option ME} : CoL X s cs x elt cond [] [] := ⟨fun _ => ⟨fun _ => true, id, fun m hm => (by cases hm), rfl⟩⟩
theorem r_none {cs : List (String × Nat)} : CoL X s cs "one" (.var "one") (some (.cmp .notN (.var "one") .none)) [.none] [] := r_some rfl rfl
theorem a_nil : AsV X N [] [] l l := ⟨fun _ _ _ => .nil⟩
theorem a_cons {ts : List MT} {l1 l2 : List (String × MV)} (h : setL x v l = l1) (d : AsV X N ts vs l1 l2) : AsV X N (.var x :: ts) (v :: vs) l l2 := ⟨fun _ _ _ => .cons sm_var (h ▸ d.go _ _ _)⟩
theorem x_asgT {ts : List MT} (d : EvL X N fr e s (.loc n) s1) (g : s1.L[i]? = some (n, .tup vs)) (h : AsV X N ts vs fr.loc l) : ExL X N (.asgT ts e) fr s .next ⟨l, fr.cel, fr.law⟩ s1 := ⟨fun H => xm_asgT (d.ev H) (Led.get (d.H H) _ g) (h.go fr.cel fr.law s1.σ), d.H⟩
theorem i_pop (g : s.L[i]? = some (n, .list (vs ++ [v]))) (c : vs.length + 1 < 1000) : BiL X "list.pop" [.loc n] s v (s.put i n (.list vs)) := ⟨fun H => im_pop (H.get _ g) c, fun H => Led.set H i g _⟩
theorem i_append (g : s.L[i]? = some (n, .list vs)) (c : vs.length < 1000) : BiL X "list.append" [.loc n, v] s .none (s.put i n (.list (vs ++ [v]))) := ⟨fun H => im_append (H.get _ g) c, fun H => Led.set H i g _⟩
theorem i_len (g : s.L[i]? = some (n, .list vs)) (c : vs.length < 1000) : BiL X "len" [.loc n] s (.int vs.length) s := ⟨fun H => im_len (H.get _ g) c, id⟩
theorem i_lenS (g : s.L[i]? = some (n, .dS et)) (c : et.length < 1000) : BiL X "len" [.loc n] s (.int et.length) s := ⟨fun H => im_lenS (H.get _ g) c, id⟩
theorem i_lenI (g : s.L[i]? = some (n, .dI es)) (c : es.length < 1000) : BiL X "len" [.loc n] s (.int es.length) s := ⟨fun H => im_lenI (H.get _ g) c, id⟩
theorem i_maxL {a b : Int} (h : ¬ b > a) : BiL X "max" [.int a, .int b] s (.int a) s := ⟨fun _ => im_maxL h, id⟩
theorem i_maxR {a b : Int} (h : b > a) : BiL X "max" [.int a, .int b] s (.int b) s := ⟨fun _ => im_maxR h, id⟩
theorem i_isi {D : Nat} (g : s.L[i]? = some (n, .inst K fs)) (h : isClass.contains D = true) (h2 : instList.contains K = true) (h3 : subTab K D = p) : BiL X "isinstance" [.loc n, .top D] s (.bool p) s := ⟨fun H => im_isi X.b.toBs (H.get _ g) h h2 h3, id⟩
theorem i_isiN {D : Nat} (h : isClass.contains D = true) : BiL X "isinstance" [.none, .top D] s (.bool false) s := ⟨fun _ => im_isiN X.b.toBs h, id⟩
theorem i_extend (g : s.L[i]? = some (n, .list vs)) (g2 : s.L[j]? = some (m, .list us)) (c : vs.length < 1000) (c2 : us.length < 1000) : BiL X "list.extend" [.loc n, .loc m] s .none (s.put i n (.list (vs ++ us))) := ⟨fun H => im_extend (H.get _ g) (H.get _ g2) c c2, fun H => Led.set H i g _⟩
theorem m_inst {f : Nat} (g : s.L[i]? = some (n, .inst K fs)) (h : methTab K x = some f) (k : noKey x fs = true) : MethL X s (.loc n) x (.top f) [.loc n] := ⟨fun H => mm_inst X.b.toBs (H.get _ g) h (getL_no k)⟩
theorem m_field (g : s.L[i]? = some (n, .inst K fs)) (h0 : methTab K x = none) (c : (attrTab K).contains x = true) (h : fs[j]? = some (x, v)) (k : ahead x j fs = true) (ok : okV v = true) : MethL X s (.loc n) x v [] := ⟨fun H => mm_field X.b.toBs (H.get _ g) c (getL_at h k) ok⟩
theorem m_append (g : s.L[i]? = some (n, .list vs)) : MethL X s (.loc n) "append" (.bi "list.append") [.loc n] := ⟨fun H => mm_append (H.get _ g)⟩
theorem m_pop (g : s.L[i]? = some (n, .list vs)) : MethL X s (.loc n) "pop" (.bi "list.pop") [.loc n] := ⟨fun H => mm_pop (H.get _ g)⟩
theorem m_extend (g : s.L[i]? = some (n, .list vs)) : MethL X s (.loc n) "extend" (.bi "list.extend") [.loc n] := ⟨fun H => mm_extend (H.get _ g)⟩
theorem m_getI (g : s.L[i]? = some (n, .dI es)) : MethL X s (.loc n) "get" (.bi "dict.get") [.loc n] := ⟨fun H => mm_dget (dkI X.w) (H.get _ g)⟩
theorem m_getS (g : s.L[i]? = some (n, .dS et)) : MethL X s (.loc n) "get" (.bi "dict.get") [.loc n] := ⟨fun H => mm_dget (dkS X.w) (H.get _ g)⟩
theorem m_popI (g : s.L[i]? = some (n, .dI es)) : MethL X s (.loc n) "pop" (.bi "dict.pop") [.loc n] := ⟨fun H => mm_dpop (dkI X.w) (H.get _ g)⟩
theorem m_popS (g : s.L[i]? = some (n, .dS et)) : MethL X s (.loc n) "pop" (.bi "dict.pop") [.loc n] := ⟨fun H => mm_dpop (dkS X.w) (H.get _ g)⟩
theorem m_77  : MethL X s (.top 77) "__init__" (.top 74) [] := ⟨fun H => mm_cls X.b.toBs⟩
theorem c_bi {f : String} (h : BiL X f vs s v s1) : CaL X N (.bi f) vs s v s1 := ⟨fun H => cm_bi (h.ev H), h.H⟩
theorem c_str {k : Int} (h : 0 ≤ k ∧ k < 10) : CaL X N (.typ "str") [.int k] s (.str (Str.ofString (toString k))) s := ⟨fun _ => cm_typ (im_str h), id⟩
theorem f_fn {n : Nat} {fd : MFun} (h2 : funTab n = some fd) (h : fd.dflt.isEmpty = true) (h3 : fd.cells.isEmpty = true) (h4 : fd.params.length = vs.length) (d : ExsL X N fd.body ⟨fd.params.zip vs, [], false⟩ s fl fr1 s2) (e : outOf fl = v) : FnL X (N + 1) n vs s v s2 := ⟨fun H => e ▸ fm_fn h2 h h3 h4 (d.ev H), d.H⟩
theorem f_191 (d : ExsL X N b191 ⟨[("self", v), ("target", u), ("is_weak", .bool false)], [], false⟩ s fl fr1 s2) (e : outOf fl = t) : FnL X (N + 1) 191 [v, u] s t s2 := ⟨fun H => e ▸ fm_191 (d.ev H), d.H⟩
theorem c_fn {n : Nat} {fd : MFun} (h2 : funTab n = some fd) (h : fd.dflt.isEmpty = true) (h3 : fd.cells.isEmpty = true) (h4 : fd.params.length = vs.length) (d : ExsL X N fd.body ⟨fd.params.zip vs, [], false⟩ s fl fr1 s2) (e : outOf fl = v) : CaL X (N + 1) (.top n) vs s v s2 := ⟨fun H => cm_top h2 (e ▸ fm_fn h2 h h3 h4 (d.ev H)), d.H⟩
theorem c_535 {w : MV} (d : ExsL X N b535 ⟨[("self", v), ("value", w)], [("scalar", s.σ.next)], false⟩ (s.new (.cell (some u))) fl fr1 s2) (e : outOf fl = t) : CaL X (N + 1) (.top 535) [v, u, w] s t s2 := ⟨fun H => cm_top rfl (e ▸ fm_cell rfl rfl rfl rfl (d.ev (Led.new H _))), fun H => d.H (Led.new H _)⟩
theorem c_476 (d : ExsL X N b476 ⟨[], [("thing", s.σ.next)], false⟩ (s.new (.cell (some u))) fl fr1 s2) (e : outOf fl = t) : CaL X (N + 1) (.top 476) [u] s t s2 := ⟨fun H => cm_top rfl (e ▸ fm_cell rfl rfl rfl rfl (d.ev (Led.new H _))), fun H => d.H (Led.new H _)⟩
theorem c_646 (d : ExsL X N b646 ⟨[], [("own", s.σ.next)], false⟩ (s.new (.cell (some u))) fl fr1 s2) (e : outOf fl = t) : CaL X (N + 1) (.top 646) [u] s t s2 := ⟨fun H => cm_top rfl (e ▸ fm_cell rfl rfl rfl rfl (d.ev (Led.new H _))), fun H => d.H (Led.new H _)⟩
theorem c_322 {q : Nat} {k : Str} (g : s.L[i]? = some (m, .inst 136 fs)) (h : fs[j]? = some ("table", .loc q)) (a : ahead "table" j fs = true) (g2 : s.L[K]? = some (q, .dS et)) : CaL X (N + 1) (.top 322) [.loc m, .str k] s (.int (keyPlace k (et.map (·.1)) 0)) s := ⟨fun H => cm_322 (H.get _ g) (getL_at h a) (H.get _ g2), id⟩
noncomputable def eDestroy : ME := .meth (.cel "gone") "append" [.attr (.var "thing") "number"]
noncomputable def eElem : ME := match b_elem with | [.ret e] => e | _ => .bad
theorem c_loc0 {cs : List (String × Nat)} (g : s.L[i]? = some (m, .fn 0 cs)) (d : EvL X N ⟨[("thing", u)], cs, false⟩ eDestroy s v s2) : CaL X (N + 1) (.loc m) [u] s v s2 := ⟨fun H => cm_ret (H.get _ g) rfl rfl rfl (d.ev H), d.H⟩
theorem c_loc1 {cs : List (String × Nat)} (g : s.L[i]? = some (m, .fn 1 cs)) (d : EvL X N ⟨[("key", u)], cs, false⟩ eElem s v s2) : CaL X (N + 1) (.loc m) [u] s v s2 := ⟨fun H => cm_ret (H.get _ g) rfl rfl rfl (d.ev H), d.H⟩
theorem c_new {c f : Nat} (h : initTab c = some f) (d : FnL X N f (.loc s.σ.next :: vs) (s.new (.inst c [])) .none s1) : CaL X (N + 1) (.top c) vs s (.loc s.σ.next) s1 := ⟨fun H => cm_new h (d.ev (Led.new H _)), fun H => d.H (Led.new H _)⟩
theorem at_has {C : Nat} (h : "count" ∈ attrTab C) : (attrTab C).contains "count" = true := List.contains_iff_mem.mpr h
end
theorem run_ex (X : Wb) (N : Nat) (b : List MSt) (fr : MF) {σ : MS} {L : List (Nat × MO)} (H : Led σ L) {P : Prop} (fl : MFl) (fr' : MF) (s' : LS) (d : ExsL X N b fr ⟨σ, L⟩ fl fr' s') (k : ExsM X N b fr σ fl fr' s'.σ → Led s'.σ s'.L → P) : P := k (d.ev H) (d.H H)
theorem run_ev (X : Wb) (N : Nat) (e : ME) (fr : MF) {σ : MS} {L : List (Nat × MO)} (H : Led σ L) {P : Prop} (v : MV) (s' : LS) (d : EvL X N fr e ⟨σ, L⟩ v s') (k : EvM X N fr e σ v s'.σ → Led s'.σ s'.L → P) : P := k (d.ev H) (d.H H)
theorem run_st (X : Wb) (N : Nat) (st : MSt) (fr : MF) {σ : MS} {L : List (Nat × MO)} (H : Led σ L) {P : Prop} (fl : MFl) (fr' : MF) (s' : LS) (d : ExL X N st fr ⟨σ, L⟩ fl fr' s') (k : ExM X N st fr σ fl fr' s'.σ → Led s'.σ s'.L → P) : P := k (d.ev H) (d.H H)
theorem run_te (X : Wb) (N : Nat) (e : ME) (fr : MF) {σ : MS} {L : List (Nat × MO)} (H : Led σ L) {P : Prop} (b : Bool) (s' : LS) (d : TeL X N fr e ⟨σ, L⟩ b s') (k : TeM X N fr e σ b s'.σ → Led s'.σ s'.L → P) : P := k (d.ev H) (d.H H)
theorem run_then (X : Wb) (N : Nat) (f : MV) (args : List MV) {σ : MS} {L : List (Nat × MO)} (H : Led σ L) {P : Prop} (v : MV) (s' : LS) (d : CaL X N f args ⟨σ, L⟩ v s') (k : CaM X N f args [] σ v s'.σ → Led s'.σ s'.L → P) : P := k (d.ev H) (d.H H)
theorem Led.dropN {σ : MS} {L : List (Nat × MO)} (h : Led σ L) (k : Nat) : Led σ (L.drop k) := ⟨fun p hp => h.at_ p (List.mem_of_mem_drop hp), h.nd.sublist ((List.drop_sublist k L).map _), fun p hp => h.lt p (List.mem_of_mem_drop hp)⟩
theorem Led.pick {σ : MS} {L F' R : List (Nat × MO)} (H : Led σ L) (is : List Nat) (k : Nat) (hn : is.Nodup) (hk : is.all (fun i => Nat.blt i k) = true) (hR : L.drop k = R) (hF : is.filterMap (fun i => L[i]?) = F') : Led σ (F' ++ R) := by
  subst hR
  subst hF
  have h1 : ∀ l : List Nat, l.Nodup → l.all (fun i => Nat.blt i k) = true → ((l.filterMap fun i => L[i]?).map (·.1) ++ (L.drop k).map (·.1)).Nodup := by
    intro l
    induction l with
    | nil =>
      intro _ _
      exact H.nd.sublist ((List.drop_sublist k L).map _)
    | cons i l ih =>
      intro hn hk
      have hn := List.nodup_cons.mp hn
      have hk : Nat.blt i k = true ∧ l.all (fun i => Nat.blt i k) = true := by simpa using hk
      have ih := ih hn.2 hk.2
      rw [List.filterMap_cons]
      cases e : L[i]? with
      | none => exact ih
      | some p =>
        have hi : Nat.blt i k = true := hk.1
        have hik : i < k := by simpa using hi
        refine List.nodup_cons.mpr ⟨fun hm => ?_, ih⟩
        have key : ∀ j : Nat, i ≠ j → ∀ q, L[j]? = some q → q.1 ≠ p.1 := by
          intro j hj q hq he
          have hnd := List.nodup_iff_pairwise_ne.mp H.nd
          rw [List.pairwise_iff_getElem] at hnd
          obtain ⟨h1, h2⟩ := List.getElem?_eq_some_iff.mp e
          obtain ⟨h3, h4⟩ := List.getElem?_eq_some_iff.mp hq
          rcases Nat.lt_or_gt_of_ne hj with h | h
          · exact hnd i j (by simpa using h1) (by simpa using h3) h (by simp [h2, h4, he])
          · exact hnd j i (by simpa using h3) (by simpa using h1) h (by simp [h2, h4, he])
        rcases List.mem_append.mp hm with hm | hm
        · obtain ⟨q, hq, he⟩ := List.mem_map.mp hm
          obtain ⟨j, hj, hq⟩ := List.mem_filterMap.mp hq
          exact key j (fun h => hn.1 (h ▸ hj)) q hq he
        · obtain ⟨q, hq, he⟩ := List.mem_map.mp hm
          obtain ⟨j, hj, hq⟩ := List.getElem_of_mem hq
          rw [List.getElem_drop] at hq
          exact key (k + j) (by lia) q (by rw [← hq]; exact List.getElem?_eq_getElem _) he
  have h2 : ∀ p ∈ is.filterMap (fun i => L[i]?) ++ L.drop k, p ∈ L := fun p hp => by
    rcases List.mem_append.mp hp with hp | hp
    · obtain ⟨j, _, hq⟩ := List.mem_filterMap.mp hp
      exact List.mem_of_getElem? hq
    · exact List.mem_of_mem_drop hp
  exact ⟨fun p hp => H.at_ p (h2 p hp), by rw [List.map_append]; exact h1 is hn hk, fun p hp => H.lt p (h2 p hp)⟩
end Mine
end
section
set_option compiler.extract_closed false
namespace Mine
open PySem
theorem osA {a b : Bool} (h : a = b) : some a = some b := congrArg some h
theorem osT {p : Prop} [Decidable p] (h : p) : some (decide p) = some true := congrArg some (decide_eq_true h)
theorem osF {p : Prop} [Decidable p] (h : ¬ p) : some (decide p) = some false := congrArg some (decide_eq_false h)
theorem isTT {a : Option Bool} (h : a = some true) : a = some true := h
theorem isFF {a : Option Bool} (h : a = some false) : a = some false := h
theorem ibT {a : Bool} (h : a = true) : a = true := h
theorem ibF {a : Bool} (h : a = false) : a = false := h
def nodeOf (k : Lean.Name) (s : String) : Lean.TSyntax `tactic := ⟨.node .none k #[.atom .none s]⟩
def tac0 (c : Char) : Lean.MacroM (Lean.TSyntax `tactic) :=
  let go (s : String) := nodeOf (Lean.Name.mkStr `PyProof.Rows ("tactic" ++ s)) s.decapitalize
  match c with
  | 'L' => `(tactic| lia)
  | 'N' => `(tactic| (simp; lia))
  | 'E' => `(tactic| exact rfl)
  | c => pure (match c with
    | 'e' => go "Pv_eval" | 'l' => go "Leaf_len" | 'p' => go "Fin_places" | 'm' => go "Top_name" | 'g' => go "Got_up" | 'b' => go "Top_args" | 'c' => go "Top_argsB"
    | 'x' => go "One_place" | 'i' => go "One_item" | 't' => go "Units_room" | 's' => go "One_sign" | 'S' => go "Top_strB"
    | 'n' => nodeOf `PySem.tacticNone_booked "none_booked"
    | 'k' => nodeOf `tacticKernel_rfl "kernel_rfl"
    | 'a' => nodeOf ``Lean.Parser.Tactic.assumption "assumption"
    | _ => nodeOf ``Lean.Parser.Tactic.tacticRfl "rfl")
def altsBy (f : Char → Lean.MacroM (Lean.TSyntax `tactic)) (s : String) : Lean.MacroM (Lean.TSyntax `tactic) := do
  let l ← (s.splitOn " ").mapM fun s => match s.splitOn ":" with
    | [x, ts] => do
      let l ← ts.toList.mapM f
      let l := l.toArray
      let n := Lean.mkIdent x.toName
      if x == "" then `(tactic| ($[$l];*)) else if ts == "" then `(tactic| exact $n) else `(tactic| (apply $n; $[$l];*))
    | _ => f 'r'
  let l := l.toArray
  `(tactic| first $[| $l:tactic]*)
def altsOf : String → Lean.MacroM (Lean.TSyntax `tactic) := altsBy fun
  | 'M' => altsBy tac0 ":L :N"
  | 'G' => altsBy tac0 "gm_add: gm_sub:"
  | 'B' => altsBy tac0 "ibT:E ibF:E :a :r"
  | 'I' => altsBy tac0 "isTT:E isFF:E osA:a osT:L osF:L :r"
  | c => tac0 c
def ixsOf (k : Nat) : Lean.MacroM (Lean.TSyntax `tactic) := do
  let x := Lean.mkIdent `ixr
  let l ← (List.range k).mapM fun i => `(tactic| exact $x $(Lean.Quote.quote i) rfl)
  let l := l.toArray
  `(tactic| first $[| $l:tactic]*)
end Mine
end
local macro_rules | `(tactic| leaf_len) => Mine.altsOf "ix0: ix1: ix2: ix3: ix4: ix5: ix6: ix7: ix8: ix9: ix10: ix11: ix12:"
local macro_rules | `(tactic| one_sign) => Mine.altsOf "a_nil: a_cons:ss setL_at:lk setL_no:k :r"
local macro_rules | `(tactic| top_strB) => Mine.altsOf ":a g_same: g_skip:kS"
local macro_rules | `(tactic| none_booked) => Mine.altsOf "find_at:lk :r set_self:M map_self:a app_self:a Nat.le_of_ble_eq_true:E :a at_has:a :L :N"
local macro_rules | `(tactic| pv_eval) => Mine.altsOf "es_nil: es_cons:ee e_var:lk e_varF:S e_attr:elnlkn e_val: e_none: e_int: e_bool: e_str: e_meth:emeg e_call:eeg e_cel:lkl e_list:en e_tup:en e_dict0: e_cmp:eep e_bin:eep e_sub:eep e_ifeT:te e_ifeF:te e_comp:eprp"
local macro_rules | `(tactic| units_room) => Mine.altsOf "t_cmp:eep t_notT:t t_notF:t t_andT:tt t_andF:t t_orT:t t_orF:tt t_of:er"
local macro_rules | `(tactic| one_place) => Mine.altsOf "x_expr:e x_ret:e x_retN: x_varG:res x_attrG:reelnns x_augA:elnnlkneG x_iteT:ti x_iteF:ti x_cel:relkl x_forL0:el x_sub:reeep x_asgT:els x_augS:eepeGp x_asgC:eprps"
local macro_rules | `(tactic| one_item) => Mine.altsOf "x_one:x x_cons:xi x_nil: x_stop:x"
local macro_rules | `(tactic| fin_places) => Mine.altsOf "k_int:I k_is:rB k_isnt:rB r_idx:lnn r_key:ln r_keyI:ln p_list:lnn p_keyJ:llkn p_keyI:lnn p_keyIN:lnn p_key:lnn p_keyN:lnn p_key0:l b_add: b_sub: b_addS:nn b_mulL:ln b_addL:llnn k_innI1:ln k_innI0:ln k_ninS1:ln k_ninS0:ln k_nin00:l k_eqT:lln k_eqF:lln k_neT:lln k_neF:lln r_nil: r_none: r_iter:lnn r_iterI:ln r_iterS:ln r_last:lnn b_mul:n b_fdiv:n b_mod:n :c"
local macro_rules | `(tactic| got_up) => Mine.altsOf "c_bi:b c_str:n c_loc0:le c_loc1:le c_535:ir c_476:ir c_646:ir c_322:llkl c_new:rg f_191:ir f_fn:rrrrir c_fn:rrrrir"
local macro_rules | `(tactic| top_args) => Mine.altsOf "i_append:ln i_len:ln i_maxL:n i_maxR:n i_extend:llnn i_lenS:ln i_lenI:ln i_isiN:k i_isi:lkkr i_dpop0:l i_dpopS:lnn i_dpopDI:lnn i_pop:ln i_get00:l i_getS1:ln i_getS0:ln i_getI1:ln i_getI0:ln"
local macro_rules | `(tactic| top_name) => Mine.altsOf "m_77: m_append:l m_pop:l m_extend:l m_popI:l m_popS:l m_getI:l m_getS:l m_inst:lrk m_field:lrklkn"
section
set_option maxRecDepth 100000
set_option maxHeartbeats 4000000
namespace Mine
open PySem
variable {X : Wb} {σ : MS} {R : List (Nat × MO)} {n : Nat} {L num k pn : Int} {z t C wk s p r pw pit : Nat} {zs ts : List MV} {rest : List (String × MV)} {fr : Bool} {v : MV}
theorem made_ (H : Led σ ([(22, runO), (12, heapO L z), (15, .list ts)] ++ R)) (ht : ts.length < 1000) {P_ : Prop} (K_ : ∀ σ' r p pw pit, (CaM X (n + 5) (.top 641) [.loc 22, .loc 15] [] σ (.loc r) σ') → (Led σ' ([(r, refO p), (pit, .list []), (pw, .list []), (p, arO (L + 1) 0 (.str (Str.ofString "P")) false false pw pit), (22, runO), (12, heapO (L + 1) z), (15, .list (ts ++ [.int (L + 1)]))] ++ R)) → P_) : P_ :=
  run_then X (n + 5) (.top 641) [.loc 22, .loc 15] H _ _ (by got_up) (by exact fun e h => K_ _ _ _ _ _ e h)
theorem letGo1 (H : Led σ ([(19, cntO), (12, heapO L z), (z, .list zs), (t, obO C num 1 rest)] ++ R)) (hz : zs.length < 1000) (hC : "count" ∈ attrTab C) (hr : rest.length < 90) {P_ : Prop} (K_ : ∀ σ', (CaM X (n + 2) (.top 516) [.loc 19, .loc t] [] σ .none σ') → (Led σ' ([(19, cntO), (12, heapO L z), (z, .list (zs ++ [.loc t])), (t, obO C num 0 rest)] ++ R)) → P_) : P_ :=
  run_then X (n + 2) (.top 516) [.loc 19, .loc t] H _ _ (by got_up) (by exact fun e h => K_ _ e h)
end Mine
end
section
set_option maxRecDepth 100000
set_option maxHeartbeats 4000000
namespace Mine
open PySem
variable {X : Wb} {σ : MS} {R : List (Nat × MO)} {n : Nat} {L num c k pn k' pn' : Int} {z t C C' wk s p po r ro pw pit : Nat} {zs ts gs : List MV} {rest rest' : List (String × MV)} {fr ds : Bool} {v : MV}
theorem store_n (H : Led σ ([(20, .dI []), (21, .dI []), (19, cntO), (s, scO num c fr wk .none), (r, refO p), (p, obO C pn k rest)] ++ R)) (hC : "count" ∈ attrTab C) (hr : rest.length < 90) {P_ : Prop} (K_ : ∀ σ', (CaM X (n + 3) (.top 542) [.loc 19, .loc s, .loc r] [] σ .none σ') → (Led σ' ([(20, .dI []), (21, .dI []), (19, cntO), (s, scO num c fr wk (.loc r)), (r, refO p), (p, obO C pn (k + 1) rest)] ++ R)) → P_) : P_ :=
  run_then X (n + 3) (.top 542) [.loc 19, .loc s, .loc r] H _ _ (by got_up) (by exact fun e h => K_ _ e h.tail)
theorem store_o (H : Led σ ([(20, .dI []), (21, .dI []), (19, cntO), (s, scO num c fr wk (.loc ro)), (r, refO p), (p, obO C pn k rest), (ro, refO po), (po, obO C' pn' 1 rest'), (12, heapO L z), (z, .list zs)] ++ R)) (hz : zs.length < 1000)
    (hC : "count" ∈ attrTab C) (hr : rest.length < 90) (hC' : "count" ∈ attrTab C') (hr1 : rest'.length < 90) {P_ : Prop} (K_ : ∀ σ', (CaM X (n + 4) (.top 542) [.loc 19, .loc s, .loc r] [] σ .none σ') → (Led σ' ([(20, .dI []), (21, .dI []), (19, cntO), (s, scO num c fr wk (.loc r)), (r, refO p), (p, obO C pn (k + 1) rest), (ro, refO po), (po, obO C' pn' 0 rest'), (12, heapO L z), (z, .list (zs ++ [.loc po]))] ++ R)) → P_) : P_ :=
  run_then X (n + 4) (.top 542) [.loc 19, .loc s, .loc r] H _ _ (by got_up) (by exact fun e h => K_ _ e h.tail)
theorem store_xN (H : Led σ ([(20, .dI []), (21, .dI []), (19, cntO), (s, scO num c fr wk (.loc ro)), (ro, refO po), (po, obO C' pn' k rest')] ++ R)) (hk : k ≠ 1) (hC' : "count" ∈ attrTab C') (hr1 : rest'.length < 90) {P_ : Prop} (K_ : ∀ σ', (CaM X (n + 4) (.top 542) [.loc 19, .loc s, .none] [] σ .none σ') → (Led σ' ([(20, .dI []), (21, .dI []), (19, cntO), (s, scO num c fr wk .none), (ro, refO po), (po, obO C' pn' (k - 1) rest')] ++ R)) → P_) : P_ :=
  have hk' : (k - 1 == 0) = false := by simp; lia
  run_then X (n + 4) (.top 542) [.loc 19, .loc s, .none] H _ _ (by got_up) (by exact fun e h => K_ _ e h.tail)
theorem store_x1 (H : Led σ ([(20, .dI []), (21, .dI []), (19, cntO), (s, scO num c fr wk (.loc ro)), (ro, refO po), (po, obO C' pn' 1 rest'), (12, heapO L z), (z, .list zs)] ++ R)) (hz : zs.length < 1000) (hC' : "count" ∈ attrTab C') (hr1 : rest'.length < 90) {P_ : Prop} (K_ : ∀ σ', (CaM X (n + 4) (.top 542) [.loc 19, .loc s, .none] [] σ .none σ') → (Led σ' ([(20, .dI []), (21, .dI []), (19, cntO), (s, scO num c fr wk .none), (ro, refO po), (po, obO C' pn' 0 rest'), (12, heapO L z), (z, .list (zs ++ [.loc po]))] ++ R)) → P_) : P_ :=
  run_then X (n + 4) (.top 542) [.loc 19, .loc s, .none] H _ _ (by got_up) (by exact fun e h => K_ _ e h.tail)
theorem store_x0 (H : Led σ ([(20, .dI []), (21, .dI []), (19, cntO), (s, scO num c fr wk .none)] ++ R)) {P_ : Prop} (K_ : ∀ σ', (CaM X (n + 3) (.top 542) [.loc 19, .loc s, .none] [] σ .none σ') → (Led σ' ([(20, .dI []), (21, .dI []), (19, cntO), (s, scO num c fr wk .none)] ++ R)) → P_) : P_ :=
  run_then X (n + 3) (.top 542) [.loc 19, .loc s, .none] H _ _ (by got_up) (by exact fun e h => K_ _ e h.tail)
theorem finish_P (H : Led σ ([(19, cntO), (18, .fn 0 [("gone", 3)]), (3, .cell (some (.loc 14))), (14, .list gs), (p, arO pn 0 (.str (Str.ofString "P")) false false pw pit)] ++ R)) (hg : gs.length < 1000) {P_ : Prop} (K_ : ∀ σ', (CaM X (n + 3) (.top 570) [.loc 19, .loc p] [] σ .none σ') → (Led σ' ([(19, cntO), (18, .fn 0 [("gone", 3)]), (3, .cell (some (.loc 14))), (14, .list (gs ++ [.int pn])), (p, arO pn 0 (.str (Str.ofString "P")) true false pw pit)] ++ R)) → P_) : P_ :=
  run_then X (n + 3) (.top 570) [.loc 19, .loc p] H _ _ (by got_up) (by exact fun e h => K_ _ e h)
theorem finish_S (H : Led σ ([(s, scO num 0 fr wk v)] ++ R)) : CaM X (n + 1) (.top 570) [.loc 19, .loc s] [] σ .none σ :=
  run_then X (n + 1) (.top 570) [.loc 19, .loc s] H _ _ (by got_up) (by exact fun e _ => e)
theorem finish_A (H : Led σ ([(s, arO num 0 .none ds fr wk pit)] ++ R)) : CaM X (n + 1) (.top 570) [.loc 19, .loc s] [] σ .none σ :=
  run_then X (n + 1) (.top 570) [.loc 19, .loc s] H _ _ (by got_up) (by exact fun e _ => e)
theorem finish_H (H : Led σ ([(s, haO 0 fr pit)] ++ R)) : CaM X (n + 1) (.top 570) [.loc 19, .loc s] [] σ .none σ :=
  run_then X (n + 1) (.top 570) [.loc 19, .loc s] H _ _ (by got_up) (by exact fun e _ => e)
end Mine
end
section
set_option maxRecDepth 100000
set_option maxHeartbeats 4000000
namespace Mine
open PySem
variable {X : Wb} {σ : MS} {R : List (Nat × MO)} {n : Nat} {L num c k pn k' pn' : Int} {z t C C' wk s p po r ro pw pit : Nat} {zs ts gs : List MV} {rest rest' : List (String × MV)} {fr ds : Bool} {v bl : MV}
theorem free_S0 (H : Led σ ([(s, scO num 0 false wk .none), (wk, .list []), (20, .dI []), (21, .dI []), (19, cntO)] ++ R)) {P_ : Prop} (K_ : ∀ σ', (CaM X (n + 4) (.top 577) [.loc 19, .loc s] [] σ .none σ') → (Led σ' ([(wk, .list []), (20, .dI []), (21, .dI []), (19, cntO)] ++ R)) → P_) : P_ :=
  run_then X (n + 4) (.top 577) [.loc 19, .loc s] H _ _ (by got_up) (by exact fun e h => K_ _ e (h.dropN 8))
theorem free_S1 (H : Led σ ([(s, scO num 0 false wk (.loc r)), (wk, .list []), (20, .dI []), (21, .dI []), (19, cntO), (r, refO p), (p, obO C pn 1 rest), (12, heapO L z), (z, .list zs)] ++ R)) (hz : zs.length < 1000) (hC : "count" ∈ attrTab C) (hr : rest.length < 90) {P_ : Prop} (K_ : ∀ σ', (CaM X (n + 4) (.top 577) [.loc 19, .loc s] [] σ .none σ') → (Led σ' ([(wk, .list []), (20, .dI []), (21, .dI []), (19, cntO), (r, refO p), (p, obO C pn 0 rest), (12, heapO L z), (z, .list (zs ++ [.loc p]))] ++ R)) → P_) : P_ :=
  run_then X (n + 4) (.top 577) [.loc 19, .loc s] H _ _ (by got_up) (by exact fun e h => K_ _ e (h.dropN 8))
theorem free_P (H : Led σ ([(p, arO pn 0 bl ds false pw pit), (pw, .list []), (pit, .list []), (19, cntO)] ++ R)) {P_ : Prop} (K_ : ∀ σ', (CaM X (n + 4) (.top 577) [.loc 19, .loc p] [] σ .none σ') → (Led σ' ([(pw, .list []), (pit, .list []), (19, cntO)] ++ R)) → P_) : P_ :=
  run_then X (n + 4) (.top 577) [.loc 19, .loc p] H _ _ (by got_up) (by exact fun e h => K_ _ e (h.dropN 7))
end Mine
end
section
namespace Mine
open PySem
structure PV where
  (r p pw pit : Nat)
  num : Int
structure Cell where
  (s wk : Nat)
  num : Int
  v : Option PV
noncomputable def pStr : MV := .str (Str.ofString "P")
noncomputable def PV.foot (k : Int) (q : PV) : List (Nat × MO) := [(q.r, refO q.p), (q.p, arO q.num k pStr false false q.pw q.pit), (q.pw, .list []), (q.pit, .list [])]
noncomputable def Cell.val (c : Cell) : MV := match c.v with
  | none => .none
  | some q => .loc q.r
noncomputable def vfoot : Option PV → List (Nat × MO)
  | none => []
  | some q => q.foot 1
noncomputable def Cell.foot (k : Int) (c : Cell) : List (Nat × MO) := (c.s, scO c.num k false c.wk c.val) :: (c.wk, .list []) :: vfoot c.v
noncomputable def vnums : Option PV → List Int
  | none => []
  | some q => [q.num]
noncomputable def Cell.nums (c : Cell) : List Int := c.num :: vnums c.v
inductive Dead where
  | P (q : PV)
  | S (c : Cell)
  | A (it : Nat) (vs : List (Option Cell))
  | H (tb : Nat) (es : List (Str × Cell)) (b : Bool)
noncomputable def cellV : Option Cell → MV
  | none => .none
  | some c => .loc c.s
noncomputable def tabO (b : Bool) (es : List (Str × Cell)) : MO := match b with
  | true => .dS (es.map fun e => (e.1, .loc e.2.s))
  | false => .dI []
noncomputable def acells (vs : List (Option Cell)) : List Cell := vs.filterMap id
noncomputable def Dead.cells : Dead → List Cell
  | .P _ => []
  | .S _ => []
  | .A _ vs => acells vs
  | .H _ es _ => es.map (·.2)
noncomputable def Dead.loc : Dead → Nat
  | .P q => q.p
  | .S c => c.s
  | .A _ _ => 33
  | .H _ _ _ => 33
noncomputable def Dead.num : Dead → Int
  | .P q => q.num
  | .S c => c.num
  | .A _ _ => 1
  | .H _ _ _ => 1
noncomputable def Dead.foot (ds : Bool) : Dead → List (Nat × MO)
  | .P q => [(q.p, arO q.num 0 pStr ds false q.pw q.pit), (q.pw, .list []), (q.pit, .list [])]
  | .S c => c.foot 0
  | .A it vs => (33, arO 1 0 .none false false 34 it) :: (34, .list []) :: (it, .list (vs.map cellV)) :: (acells vs).flatMap (·.foot 1)
  | .H tb es b => (33, haO 0 false tb) :: (34, .list []) :: (tb, tabO b es) :: (es.map (·.2)).flatMap (·.foot 1)
noncomputable def Dead.kids : Dead → List Dead
  | .P _ => []
  | .S c => c.v.toList.map .P
  | d => d.cells.map .S
noncomputable def Dead.tells : Dead → List Int
  | .P q => [q.num]
  | _ => []
noncomputable def Dead.nums : Dead → List Int
  | .P q => [q.num]
  | .S c => c.nums
  | d => 1 :: d.cells.flatMap (·.nums)
noncomputable def Dead.all : Dead → List Int
  | .P q => [q.num]
  | .S c => vnums c.v
  | d => d.cells.flatMap fun c => vnums c.v
noncomputable def Dead.ok : Dead → Prop
  | .P _ => True
  | .S _ => True
  | .A _ vs => vs.length < 100
  | .H _ es b => es.length < 100 ∧ (es.map (·.1)).Nodup ∧ (b = false → es = [])
noncomputable def insD (d : Dead) : List Dead → List Dead
  | [] => [d]
  | y :: r => if d.num ≤ y.num then d :: y :: r else y :: insD d r
noncomputable def sortD : List Dead → List Dead
  | [] => []
  | d :: r => insD d (sortD r)
theorem insD_perm (d : Dead) : ∀ l, (insD d l).Perm (d :: l)
  | [] => .refl _
  | y :: r => by
    unfold insD
    split
    · exact .refl _
    · exact ((insD_perm d r).cons y).trans (.swap _ _ _)
theorem sortD_perm : ∀ l, (sortD l).Perm l
  | [] => .refl _
  | d :: r => (insD_perm d _).trans ((sortD_perm r).cons d)
theorem insD_num (d : Dead) : ∀ l, (insD d l).map Dead.num = insertI d.num (l.map Dead.num)
  | [] => rfl
  | y :: r => by
    unfold insD
    rw [List.map_cons, insertI]
    split
    · rfl
    · rw [List.map_cons, insD_num d r]
theorem sortD_num : ∀ l, (sortD l).map Dead.num = sortI (l.map Dead.num)
  | [] => rfl
  | d :: r => by rw [sortD, insD_num, sortD_num r]; rfl
theorem find_of {ds : List Dead} (nd : (ds.map Dead.num).Nodup) {d : Dead} (hd : d ∈ ds) : ((ds.map fun d => (d.num, MV.loc d.loc)).find? fun e => decide (e.1 = d.num)) = some (d.num, .loc d.loc) := by
  induction ds with
  | nil => cases hd
  | cons x l ih =>
    rw [List.map_cons, List.nodup_cons] at nd
    rw [List.map_cons, List.find?_cons]
    rcases List.mem_cons.mp hd with rfl | hd
    · simp
    · have : x.num ≠ d.num := fun e => nd.1 (e ▸ List.mem_map_of_mem hd)
      rw [decide_eq_false this]
      exact ih nd.2 hd
end Mine
end
section
namespace Mine
open PySem
variable {X : Wb} {σ : MS} {R : List (Nat × MO)} {n : Nat}
noncomputable def Dead.ob (ds : Bool) : Dead → MO
  | .P q => arO q.num 0 pStr ds false q.pw q.pit
  | .S c => scO c.num 0 false c.wk c.val
  | .A it _ => arO 1 0 .none false false 34 it
  | .H tb _ _ => haO 0 false tb
theorem foot_ob (ds : Bool) (d : Dead) : ∃ r, d.foot ds = (d.loc, d.ob ds) :: r := by cases d <;> exact ⟨_, rfl⟩
theorem ob_count (ds : Bool) (d : Dead) (h : σ.obj d.loc = some (d.ob ds)) : AttM X.w X.base σ (.loc d.loc) "count" (.int 0) := by cases d <;> exact am_get X.b.toBs h rfl rfl rfl
theorem ob_freed (ds : Bool) (d : Dead) (h : σ.obj d.loc = some (d.ob ds)) : AttM X.w X.base σ (.loc d.loc) "is_freed" (.bool false) := by cases d <;> exact am_get X.b.toBs h rfl rfl rfl
theorem ob_number (ds : Bool) (d : Dead) (h : σ.obj d.loc = some (d.ob ds)) : AttM X.w X.base σ (.loc d.loc) "number" (.int d.num) := by cases d <;> exact am_get X.b.toBs h rfl rfl rfl
theorem getL_setL (x y : String) (v : MV) (l : List (String × MV)) : getL' x (setL y v l) = if y = x then some v else getL' x l := by
  induction l with
  | nil => simp [setL, getL']
  | cons a l ih =>
    obtain ⟨a, b⟩ := a
    unfold setL
    by_cases q : a = y
    · subst q
      rw [if_pos rfl]
      unfold getL'
      by_cases q : a = x <;> simp [q]
    · rw [if_neg q]
      unfold getL'
      rw [ih]
      by_cases r : a = x
      · subst r; simp; intro e; exact absurd e.symm q
      · simp [r]
theorem obj_new1 {σ : MS} {m : Nat} {a : MO} (h : m < σ.next) : (σ.new a).obj m = σ.obj m := by rw [obj_new, if_neg (by lia)]
theorem obj_new2 {σ : MS} {m : Nat} {a b : MO} (h : m < σ.next) : ((σ.new a).new b).obj m = σ.obj m := by rw [obj_new1 (by rw [next_new]; lia), obj_new1 h]
noncomputable def ordBody : List MSt := [.ite
      (.and
        (.cmp (.eq) (.attr (.var "thing") "count") (.int 0))
        (.not (.attr (.var "thing") "is_freed")))
      [.asg
         (.sub (.cel "found") (.attr (.var "thing") "number"))
         (.var "thing")]
      []]
noncomputable def ent (d : Dead) : Int × MV := (d.num, .loc d.loc)
theorem ob_zero (ds : Bool) (d : Dead) {fr : MF} (hv : getL' "thing" fr.loc = some (.loc d.loc)) (h : σ.obj d.loc = some (d.ob ds)) : TeM X n fr (.and (.cmp (.eq) (.attr (.var "thing") "count") (.int 0)) (.not (.attr (.var "thing") "is_freed"))) σ true σ :=
  tm_andT (tm_cmp (em_attr (em_var hv) (ob_count ds d h)) em_int (km_int rfl)) (tm_not (p := false) (tm_of (em_attr (em_var hv) (ob_freed ds d h)) rfl))
theorem order_loop (ds : Bool) (f fc tl : Nat) (all : List MV) (cel : List (String × Nat)) (hcel : getL' "found" cel = some fc) (hff : fc ≠ f) (htf : tl ≠ f) : ∀ (r l : List Dead) (fr : MF) (σ : MS), fr.cel = cel → σ.obj tl = some (.list all) → σ.obj fc = some (.cell (some (.loc f))) →
    σ.obj f = some (.dI (l.map ent)) → (∀ d ∈ r, σ.obj d.loc = some (d.ob ds) ∧ d.loc ≠ f) → ((l ++ r).map Dead.num).Nodup → (l ++ r).length < 60 → ∀ (P_ : Prop), (∀ fr' σ', (FoM X n "thing" ordBody (fun τ => τ.obj tl = some (.list all)) (r.map fun d => .loc d.loc) fr σ .next fr' σ') → (fr'.cel = cel) → (σ'.obj f = some (.dI ((l ++ r).map ent))) → ((∀ m, m ≠ f → σ'.obj m = σ.obj m)) → (σ'.next = σ.next) → P_) → P_
  | [], l, fr, σ, hc, ht, h1, h2, h3, h4, h5, _, K_ => K_ fr σ (.nil ht) hc (by simpa using h2) (fun _ _ => rfl) rfl
  | d :: r, l, fr, σ, hc, ht, h1, h2, h3, h4, h5, _, K_ => by
    have hd := h3 d (.head _)
    have hnew : (l.map ent).any (fun e => decide (e.1 = d.num)) = false := by
      rw [List.any_eq_false]
      intro e he
      obtain ⟨x, hx, rfl⟩ := List.mem_map.mp he
      rw [List.map_append, List.nodup_append] at h4
      have := h4.2.2 x.num (List.mem_map_of_mem hx) d.num (by simp)
      simp only [Bool.not_eq_true]; exact decide_eq_false this
    have hl : (l.map ent).length < 1000 := by simp at h5 ⊢; lia
    have hv : getL' "thing" (setL "thing" (.loc d.loc) fr.loc) = some (.loc d.loc) := by rw [getL_setL, if_pos rfl]
    have hc' : getL' "found" fr.cel = some fc := by rw [hc]; exact hcel
    have step : ExsM X n ordBody ⟨setL "thing" (.loc d.loc) fr.loc, fr.cel, fr.law⟩ σ .next ⟨setL "thing" (.loc d.loc) fr.loc, fr.cel, fr.law⟩ (σ.put f (.dI ((l ++ [d]).map ent))) := by
      rw [List.map_append]
      exact xms_one (xm_ite (p := true) (ob_zero ds d hv hd.1) (xms_one (xm_asg rfl (em_var hv) (sm_sub (em_cel hc' h1) (em_attr (em_var hv) (ob_number ds d hd.1)) (pm_keyN (dkI X.w) h2 hnew hl)))))
    refine order_loop ds f fc tl all cel hcel hff htf r (l ++ [d]) ⟨setL "thing" (.loc d.loc) fr.loc, fr.cel, fr.law⟩ (σ.put f (.dI ((l ++ [d]).map ent))) hc
      (by rw [obj_put, if_neg htf]; exact ht) (by rw [obj_put, if_neg hff]; exact h1) (by rw [obj_put, if_pos rfl]) (fun x hx => ⟨by rw [obj_put, if_neg (h3 x (.tail _ hx)).2]; exact (h3 x (.tail _ hx)).1, (h3 x (.tail _ hx)).2⟩)
      (by simpa using h4) (by simpa using h5) _ ?_
    intro fr' σ' e k1 k2 k3 k4
    exact K_ fr' σ' (.cons ht step e) k1 (by simpa using k2) (fun m hm => by rw [k3 m hm, obj_put, if_neg hm]) k4
noncomputable def getD (es : List (Int × MV)) : MV → MV
  | .int k => ((es.find? fun e => decide (e.1 = k)).map (·.2)).getD .none
  | _ => .none
theorem comp_order {ds l : List Dead} {fc f : Nat} (h1 : σ.obj fc = some (.cell (some (.loc f)))) (h2 : σ.obj f = some (.dI (ds.map ent))) (nd : (ds.map Dead.num).Nodup) (hl : ∀ d ∈ l, d ∈ ds) :
    (∀ m ∈ l.map fun d => MV.int d.num, CdM X [("found", fc)] σ "number" none m true ∧ (true = true → PuM X ⟨[("number", m)], [("found", fc)], false⟩ (.sub (.cel "found") (.var "number")) σ (getD (ds.map ent) m))) ∧
    ((l.map fun d => MV.int d.num).filter (fun _ => true)).map (getD (ds.map ent)) = l.map fun d => .loc d.loc := by
  have hf : ∀ d ∈ l, (ds.map ent).find? (fun e => decide (e.1 = d.num)) = some (d.num, .loc d.loc) := fun d h => find_of nd (hl d h)
  have hg : ∀ d ∈ l, getD (ds.map ent) (.int d.num) = .loc d.loc := fun d h => by rw [getD, hf d h]; rfl
  refine ⟨fun m hm => ?_, ?_⟩
  · obtain ⟨d, hd, rfl⟩ := List.mem_map.mp hm
    refine ⟨rfl, fun _ => ?_⟩
    rw [hg d hd]
    exact pu_sub (pu_cel rfl h1) (pu_var rfl) (rm_key (dkI X.w) h2 (hf d hd))
  · rw [List.filter_eq_self.mpr fun _ _ => rfl, List.map_map]
    exact List.map_congr_left hg
theorem in_order {tl : Nat} {dl : List Dead} (ds : Bool) (H : Led σ ((tl, .list (dl.map fun d => .loc d.loc)) :: R)) (hd : ∀ d ∈ dl, σ.obj d.loc = some (d.ob ds) ∧ d.loc < σ.next) (nd : (dl.map Dead.num).Nodup) (hl : dl.length < 60) {P_ : Prop} (K_ : ∀ σ' l, (CaM X (n + 2) (.top 488) [.loc tl] [] σ (.loc l) σ') → (Led σ' ((l, .list ((sortD dl).map fun d => .loc d.loc)) :: R)) → P_) : P_ := by
  have H0 := (H.new (.cell none)).new (.dI [])
  have H1 := H0.set 1 rfl (.cell (some (.loc (σ.next + 1))))
  have hb := H.bound 0 rfl
  refine order_loop (X := X) (n := n + 1) ds (σ.next + 1) σ.next tl (dl.map fun d => .loc d.loc) [("found", σ.next)] rfl (by lia) (by lia) dl [] ⟨[("things", .loc tl)], [("found", σ.next)], false⟩ _ rfl
    (H1.get 2 rfl) (H1.get 1 rfl) (H1.get 0 rfl) (fun d hx => ⟨by have := (hd d hx).2; rw [obj_put, if_neg (by lia), obj_new2 this]; exact (hd d hx).1, by have := (hd d hx).2; lia⟩) (by simpa using nd) (by simpa using hl) _ ?_
  intro fr' σ2 e2 k1 k2 k3 k4
  rw [List.nil_append] at k2
  have hn2 : σ2.next = σ.next + 2 := k4
  have hfc : σ2.obj σ.next = some (.cell (some (.loc (σ.next + 1)))) := by rw [k3 _ (by lia)]; exact H1.get 1 rfl
  have hs : (sortI ((dl.map ent).map (·.1))).map MV.int = (sortD dl).map fun d => .int d.num := by rw [show (dl.map ent).map (·.1) = dl.map Dead.num by rw [List.map_map]; rfl, ← sortD_num, List.map_map]; rfl
  have hsl : (sortD dl).length = dl.length := (sortD_perm dl).length_eq
  have S := im_sortedI (w := X.w) (base := X.base) k2 (by rw [List.length_map]; lia)
  rw [hs] at S
  obtain ⟨c1, c2⟩ := comp_order (X := X) (fc := σ.next) (f := σ.next + 1) (σ := σ2.new (.list ((sortD dl).map fun d => .int d.num))) (by rw [obj_new1 (by lia)]; exact hfc) (by rw [obj_new1 (by lia)]; exact k2) nd (fun d h => (sortD_perm dl).mem_iff.mp h)
  have C := em_comp (X := X) (n := n + 1) (fr := fr') (fun _ => true) _ (em_call em_val (ems_cons (em_cel (x := "found") (by rw [k1]; rfl) hfc) ems_nil) (cm_bi S)) (tm_list (by rw [obj_new, if_pos rfl]) (by rw [List.length_map, hsl]; lia) (by rw [List.all_map]; exact List.all_eq_true.mpr fun _ _ => rfl)) (show mCels fr' ["found"] = _ by rw [mCels, k1]; rfl) c1
  rw [c2] at C
  refine K_ _ _ (cm_top rfl (fm_cell (x := "found") rfl rfl rfl rfl (fl := .ret _) (xms_cons (xm_asg rfl em_dict0 (sm_cel rfl (H0.get 1 rfl))) (xms_cons (xm_forL (em_var rfl) (H1.get 2 rfl) e2) (xms_stop (xm_ret C)))))) ?_
  have H2 : Led σ2 R := by
    refine ⟨fun p hp => ?_, H.tail.nd, fun p hp => ?_⟩
    · have := H.tail.lt p hp
      rw [k3 _ (by lia), obj_put, if_neg (by lia), obj_new2 this]
      exact H.tail.at_ p hp
    · have := H.tail.lt p hp
      lia
  exact (H2.newL _).new _
end Mine
end
section
namespace Mine
open PySem
inductive LT where
  | e
  | s (i : Nat)
  | c (i : Nat) (t : LT)
  | a (t u : LT)
noncomputable section
noncomputable def gE : List (Nat × MO) → Nat → Nat × MO
  | [], _ => (0, .list [])
  | x :: _, 0 => x
  | _ :: l, n + 1 => gE l n
noncomputable def gS : List (List (Nat × MO)) → Nat → List (Nat × MO)
  | [], _ => []
  | x :: _, 0 => x
  | _ :: l, n + 1 => gS l n
noncomputable def den (E : List (Nat × MO)) (S : List (List (Nat × MO))) : LT → List (Nat × MO)
  | .e => []
  | .s i => gS S i
  | .c i t => gE E i :: den E S t
  | .a t u => den E S t ++ den E S u
noncomputable def codes : LT → List Nat
  | .e => []
  | .s i => [2 * i]
  | .c i t => (2 * i + 1) :: codes t
  | .a t u => codes t ++ codes u
theorem den_cnt (E : List (Nat × MO)) (S : List (List (Nat × MO))) (f : Nat × MO → Nat) : ∀ t : LT, cnt f (den E S t) = cnt (fun k => if k % 2 = 1 then f (gE E (k / 2)) else cnt f (gS S (k / 2))) (codes t)
  | .e => rfl
  | .s i => by
    rw [den, codes, cnt_cons, cnt_nil, if_neg (by lia), show 2 * i / 2 = i by lia]; rfl
  | .c i t => by
    rw [den, codes, cnt_cons, cnt_cons, den_cnt E S f t, if_pos (by lia), show (2 * i + 1) / 2 = i by lia]
  | .a t u => by rw [den, codes, cnt_app, cnt_app, den_cnt E S f t, den_cnt E S f u]
theorem permR (E : List (Nat × MO)) (S : List (List (Nat × MO))) (t u : LT) (h : (codes t).isPerm (codes u) = true) : (den E S t).Perm (den E S u) := permC fun f => by
  rw [den_cnt, den_cnt]
  have := List.isPerm_iff.mp h
  generalize codes t = x at this
  generalize codes u = y at this
  induction this with
  | nil => rfl
  | cons x _ ih => rw [cnt_cons, cnt_cons, ih]
  | swap x y l => simp only [cnt_cons]; lia
  | trans _ _ a b => rw [a, b]
end
end Mine
end
section
namespace Mine
open PySem
variable {X : Wb} {σ : MS} {R : List (Nat × MO)} {n : Nat} {L num : Int} {z t g : Nat} {zs : List MV}
noncomputable def relBody : List MSt := [.expr (.meth (.var "self") "let_go" [.var "one"])]
theorem rel_loop (g : Nat) (all : List MV) : ∀ (cs : List Cell) (fr : MF) (σ : MS) (zs : List MV) (R : List (Nat × MO)), getL' "self" fr.loc = some (.loc 19) → zs.length + cs.length < 900 →
    Led σ ([(19, cntO), (12, heapO L z), (z, .list zs), (g, .list all)] ++ (cs.flatMap (·.foot 1) ++ R)) → ∀ (P_ : Prop), (∀ fr' σ', (FoM X (n + 2) "one" relBody (fun τ => τ.obj g = some (.list all)) (cs.map fun c => .loc c.s) fr σ .next fr' σ') → (Led σ' ([(19, cntO), (12, heapO L z), (z, .list (zs ++ cs.map fun c => .loc c.s)), (g, .list all)] ++ (cs.flatMap (·.foot 0) ++ R))) → P_) → P_
  | [], fr, σ, zs, R, hs, hl, H, _, K_ => K_ fr σ (.nil (H.get 3 rfl)) (by simpa using H)
  | c :: cs, fr, σ, zs, R, hs, hl, H, _, K_ => by
    have hg := H.get 3 rfl
    have H1 : Led σ ([(19, cntO), (12, heapO L z), (z, .list zs), (c.s, obO 98 c.num 1 [("blessed", .none), ("weak", .loc c.wk), ("is_destroyed", .bool false), ("is_freed", .bool false), ("value", c.val), ("magic", .none)])] ++ ((g, .list all) :: ((c.wk, .list []) :: vfoot c.v ++ (cs.flatMap (·.foot 1) ++ R)))) := by
      exact H.perm (permC fun f => by simp only [List.flatMap_cons, Cell.foot, scO, obO, cnt_app, cnt_cons, cnt_nil]; lia)
    refine letGo1 (X := X) (n := n) H1 (by simp at hl; lia) (by rw [at98]; simp) (by simp) ?_
    intro σ1 e1 H2
    have hself : getL' "self" (setL "one" (.loc c.s) fr.loc) = some (.loc 19) := by rw [getL_setL, if_neg (by decide)]; exact hs
    have hone : getL' "one" (setL "one" (.loc c.s) fr.loc) = some (.loc c.s) := by rw [getL_setL, if_pos rfl]
    have step : ExsM X (n + 2) relBody ⟨setL "one" (.loc c.s) fr.loc, fr.cel, fr.law⟩ σ .next ⟨setL "one" (.loc c.s) fr.loc, fr.cel, fr.law⟩ σ1 :=
      xms_one (xm_expr (em_meth (em_var hself) (mm_inst X.b.toBs (H.get 0 rfl) rfl rfl) (ems_cons (em_var hone) ems_nil) e1))
    have H3 : Led σ1 ([(19, cntO), (12, heapO L z), (z, .list (zs ++ [.loc c.s])), (g, .list all)] ++ (cs.flatMap (·.foot 1) ++ (c.foot 0 ++ R))) := by
      exact H2.perm (by exact permR [_, _, _, _, _, _] [_, _, _] (.a (.c 0 (.c 1 (.c 2 (.c 3 .e)))) (.c 4 (.a (.c 5 (.s 0)) (.a (.s 1) (.s 2))))) (.a (.c 0 (.c 1 (.c 2 (.c 4 .e)))) (.a (.s 1) (.a (.c 3 (.c 5 (.s 0))) (.s 2)))) rfl)
    refine rel_loop g all cs ⟨setL "one" (.loc c.s) fr.loc, fr.cel, fr.law⟩ σ1 (zs ++ [.loc c.s]) (c.foot 0 ++ R) hself (by simp at hl ⊢; lia) H3 _ ?_
    intro fr' σ' e H4
    refine K_ fr' σ' (.cons hg step e) ?_
    · rw [List.map_cons, List.flatMap_cons]
      simp only [List.append_assoc, List.cons_append, List.nil_append] at H4 ⊢
      exact H4.perm (by exact permR [_, _, _, _] [_, _, _] (.c 0 (.c 1 (.c 2 (.c 3 (.a (.s 0) (.a (.s 1) (.s 2))))))) (.c 0 (.c 1 (.c 2 (.c 3 (.a (.s 1) (.a (.s 0) (.s 2))))))) rfl)
end Mine
end
section
set_option maxRecDepth 100000
set_option maxHeartbeats 4000000
namespace Mine
open PySem
variable {X : Wb} {σ : MS} {R : List (Nat × MO)} {n : Nat} {L num : Int} {z t g it tb : Nat} {zs : List MV} {vs : List (Option Cell)} {ds : Bool}
theorem plain_cell (o : Option Cell) : plainV (cellV o) = true := by cases o <;> rfl
theorem some_cells : ∀ l : List (Option Cell), (l.map cellV ++ [MV.none]).filter (fun m => !(m == .none)) = (l.filterMap id).map fun c => .loc c.s
  | [] => rfl
  | none :: l => some_cells l
  | some c :: l => congrArg (MV.loc c.s :: ·) (some_cells l)
noncomputable def freeA : List MSt := b577.take 6
theorem plain_cells (vs : List (Option Cell)) : (vs.map cellV ++ [MV.none]).all plainV = true := by
  simp only [List.all_append, List.all_map, List.all_cons, List.all_nil, Bool.and_true, Bool.and_eq_true]
  exact ⟨List.all_eq_true.mpr fun o _ => plain_cell o, rfl⟩
theorem r_cells {s : LS} {cs : List (String × Nat)} {l : List (Option Cell)} : CoL X s cs "one" (.var "one") (some (.cmp .notN (.var "one") .none)) (l.map cellV ++ [MV.none]) ((l.filterMap id).map fun c => .loc c.s) := r_some (plain_cells l) (some_cells l)
local macro_rules | `(tactic| top_argsB) => altsOf "r_cells:"
theorem free_A1 (H : Led σ ([(33, arO 1 0 .none false false 34 it), (34, .list []), (it, .list (vs.map cellV)), (19, cntO)] ++ R)) (hv : vs.length < 900) {P_ : Prop} (K_ : ∀ fr' σ' g, (ExsM X (n + 3) freeA ⟨[("self", .loc 19), ("thing", .loc 33)], [], false⟩ σ .next fr' σ') → (getL' "self" fr'.loc = some (.loc 19)) → (getL' "gone" fr'.loc = some (.loc g)) → (Led σ' ([(g, .list ((vs.filterMap id).map fun c => .loc c.s)), (34, .list []), (it, .list (vs.map cellV)), (19, cntO)] ++ R)) → P_) : P_ :=
  have hp := plain_cells vs
  run_ex X (n + 3) freeA ⟨[("self", .loc 19), ("thing", .loc 33)], [], false⟩ H _ _ _ (by one_item) (by exact fun e h => K_ _ _ _ e rfl rfl (h.pick [1, 7, 8, 9] 10 (by decide) rfl rfl rfl))
theorem free_rest {fr : MF} {cs : List Cell} (hs : getL' "self" fr.loc = some (.loc 19)) (hg : getL' "gone" fr.loc = some (.loc g)) (hl : zs.length + cs.length < 900)
    (H : Led σ ([(19, cntO), (12, heapO L z), (z, .list zs), (g, .list (cs.map fun c => .loc c.s))] ++ (cs.flatMap (·.foot 1) ++ R))) {P_ : Prop} (K_ : ∀ fr' σ', (ExsM X (n + 2) [.forL "one" (.var "gone") relBody] fr σ .next fr' σ') → (Led σ' ([(19, cntO), (12, heapO L z), (z, .list (zs ++ cs.map fun c => .loc c.s))] ++ (cs.flatMap (·.foot 0) ++ R))) → P_) : P_ := by
  refine rel_loop (X := X) (n := n) g _ cs fr σ zs R hs hl H _ ?_
  intro fr' σ' e H'
  have hgo := H.get 3 rfl
  have hlen : cs.length < 1000 := by lia
  exact K_ fr' σ' (xms_one (xm_forL (em_var hg) hgo e)) ((H'.perm (by exact permR [_, _, _, _] [_, _] (.a (.c 0 (.c 1 (.c 2 (.c 3 .e)))) (.a (.s 0) (.s 1))) (.c 3 (.a (.c 0 (.c 1 (.c 2 .e))) (.a (.s 0) (.s 1)))) rfl) : Led σ' ((g, .list (cs.map fun c => .loc c.s)) :: _)).tail)
theorem free_A (H : Led σ ([(33, arO 1 0 .none false false 34 it), (34, .list []), (it, .list (vs.map cellV)), (19, cntO), (12, heapO L z), (z, .list zs)] ++ ((acells vs).flatMap (·.foot 1) ++ R))) (hv : vs.length < 100) (hz : zs.length < 100) {P_ : Prop} (K_ : ∀ σ', (CaM X (n + 4) (.top 577) [.loc 19, .loc 33] [] σ .none σ') → (Led σ' ([(19, cntO), (12, heapO L z), (z, .list (zs ++ (acells vs).map fun c => .loc c.s))] ++ ((acells vs).flatMap (·.foot 0) ++ R))) → P_) : P_ := by
  refine free_A1 (X := X) (n := n) (R := [(12, heapO L z), (z, .list zs)] ++ ((acells vs).flatMap (·.foot 1) ++ R)) H (by lia) ?_
  intro fr1 σ1 g e1 h1 h2 H1
  have hle : (acells vs).length ≤ vs.length := List.length_filterMap_le _ _
  refine free_rest (X := X) (n := n + 1) (cs := acells vs) (R := (34, .list []) :: (it, .list (vs.map cellV)) :: R) (L := L) (z := z) (zs := zs) h1 h2 (by lia) (H1.perm (by exact permR [_, _, _, _, _, _] [_, _] (.a (.c 0 (.c 1 (.c 2 (.c 3 .e)))) (.a (.c 4 (.c 5 .e)) (.a (.s 0) (.s 1)))) (.a (.c 3 (.c 4 (.c 5 (.c 0 .e)))) (.a (.s 0) (.c 1 (.c 2 (.s 1))))) rfl)) ?_
  intro fr2 σ2 e2 H2
  refine K_ σ2 ?_ ((H2.perm (permC (b := (34, .list []) :: (it, .list (vs.map cellV)) :: ([(19, cntO), (12, heapO L z), (z, .list (zs ++ (acells vs).map fun c => .loc c.s))] ++ ((acells vs).flatMap (·.foot 0) ++ R))) fun f => by simp only [cnt_app, cnt_cons, cnt_nil]; lia)).tail.tail)
  exact cm_top rfl (fm_fn rfl rfl rfl rfl (fl := .next) (xms_app e1 e2))
theorem tab_self {es : List (Str × Cell)} (nd : (es.map (·.1)).Nodup) {e : Str × Cell} (he : e ∈ es) : (es.map fun e => (e.1, MV.loc e.2.s)).find? (fun x => decide (x.1 = e.1)) = some (e.1, .loc e.2.s) := by
  induction es with
  | nil => cases he
  | cons x es ihh =>
    rw [List.map_cons, List.nodup_cons] at nd
    rw [List.map_cons, List.find?_cons]
    rcases List.mem_cons.mp he with rfl | he
    · simp
    · have : x.1 ≠ e.1 := fun q => nd.1 (q ▸ List.mem_map_of_mem he)
      rw [decide_eq_false this]
      exact ihh nd.2 he
noncomputable def getS (es : List (Str × MV)) : MV → MV
  | .str k => ((es.find? fun e => decide (e.1 = k)).map (·.2)).getD .none
  | _ => .none
theorem some_locs : ∀ l : List Cell, (l.map (fun c => MV.loc c.s) ++ [MV.none]).filter (fun m => !(m == .none)) = l.map fun c => .loc c.s
  | [] => rfl
  | c :: l => congrArg (MV.loc c.s :: ·) (some_locs l)
theorem r_tab {s : LS} {i j k m tc tb K : Nat} {fs : List (String × MV)} {es : List (Str × Cell)} (nd : (es.map (·.1)).Nodup) (g1 : s.L[i]? = some (tc, .cell (some (.loc 33)))) (g2 : s.L[j]? = some (33, .inst K fs)) (c : (attrTab K).contains "table" = true)
    (h : fs[m]? = some ("table", .loc tb)) (q : ahead "table" m fs = true) (g3 : s.L[k]? = some (tb, .dS (es.map fun e : Str × Cell => (e.1, .loc e.2.s)))) :
    CoL X s [("thing", tc)] "key" (.sub (.attr (.cel "thing") "table") (.var "key")) none ((es.map fun e => (e.1, MV.loc e.2.s)).map fun e => .str e.1) ((es.map fun e : Str × Cell => e.2).map fun c => .loc c.s) := ⟨fun H => by
  have hg : ∀ e ∈ es, getS (es.map fun e => (e.1, MV.loc e.2.s)) (.str e.1) = .loc e.2.s := fun e h => by rw [getS, tab_self nd h]; rfl
  refine ⟨fun _ => true, getS (es.map fun e => (e.1, MV.loc e.2.s)), fun m hm => ⟨rfl, fun _ => ?_⟩, ?_⟩
  · rw [List.map_map] at hm
    obtain ⟨e, he, rfl⟩ := List.mem_map.mp hm
    show PuM X ⟨[("key", .str e.1)], _, _⟩ _ _ (getS _ (.str e.1))
    rw [hg e he]
    exact pu_sub (pu_attr (pu_cel rfl (H.get _ g1)) (am_get X.b.toBs (H.get _ g2) c (getL_at h q) rfl)) (pu_var rfl) (rm_key (dkS X.w) (H.get _ g3) (tab_self nd he))
  · rw [List.filter_eq_self.mpr fun _ _ => rfl, List.map_map, List.map_map, List.map_map]
    exact List.map_congr_left hg⟩
theorem r_locs {s : LS} {cs : List (String × Nat)} {l : List Cell} : CoL X s cs "one" (.var "one") (some (.cmp .notN (.var "one") .none)) (l.map (fun c => MV.loc c.s) ++ [MV.none]) (l.map fun c => .loc c.s) := r_some (by simp [plainV]) (some_locs l)
local macro_rules | `(tactic| top_argsB) => altsOf "r_iterS:ln r_iterI:ln r_tab:allrlkl r_locs:"
theorem free_H1 {es : List (Str × Cell)} (H : Led σ ([(33, haO 0 false tb), (34, .list []), (tb, .dS (es.map fun e => (e.1, .loc e.2.s))), (19, cntO)] ++ R)) (hv : es.length < 900) (nd : (es.map (·.1)).Nodup) {P_ : Prop} (K_ : ∀ fr' σ' g, (ExsM X (n + 3) freeA ⟨[("self", .loc 19), ("thing", .loc 33)], [], false⟩ σ .next fr' σ') → (getL' "self" fr'.loc = some (.loc 19)) → (getL' "gone" fr'.loc = some (.loc g)) → (Led σ' ([(g, .list ((es.map (·.2)).map fun c => .loc c.s)), (34, .list []), (tb, .dS (es.map fun e => (e.1, .loc e.2.s))), (19, cntO)] ++ R)) → P_) : P_ :=
  have hp : ((es.map fun e : Str × Cell => e.2).map (fun c => MV.loc c.s) ++ [MV.none]).all plainV = true := by simp [plainV]
  run_ex X (n + 3) freeA ⟨[("self", .loc 19), ("thing", .loc 33)], [], false⟩ H _ _ _ (by one_item) (by exact fun e h => K_ _ _ _ e rfl rfl (h.pick [1, 8, 9, 10] 11 (by decide) rfl rfl rfl))
theorem free_H0 (H : Led σ ([(33, haO 0 false tb), (34, .list []), (tb, .dI []), (19, cntO)] ++ R)) {P_ : Prop} (K_ : ∀ σ', (CaM X (n + 4) (.top 577) [.loc 19, .loc 33] [] σ .none σ') → (Led σ' ([(34, .list []), (tb, .dI []), (19, cntO)] ++ R)) → P_) : P_ :=
  run_then X (n + 4) (.top 577) [.loc 19, .loc 33] H _ _ (by got_up) (by exact fun e h => K_ _ e (h.dropN 8))
theorem free_H {es : List (Str × Cell)} {b : Bool} (hb : b = false → es = []) (nd : (es.map (·.1)).Nodup)
    (H : Led σ ([(33, haO 0 false tb), (34, .list []), (tb, tabO b es), (19, cntO), (12, heapO L z), (z, .list zs)] ++ ((es.map (·.2)).flatMap (·.foot 1) ++ R))) (hv : es.length < 100) (hz : zs.length < 100) {P_ : Prop} (K_ : ∀ σ', (CaM X (n + 4) (.top 577) [.loc 19, .loc 33] [] σ .none σ') → (Led σ' ([(19, cntO), (12, heapO L z), (z, .list (zs ++ (es.map (·.2)).map fun c => .loc c.s))] ++ ((es.map (·.2)).flatMap (·.foot 0) ++ R))) → P_) : P_ := by
  cases b with
  | false =>
    obtain rfl := hb rfl
    refine free_H0 (X := X) (n := n) (R := [(12, heapO L z), (z, .list zs)] ++ R) H ?_
    intro σ' e H'
    refine K_ σ' e ?_
    have := H'.tail.tail
    simpa using this
  | true =>
    refine free_H1 (X := X) (n := n) (R := [(12, heapO L z), (z, .list zs)] ++ ((es.map (·.2)).flatMap (·.foot 1) ++ R)) H (by lia) nd ?_
    intro fr1 σ1 g e1 h1 h2 H1
    refine free_rest (X := X) (n := n + 1) (cs := es.map (·.2)) (R := (34, .list []) :: (tb, tabO true es) :: R) (L := L) (z := z) (zs := zs) h1 h2 (by simp; lia) (H1.perm (by exact permR [_, _, _, _, _, _] [_, _] (.a (.c 0 (.c 1 (.c 2 (.c 3 .e)))) (.a (.c 4 (.c 5 .e)) (.a (.s 0) (.s 1)))) (.a (.c 3 (.c 4 (.c 5 (.c 0 .e)))) (.a (.s 0) (.c 1 (.c 2 (.s 1))))) rfl)) ?_
    intro fr2 σ2 e2 H2
    refine K_ σ2 ?_ ((H2.perm (permC (b := (34, .list []) :: (tb, tabO true es) :: ([(19, cntO), (12, heapO L z), (z, .list (zs ++ (es.map (·.2)).map fun c => .loc c.s))] ++ ((es.map (·.2)).flatMap (·.foot 0) ++ R))) fun f => by simp only [cnt_app, cnt_cons, cnt_nil]; lia)).tail.tail)
    exact cm_top rfl (fm_fn rfl rfl rfl rfl (fl := .next) (xms_app e1 e2))
end Mine
end
section
namespace Mine
open PySem
variable {X : Wb} {σ : MS} {R : List (Nat × MO)} {n : Nat} {L num : Int} {z t g it tb : Nat} {zs gs : List MV}
noncomputable abbrev fGone : MO := .fn 0 [("gone", 3)]
noncomputable abbrev cGone : MO := .cell (some (.loc 14))
theorem Led.less {σ : MS} {A B X : List (Nat × MO)} (H : Led σ A) (h : ∀ f : Nat × MO → Nat, cnt f A = cnt f X + cnt f B) : Led σ B := by
  have : Led σ (X ++ B) := H.perm (permC fun f => by rw [h f, cnt_app])
  exact this.drop
theorem fin_step (d : Dead) (hg : gs.length < 1000) (H : Led σ ([(19, cntO), (18, fGone), (3, cGone), (14, .list gs)] ++ (d.foot false ++ R))) {P_ : Prop} (K_ : ∀ σ', (CaM X (n + 3) (.top 570) [.loc 19, .loc d.loc] [] σ .none σ') → (Led σ' ([(19, cntO), (18, fGone), (3, cGone), (14, .list (gs ++ d.tells.map .int))] ++ (d.foot true ++ R))) → P_) : P_ := by
  cases d with
  | P q =>
    refine finish_P (X := X) (n := n) (p := q.p) (pn := q.num) (pw := q.pw) (pit := q.pit) (R := (q.pw, .list []) :: (q.pit, .list []) :: R) (H.perm (by exact permR [_, _, _, _, _, _, _] [_] (.a (.c 0 (.c 1 (.c 2 (.c 3 .e)))) (.a (.c 4 (.c 5 (.c 6 .e))) (.s 0))) (.a (.c 0 (.c 1 (.c 2 (.c 3 (.c 4 .e))))) (.c 5 (.c 6 (.s 0)))) rfl)) hg ?_
    intro σ' e H'
    exact K_ σ' e (H'.perm (by exact permR [_, _, _, _, _, _, _] [_] (.a (.c 0 (.c 1 (.c 2 (.c 3 (.c 4 .e))))) (.c 5 (.c 6 (.s 0)))) (.a (.c 0 (.c 1 (.c 2 (.c 3 .e)))) (.a (.c 4 (.c 5 (.c 6 .e))) (.s 0))) rfl))
  | S c =>
    refine K_ σ (finish_S (X := X) (n := n + 2) (s := c.s) (num := c.num) (fr := false) (wk := c.wk) (v := c.val) (R := [(19, cntO), (18, fGone), (3, cGone), (14, .list gs)] ++ ((c.wk, .list []) :: vfoot c.v ++ R)) (H.perm (by exact permR [_, _, _, _, _, _] [_, _] (.a (.c 0 (.c 1 (.c 2 (.c 3 .e)))) (.a (.c 4 (.c 5 (.s 0))) (.s 1))) (.a (.c 4 .e) (.a (.c 0 (.c 1 (.c 2 (.c 3 .e)))) (.a (.c 5 (.s 0)) (.s 1)))) rfl))) ?_
    simpa [Dead.tells, Dead.foot] using H
  | A it vs =>
    refine K_ σ (finish_A (X := X) (n := n + 2) (s := 33) (num := 1) (ds := false) (fr := false) (wk := 34) (pit := it) (R := [(19, cntO), (18, fGone), (3, cGone), (14, .list gs)] ++ ((34, .list []) :: (it, .list (vs.map cellV)) :: (acells vs).flatMap (·.foot 1) ++ R)) (H.perm (by exact permR [_, _, _, _, _, _, _] [_, _] (.a (.c 0 (.c 1 (.c 2 (.c 3 .e)))) (.a (.c 4 (.c 5 (.c 6 (.s 0)))) (.s 1))) (.a (.c 4 .e) (.a (.c 0 (.c 1 (.c 2 (.c 3 .e)))) (.a (.c 5 (.c 6 (.s 0))) (.s 1)))) rfl))) ?_
    simpa [Dead.tells, Dead.foot] using H
  | H tb es b =>
    refine K_ σ (finish_H (X := X) (n := n + 2) (s := 33) (fr := false) (pit := tb) (R := [(19, cntO), (18, fGone), (3, cGone), (14, .list gs)] ++ ((34, .list []) :: (tb, tabO b es) :: (es.map (·.2)).flatMap (·.foot 1) ++ R)) (H.perm (by exact permR [_, _, _, _, _, _, _] [_, _] (.a (.c 0 (.c 1 (.c 2 (.c 3 .e)))) (.a (.c 4 (.c 5 (.c 6 (.s 0)))) (.s 1))) (.a (.c 4 .e) (.a (.c 0 (.c 1 (.c 2 (.c 3 .e)))) (.a (.c 5 (.c 6 (.s 0))) (.s 1)))) rfl))) ?_
    simpa [Dead.tells, Dead.foot] using H
theorem free_step (d : Dead) (hd : d.ok) (hz : zs.length < 100) (H : Led σ ([(19, cntO), (20, .dI []), (21, .dI []), (12, heapO L z), (z, .list zs)] ++ (d.foot true ++ R))) {P_ : Prop} (K_ : ∀ σ', (CaM X (n + 4) (.top 577) [.loc 19, .loc d.loc] [] σ .none σ') → (Led σ' ([(19, cntO), (20, .dI []), (21, .dI []), (12, heapO L z), (z, .list (zs ++ d.kids.map fun d => .loc d.loc))] ++ (d.kids.flatMap (·.foot false) ++ R))) → P_) : P_ := by
  cases d with
  | P q =>
    refine free_P (X := X) (n := n) (p := q.p) (pn := q.num) (bl := pStr) (ds := true) (pw := q.pw) (pit := q.pit) (R := [(20, .dI []), (21, .dI []), (12, heapO L z), (z, .list zs)] ++ R) (H.perm (by exact permR [_, _, _, _, _, _, _, _] [_] (.a (.c 0 (.c 1 (.c 2 (.c 3 (.c 4 .e))))) (.a (.c 5 (.c 6 (.c 7 .e))) (.s 0))) (.a (.c 5 (.c 6 (.c 7 (.c 0 .e)))) (.a (.c 1 (.c 2 (.c 3 (.c 4 .e)))) (.s 0))) rfl)) ?_
    intro σ' e H'
    refine K_ σ' e (H'.less (X := [(q.pw, .list []), (q.pit, .list [])]) fun f => by simp only [Dead.kids, List.flatMap_nil, List.map_nil, List.append_nil, cnt_app, cnt_cons, cnt_nil]; lia)
  | S c =>
    obtain ⟨s, wk, num, v⟩ := c
    cases v with
    | none =>
      refine free_S0 (X := X) (n := n) (s := s) (wk := wk) (num := num) (R := [(12, heapO L z), (z, .list zs)] ++ R) (H.perm (by exact permR [_, _, _, _, _, _, _] [_] (.a (.c 0 (.c 1 (.c 2 (.c 3 (.c 4 .e))))) (.a (.c 5 (.c 6 .e)) (.s 0))) (.a (.c 5 (.c 6 (.c 1 (.c 2 (.c 0 .e))))) (.a (.c 3 (.c 4 .e)) (.s 0))) rfl)) ?_
      intro σ' e H'
      refine K_ σ' e (H'.less (X := [(wk, .list [])]) fun f => by simp only [Dead.kids, Option.toList_none, List.flatMap_nil, List.map_nil, List.append_nil, cnt_app, cnt_cons, cnt_nil]; lia)
    | some q =>
      refine free_S1 (X := X) (n := n) (s := s) (wk := wk) (num := num) (r := q.r) (p := q.p) (C := 117) (pn := q.num) (rest := [("blessed", pStr), ("weak", .loc q.pw), ("is_destroyed", .bool false), ("is_freed", .bool false), ("items", .loc q.pit), ("tied", .none)])
        (L := L) (z := z) (zs := zs) (R := (q.pw, .list []) :: (q.pit, .list []) :: R) (H.perm (by exact permR [_, _, _, _, _, _, _, _, _, _, _] [_] (.a (.c 0 (.c 1 (.c 2 (.c 3 (.c 4 .e))))) (.a (.c 5 (.c 6 (.c 7 (.c 8 (.c 9 (.c 10 .e)))))) (.s 0))) (.a (.c 5 (.c 6 (.c 1 (.c 2 (.c 0 (.c 7 (.c 8 (.c 3 (.c 4 .e))))))))) (.c 9 (.c 10 (.s 0)))) rfl)) (by lia) (by rw [at117]; simp) (by simp) ?_
      intro σ' e H'
      refine K_ σ' e (H'.less (X := [(wk, .list []), (q.r, refO q.p)]) fun f => by simp only [Dead.kids, Option.toList_some, List.map_cons, List.map_nil, List.flatMap_cons, List.flatMap_nil, Dead.foot, Dead.loc, arO, obO, cnt_app, cnt_cons, cnt_nil]; lia)
  | A it vs =>
    refine free_A (X := X) (n := n) (it := it) (vs := vs) (L := L) (z := z) (zs := zs) (R := [(20, .dI []), (21, .dI [])] ++ R) (H.perm (by exact permR [_, _, _, _, _, _, _, _] [_, _] (.a (.c 0 (.c 1 (.c 2 (.c 3 (.c 4 .e))))) (.a (.c 5 (.c 6 (.c 7 (.s 0)))) (.s 1))) (.a (.c 5 (.c 6 (.c 7 (.c 0 (.c 3 (.c 4 .e)))))) (.a (.s 0) (.a (.c 1 (.c 2 .e)) (.s 1)))) rfl)) hd hz ?_
    intro σ' e H'
    refine K_ σ' e (H'.perm (permC fun f => by
      have e1 : (List.map Dead.S (acells vs)).flatMap (·.foot false) = (acells vs).flatMap (·.foot 0) := by rw [List.flatMap_map]; rfl
      have e2 : (List.map Dead.S (acells vs)).map (fun d => MV.loc d.loc) = (acells vs).map fun c => .loc c.s := by rw [List.map_map]; rfl
      simp only [Dead.kids, Dead.cells, e1, e2, cnt_app, cnt_cons, cnt_nil]; lia))
  | H tb es b =>
    refine free_H (X := X) (n := n) (tb := tb) (es := es) (b := b) (L := L) (z := z) (zs := zs) (R := [(20, .dI []), (21, .dI [])] ++ R) hd.2.2 hd.2.1 (H.perm (by exact permR [_, _, _, _, _, _, _, _] [_, _] (.a (.c 0 (.c 1 (.c 2 (.c 3 (.c 4 .e))))) (.a (.c 5 (.c 6 (.c 7 (.s 0)))) (.s 1))) (.a (.c 5 (.c 6 (.c 7 (.c 0 (.c 3 (.c 4 .e)))))) (.a (.s 0) (.a (.c 1 (.c 2 .e)) (.s 1)))) rfl)) hd.1 hz ?_
    intro σ' e H'
    refine K_ σ' e (H'.perm (permC fun f => by
      have e1 : (List.map Dead.S (es.map (·.2))).flatMap (·.foot false) = (es.map (·.2)).flatMap (·.foot 0) := by rw [List.flatMap_map]; rfl
      have e2 : (List.map Dead.S (es.map (·.2))).map (fun d => MV.loc d.loc) = (es.map (·.2)).map fun c => .loc c.s := by rw [List.map_map]; rfl
      simp only [Dead.kids, Dead.cells, e1, e2, cnt_app, cnt_cons, cnt_nil]; lia))
noncomputable def finBody : List MSt := [.expr (.meth (.var "self") "finish" [.var "thing"])]
noncomputable def freBody : List MSt := [.ite
         (.and
           (.cmp (.eq) (.attr (.var "thing") "count") (.int 0))
           (.not (.attr (.var "thing") "is_freed")))
         [.expr (.meth (.var "self") "free" [.var "thing"])]
         []]
theorem fin_loop (dl : Nat) (all : List MV) : ∀ (r : List Dead) (fr : MF) (σ : MS) (gs : List MV) (R : List (Nat × MO)), getL' "self" fr.loc = some (.loc 19) → gs.length + r.length < 900 →
    Led σ ([(19, cntO), (18, fGone), (3, cGone), (14, .list gs), (dl, .list all)] ++ (r.flatMap (·.foot false) ++ R)) → ∀ (P_ : Prop), (∀ fr' σ', (FoM X (n + 3) "thing" finBody (fun τ => τ.obj dl = some (.list all)) (r.map fun d => .loc d.loc) fr σ .next fr' σ') → ((∀ x, x ≠ "thing" → getL' x fr'.loc = getL' x fr.loc)) → (Led σ' ([(19, cntO), (18, fGone), (3, cGone), (14, .list (gs ++ (r.flatMap Dead.tells).map .int)), (dl, .list all)] ++ (r.flatMap (·.foot true) ++ R))) → P_) → P_
  | [], fr, σ, gs, R, hs, hl, H, _, K_ => K_ fr σ (.nil (H.get 4 rfl)) (fun _ _ => rfl) (by simpa using H)
  | d :: r, fr, σ, gs, R, hs, hl, H, _, K_ => by
    have hg := H.get 4 rfl
    have h19 := H.get 0 rfl
    refine fin_step (X := X) (n := n) (gs := gs) (R := (dl, .list all) :: (r.flatMap (·.foot false) ++ R)) d (by lia) (H.perm (permC fun f => by simp only [List.flatMap_cons, cnt_app, cnt_cons, cnt_nil]; lia)) ?_
    intro σ1 e1 H1
    have hself : getL' "self" (setL "thing" (.loc d.loc) fr.loc) = some (.loc 19) := by rw [getL_setL, if_neg (by decide)]; exact hs
    have hth : getL' "thing" (setL "thing" (.loc d.loc) fr.loc) = some (.loc d.loc) := by rw [getL_setL, if_pos rfl]
    have step : ExsM X (n + 3) finBody ⟨setL "thing" (.loc d.loc) fr.loc, fr.cel, fr.law⟩ σ .next ⟨setL "thing" (.loc d.loc) fr.loc, fr.cel, fr.law⟩ σ1 :=
      xms_one (xm_expr (em_meth (em_var hself) (mm_inst X.b.toBs h19 rfl rfl) (ems_cons (em_var hth) ems_nil) e1))
    have ht : d.tells.length ≤ 1 := by cases d <;> simp [Dead.tells]
    refine fin_loop dl all r ⟨setL "thing" (.loc d.loc) fr.loc, fr.cel, fr.law⟩ σ1 (gs ++ d.tells.map .int) (d.foot true ++ R) hself (by simp at hl ⊢; lia) (H1.perm (by exact permR [_, _, _, _, _] [_, _, _] (.a (.c 0 (.c 1 (.c 2 (.c 3 .e)))) (.a (.s 0) (.c 4 (.a (.s 1) (.s 2))))) (.a (.c 0 (.c 1 (.c 2 (.c 3 (.c 4 .e))))) (.a (.s 1) (.a (.s 0) (.s 2)))) rfl)) _ ?_
    intro fr' σ' e hx H2
    refine K_ fr' σ' (.cons hg step e) (fun x h => by rw [hx x h, getL_setL, if_neg fun e => h e.symm]) ?_
    · rw [List.append_assoc, ← List.map_append, ← List.flatMap_cons] at H2
      exact H2.perm (permC fun f => by simp only [List.flatMap_cons, cnt_app, cnt_cons, cnt_nil]; lia)
theorem fre_loop (dl : Nat) (all : List MV) : ∀ (r : List Dead) (fr : MF) (σ : MS) (zs : List MV) (R : List (Nat × MO)), getL' "self" fr.loc = some (.loc 19) → (∀ d ∈ r, d.ok) → zs.length + (r.flatMap Dead.kids).length < 100 →
    Led σ ([(19, cntO), (20, .dI []), (21, .dI []), (12, heapO L z), (z, .list zs), (dl, .list all)] ++ (r.flatMap (·.foot true) ++ R)) → ∀ (P_ : Prop), (∀ fr' σ', (FoM X (n + 4) "thing" freBody (fun τ => τ.obj dl = some (.list all)) (r.map fun d => .loc d.loc) fr σ .next fr' σ') → ((∀ x, x ≠ "thing" → getL' x fr'.loc = getL' x fr.loc)) → (Led σ' ([(19, cntO), (20, .dI []), (21, .dI []), (12, heapO L z), (z, .list (zs ++ (r.flatMap Dead.kids).map fun d => .loc d.loc)), (dl, .list all)] ++ ((r.flatMap Dead.kids).flatMap (·.foot false) ++ R))) → P_) → P_
  | [], fr, σ, zs, R, hs, ho, hl, H, _, K_ => K_ fr σ (.nil (H.get 5 rfl)) (fun _ _ => rfl) (by simpa using H)
  | d :: r, fr, σ, zs, R, hs, ho, hl, H, _, K_ => by
    have hg := H.get 5 rfl
    have h19 := H.get 0 rfl
    have hz : zs.length < 100 := by lia
    obtain ⟨fo, hfo⟩ := foot_ob true d
    have hob : σ.obj d.loc = some (d.ob true) := H.at_ (d.loc, d.ob true) (List.mem_append_right _ (List.mem_append_left _ (by rw [List.flatMap_cons, hfo]; exact List.mem_append_left _ (.head _))))
    refine free_step (X := X) (n := n) (zs := zs) (L := L) (z := z) (R := (dl, .list all) :: (r.flatMap (·.foot true) ++ R)) d (ho d (.head _)) hz (H.perm (permC fun f => by simp only [List.flatMap_cons, cnt_app, cnt_cons, cnt_nil]; lia)) ?_
    intro σ1 e1 H1
    have hself : getL' "self" (setL "thing" (.loc d.loc) fr.loc) = some (.loc 19) := by rw [getL_setL, if_neg (by decide)]; exact hs
    have hth : getL' "thing" (setL "thing" (.loc d.loc) fr.loc) = some (.loc d.loc) := by rw [getL_setL, if_pos rfl]
    have step : ExsM X (n + 4) freBody ⟨setL "thing" (.loc d.loc) fr.loc, fr.cel, fr.law⟩ σ .next ⟨setL "thing" (.loc d.loc) fr.loc, fr.cel, fr.law⟩ σ1 :=
      xms_one (xm_ite (p := true) (ob_zero true d hth hob) (xms_one (xm_expr (em_meth (em_var hself) (mm_inst X.b.toBs h19 rfl rfl) (ems_cons (em_var hth) ems_nil) e1))))
    refine fre_loop dl all r ⟨setL "thing" (.loc d.loc) fr.loc, fr.cel, fr.law⟩ σ1 (zs ++ d.kids.map fun d => .loc d.loc) (d.kids.flatMap (·.foot false) ++ R) hself (fun x h => ho x (.tail _ h)) (by simp at hl ⊢; lia) (H1.perm (by exact permR [_, _, _, _, _, _] [_, _, _] (.a (.c 0 (.c 1 (.c 2 (.c 3 (.c 4 .e))))) (.a (.s 0) (.c 5 (.a (.s 1) (.s 2))))) (.a (.c 0 (.c 1 (.c 2 (.c 3 (.c 4 (.c 5 .e)))))) (.a (.s 1) (.a (.s 0) (.s 2)))) rfl)) _ ?_
    intro fr' σ' e hx H2
    refine K_ fr' σ' (.cons hg step e) (fun x h => by rw [hx x h, getL_setL, if_neg fun e => h e.symm]) ?_
    · rw [List.append_assoc, ← List.map_append, ← List.flatMap_cons] at H2
      exact H2.perm (permC fun f => by simp only [List.flatMap_cons, List.flatMap_append, cnt_app, cnt_cons, cnt_nil]; lia)
end Mine
end
section
namespace Mine
open PySem
variable {X : Wb} {σ : MS} {R : List (Nat × MO)} {n : Nat} {L num : Int} {z t g it tb : Nat} {zs gs : List MV} {ds : List Dead}
theorem nums_kids (d : Dead) : d.nums = d.num :: d.kids.flatMap Dead.nums := by
  cases d with
  | P q => rfl
  | S c => obtain ⟨s, wk, num, v⟩ := c; cases v <;> rfl
  | A it vs => simp only [Dead.nums, Dead.num, Dead.kids, List.flatMap_map]
  | H tb es b => simp only [Dead.nums, Dead.num, Dead.kids, List.flatMap_map]
theorem all_kids (d : Dead) : d.all = d.tells ++ d.kids.flatMap Dead.all := by
  cases d with
  | P q => rfl
  | S c => obtain ⟨s, wk, num, v⟩ := c; cases v <;> rfl
  | A it vs => simp only [Dead.all, Dead.tells, Dead.kids, List.flatMap_map, List.nil_append]
  | H tb es b => simp only [Dead.all, Dead.tells, Dead.kids, List.flatMap_map, List.nil_append]
noncomputable def Dead.rank : Dead → Nat
  | .P _ => 1
  | .S _ => 2
  | _ => 3
theorem kids_rank (d : Dead) : ∀ k ∈ d.kids, k.rank < d.rank ∧ k.ok := by
  intro k hk
  cases d with
  | P q => cases hk
  | S c =>
    obtain ⟨p, _, rfl⟩ := List.mem_map.mp hk
    exact ⟨by simp [Dead.rank], trivial⟩
  | A it vs =>
    obtain ⟨p, _, rfl⟩ := List.mem_map.mp hk
    exact ⟨by simp [Dead.rank], trivial⟩
  | H tb es b =>
    obtain ⟨p, _, rfl⟩ := List.mem_map.mp hk
    exact ⟨by simp [Dead.rank], trivial⟩
theorem len_nums : ∀ l : List Dead, l.length ≤ (l.flatMap Dead.nums).length
  | [] => Nat.zero_le _
  | d :: l => by
    have ih := len_nums l
    rw [List.flatMap_cons, List.length_append, List.length_cons, nums_kids, List.length_cons]; lia
theorem nums_all : ∀ l : List Dead, (l.flatMap Dead.nums).Perm (l.map Dead.num ++ (l.flatMap Dead.kids).flatMap Dead.nums)
  | [] => .refl _
  | d :: l => by
    have ih := nums_all l
    refine permC fun f => ?_
    have e : cnt f (l.flatMap Dead.nums) = cnt f (l.map Dead.num ++ (l.flatMap Dead.kids).flatMap Dead.nums) := by
      have : ∀ {a b : List Int}, a.Perm b → cnt f a = cnt f b := fun h => by
        induction h with
        | nil => rfl
        | cons x _ ih => rw [cnt_cons, cnt_cons, ih]
        | swap x y l => simp only [cnt_cons]; lia
        | trans _ _ a b => rw [a, b]
      exact this ih
    simp only [List.flatMap_cons, List.map_cons, List.flatMap_append, nums_kids d, cnt_app, cnt_cons] at e ⊢
    lia
theorem cnt_perm {α : Type} {f : α → Nat} {a b : List α} (h : a.Perm b) : cnt f a = cnt f b := by
  induction h with
  | nil => rfl
  | cons x _ ih => rw [cnt_cons, cnt_cons, ih]
  | swap x y l => simp only [cnt_cons]; lia
  | trans _ _ a b => rw [a, b]
theorem cnt_flat {α β : Type} {f : β → Nat} {g : α → List β} {a b : List α} (h : a.Perm b) : cnt f (a.flatMap g) = cnt f (b.flatMap g) := cnt_perm (h.flatMap_right g)
noncomputable def zeroE : ME := .attr (.attr (.var "self") "heap") "zero"
noncomputable def setBody : List MSt := [.asg (.var "dying") (.call (.val (.top 488)) [.sliceF zeroE (.var "start")]),
    .asg (.attr (.attr (.var "self") "heap") "zero") (.sliceT zeroE (.var "start")),
    .forL "thing" (.var "dying") finBody,
    .forL "thing" (.var "dying") freBody]
noncomputable def baseL (L : Int) (z : Nat) (zs gs : List MV) : List (Nat × MO) := [(19, cntO), (20, .dI []), (21, .dI []), (18, fGone), (3, cGone), (12, heapO L z), (z, .list zs), (14, .list gs)]
noncomputable abbrev tst563 : ME := .cmp .gt (.call (.val (.bi "len")) [zeroE]) (.var "start")
theorem zeroE_ {fr : MF} (hs : getL' "self" fr.loc = some (.loc 19)) (h19 : σ.obj 19 = some cntO) (h12 : σ.obj 12 = some (heapO L z)) : EvM X n fr zeroE σ (.loc z) σ :=
  em_attr (em_attr (em_var hs) (am_get X.b.toBs h19 rfl rfl rfl)) (am_get X.b.toBs h12 rfl rfl rfl)
theorem round_ (fr : MF) (hs : getL' "self" fr.loc = some (.loc 19)) (h0 : getL' "start" fr.loc = some (.int 0)) (ho : ∀ d ∈ ds, d.ok) (hn : (ds.flatMap Dead.nums).Nodup) (hl : (ds.flatMap Dead.nums).length < 60) (hg : gs.length < 500)
    (H : Led σ (baseL L z (ds.map fun d => .loc d.loc) gs ++ (ds.flatMap (·.foot false) ++ R))) {P_ : Prop} (K_ : ∀ fr' σ' z', (ExsM X (n + 4) setBody fr σ .next fr' σ') → (getL' "self" fr'.loc = some (.loc 19)) → (getL' "start" fr'.loc = some (.int 0)) → (Led σ' (baseL L z' (((sortD ds).flatMap Dead.kids).map fun d => .loc d.loc) (gs ++ ((sortD ds).flatMap Dead.tells).map .int) ++ (((sortD ds).flatMap Dead.kids).flatMap (·.foot false) ++ R))) → P_) : P_ := by
  have hp := nums_all ds
  have hn2 := hp.nodup_iff.mp hn
  have hl2 := hp.length_eq
  rw [List.length_append, List.length_map] at hl2
  have hnn : (ds.map Dead.num).Nodup := (List.nodup_append.mp hn2).1
  have hdl : ds.length < 60 := by lia
  have hcap : ds.length < 1000 := by lia
  have hsp := sortD_perm ds
  have hkl : ((sortD ds).flatMap Dead.kids).length < 60 := by
    have e1 : ((sortD ds).flatMap Dead.kids).length = (ds.flatMap Dead.kids).length := (hsp.flatMap_right _).length_eq
    have e2 := len_nums (ds.flatMap Dead.kids)
    lia
  have H1 := H.new (.list (ds.map fun d => .loc d.loc))
  have hd : ∀ d ∈ ds, (σ.new (.list (ds.map fun d => .loc d.loc))).obj d.loc = some (d.ob false) ∧ d.loc < (σ.new (.list (ds.map fun d => .loc d.loc))).next := fun d hd => by
    obtain ⟨r, hr⟩ := foot_ob false d
    have hm : (d.loc, d.ob false) ∈ ds.flatMap (·.foot false) := List.mem_flatMap.mpr ⟨d, hd, by rw [hr]; exact .head _⟩
    have hm' := List.mem_cons_of_mem (σ.next, MO.list (ds.map fun d => .loc d.loc)) (List.mem_append_right (baseL L z (ds.map fun d => .loc d.loc) gs) (List.mem_append_left R hm))
    exact ⟨H1.at_ _ hm', H1.lt _ hm'⟩
  refine in_order (X := X) (n := n + 2) false H1 hd hnn hdl ?_
  intro σ1 l e1 H2
  have h19 := H.get 0 rfl
  have h12 := H.get 5 rfl
  have hzz := H.get 6 rfl
  have hdl0 : (ds.map fun d => MV.loc d.loc).length < 1000 := by rw [List.length_map]; exact hcap
  have s1 : ExM X (n + 4) (.asg (.var "dying") (.call (.val (.top 488)) [.sliceF zeroE (.var "start")])) fr σ .next ⟨setL "dying" (.loc l) fr.loc, fr.cel, fr.law⟩ σ1 :=
    xm_asg rfl (em_call em_val (ems_cons (em_sliceF (k := 0) (zeroE_ hs h19 h12) (em_var h0) hzz hdl0 (Nat.zero_le _)) ems_nil) e1) sm_var
  have g19 := H2.get 1 rfl
  have g12 := H2.get 6 rfl
  have gzz := H2.get 7 rfl
  have H3 := (H2.new (.list [])).set 7 rfl (heapO L σ1.next)
  have f1 : getL' "self" (setL "dying" (.loc l) fr.loc) = some (.loc 19) := by rw [getL_setL, if_neg (by decide)]; exact hs
  have f2 : getL' "start" (setL "dying" (.loc l) fr.loc) = some (.int 0) := by rw [getL_setL, if_neg (by decide)]; exact h0
  have s2 : ExM X (n + 4) (.asg (.attr (.attr (.var "self") "heap") "zero") (.sliceT zeroE (.var "start"))) ⟨setL "dying" (.loc l) fr.loc, fr.cel, fr.law⟩ σ1 .next ⟨setL "dying" (.loc l) fr.loc, fr.cel, fr.law⟩ ((σ1.new (.list [])).put 12 (heapO L σ1.next)) :=
    xm_asg rfl (em_sliceT (k := 0) (zeroE_ f1 g19 g12) (em_var f2) gzz hdl0 (Nat.zero_le _)) (sm_attr (em_attr (em_var f1) (am_get X.b.toBs ((H2.new (.list [])).get 2 rfl) rfl rfl rfl)) (am_set X.b.toBs ((H2.new (.list [])).get 7 rfl) rfl (Nat.le_of_ble_eq_true rfl) rfl))
  refine fin_loop (X := X) (n := n + 1) l ((sortD ds).map fun d => .loc d.loc) (sortD ds) ⟨setL "dying" (.loc l) fr.loc, fr.cel, fr.law⟩ _ gs
    ([(20, .dI []), (21, .dI []), (12, heapO L σ1.next), (σ1.next, .list []), (z, .list (ds.map fun d => .loc d.loc))] ++ R) (by rw [getL_setL, if_neg (by decide)]; exact hs) (by rw [hsp.length_eq]; lia)
    (H3.perm (permC fun f => by
      have e := cnt_flat (f := f) (g := fun d : Dead => d.foot false) hsp
      show cnt f ((σ1.next, MO.list []) :: (l, .list ((sortD ds).map fun d => .loc d.loc)) :: (19, cntO) :: (20, .dI []) :: (21, .dI []) :: (18, fGone) :: (3, cGone) :: (12, heapO L σ1.next) :: (z, .list (ds.map fun d => .loc d.loc)) :: (14, .list gs) :: (ds.flatMap (·.foot false) ++ R)) = _
      simp only [cnt_app, cnt_cons, cnt_nil, fGone, cGone]
      lia)) _ ?_
  intro f3 σ3 e3 x3 H4
  have hsl : (sortD ds).length < 1000 := by rw [hsp.length_eq]; exact hcap
  have hdy : getL' "dying" (setL "dying" (.loc l) fr.loc) = some (.loc l) := by rw [getL_setL, if_pos rfl]
  have s3 : ExM X (n + 4) (.forL "thing" (.var "dying") finBody) ⟨setL "dying" (.loc l) fr.loc, fr.cel, fr.law⟩ ((σ1.new (.list [])).put 12 (heapO L σ1.next)) .next f3 σ3 := xm_forL (em_var hdy) (H3.get 1 rfl) e3
  refine fre_loop (X := X) (n := n) (L := L) (z := σ1.next) l ((sortD ds).map fun d => .loc d.loc) (sortD ds) f3 σ3 [] ([(18, fGone), (3, cGone), (14, .list (gs ++ ((sortD ds).flatMap Dead.tells).map .int)), (z, .list (ds.map fun d => .loc d.loc))] ++ R)
    (by rw [x3 _ (by decide), getL_setL, if_neg (by decide)]; exact hs) (fun d h => ho d (hsp.mem_iff.mp h)) (by simpa using Nat.lt_trans hkl (by decide))
    (H4.perm (by exact permR [_, _, _, _, _, _, _, _, _, _] [_, _] (.a (.c 0 (.c 1 (.c 2 (.c 3 (.c 4 .e))))) (.a (.s 0) (.a (.c 5 (.c 6 (.c 7 (.c 8 (.c 9 .e))))) (.s 1)))) (.a (.c 0 (.c 5 (.c 6 (.c 7 (.c 8 (.c 4 .e)))))) (.a (.s 0) (.a (.c 1 (.c 2 (.c 3 (.c 9 .e)))) (.s 1)))) rfl)) _ ?_
  intro f4 σ4 e4 x4 H5
  have hd3 : getL' "dying" f3.loc = some (.loc l) := by rw [x3 _ (by decide)]; exact hdy
  have s4 : ExM X (n + 4) (.forL "thing" (.var "dying") freBody) f3 σ3 .next f4 σ4 := xm_forL (em_var hd3) (H4.get 4 rfl) e4
  refine K_ f4 σ4 σ1.next (xms_cons s1 (xms_cons s2 (xms_cons s3 (xms_one s4)))) ?_ ?_ ?_
  · rw [x4 _ (by decide), x3 _ (by decide), getL_setL, if_neg (by decide)]; exact hs
  · rw [x4 _ (by decide), x3 _ (by decide), getL_setL, if_neg (by decide)]; exact h0
  · exact H5.less (X := [(l, .list ((sortD ds).map fun d => .loc d.loc)), (z, .list (ds.map fun d => .loc d.loc))]) fun f => by simp only [baseL, List.nil_append, cnt_app, cnt_cons, cnt_nil]; lia
theorem set_loop : ∀ (k fuel : Nat), k < fuel → ∀ (ds : List Dead) (fr : MF) (σ : MS) (z : Nat) (gs : List MV), getL' "self" fr.loc = some (.loc 19) → getL' "start" fr.loc = some (.int 0) → (∀ d ∈ ds, d.ok ∧ d.rank ≤ k) → (ds.flatMap Dead.nums).Nodup →
    (ds.flatMap Dead.nums).length + gs.length < 60 → Led σ (baseL L z (ds.map fun d => .loc d.loc) gs ++ (ds.flatMap (·.foot false) ++ R)) → ∀ (P_ : Prop), (∀ (fr' : MF) (σ' : MS) (z' : Nat) (ns : List Int), (WhM X (n + 4) tst563 setBody fuel fr σ .next fr' σ') → (Led σ' (baseL L z' [] (gs ++ ns.map .int) ++ R)) → (ns.Perm (ds.flatMap Dead.all)) → P_) → P_
  | k, 0, hk, _, _, _, _, _, _, _, _, _, _, _, _, K_ => absurd hk (Nat.not_lt_zero _)
  | k, fuel + 1, hk, ds, fr, σ, z, gs, hs, h0, ho, hn, hl, H, _, K_ => by
    have h19 := H.get 0 rfl
    have h12 := H.get 5 rfl
    have hzz := H.get 6 rfl
    have hdn := len_nums ds
    have hcap : ds.length < 1000 := by lia
    have test : TeM X (n + 4) fr tst563 σ (decide ((ds.length : Int) > 0)) σ := by
      have := im_len (w := X.w) (base := X.base) hzz (by rw [List.length_map]; exact hcap)
      rw [List.length_map] at this
      exact tm_cmp (em_call em_val (ems_cons (zeroE_ hs h19 h12) ems_nil) (cm_bi this)) (em_var h0) (km_int rfl)
    cases ds with
    | nil =>
      exact K_ fr σ z [] (.stop test) (by simpa using H) (.refl _)
    | cons d ds =>
      have hpos : decide (((d :: ds).length : Int) > 0) = true := by simp
      rw [hpos] at test
      have hk1 : 1 ≤ k := Nat.le_trans (by cases d <;> simp [Dead.rank]) (ho d (.head _)).2
      refine round_ (X := X) (n := n) (ds := d :: ds) (R := R) (L := L) fr hs h0 (fun x h => (ho x h).1) hn (by lia) (by lia) H ?_
      intro f1 σ1 z1 e1 a1 a2 H1
      have hsp := sortD_perm (d :: ds)
      have hp := (nums_all (d :: ds))
      have hk2 : (((sortD (d :: ds)).flatMap Dead.kids).flatMap Dead.nums).Perm (((d :: ds).flatMap Dead.kids).flatMap Dead.nums) := (hsp.flatMap_right _).flatMap_right _
      have hln := hp.length_eq
      have hln2 := hk2.length_eq
      rw [List.length_append, List.length_map] at hln
      have htl : ((sortD (d :: ds)).flatMap Dead.tells).length ≤ (d :: ds).length := by
        rw [(hsp.flatMap_right Dead.tells).length_eq]
        generalize d :: ds = l
        induction l with
        | nil => simp
        | cons x l ih =>
          have : x.tells.length ≤ 1 := by cases x <;> simp [Dead.tells]
          rw [List.flatMap_cons, List.length_append, List.length_cons]; lia
      refine set_loop (k - 1) fuel (by lia) ((sortD (d :: ds)).flatMap Dead.kids) f1 σ1 z1 (gs ++ ((sortD (d :: ds)).flatMap Dead.tells).map .int) a1 a2 (fun x h => by
          obtain ⟨y, hy, hx⟩ := List.mem_flatMap.mp h
          have := (ho y (hsp.mem_iff.mp hy)).2
          have := (kids_rank y x hx).1
          exact ⟨(kids_rank y x hx).2, by lia⟩) (hk2.nodup_iff.mpr (List.nodup_append.mp (hp.nodup_iff.mp hn)).2.1)
          (by rw [List.length_append, List.length_map]; lia) H1 _ ?_
      intro f2 σ2 z2 ns e2 H2 hns
      refine K_ f2 σ2 z2 ((sortD (d :: ds)).flatMap Dead.tells ++ ns) (.more test e1 e2) (by rw [List.map_append, ← List.append_assoc]; exact H2) ?_
      · refine permC fun f => ?_
        have q1 := cnt_perm (f := f) hns
        have q2 := cnt_flat (f := f) (g := Dead.tells) hsp
        have q3 := cnt_perm (f := f) ((hsp.flatMap_right Dead.kids).flatMap_right Dead.all)
        have q4 : ∀ l : List Dead, cnt f (l.flatMap Dead.all) = cnt f (l.flatMap Dead.tells) + cnt f ((l.flatMap Dead.kids).flatMap Dead.all) := fun l => by
          induction l with
          | nil => rfl
          | cons x l ih => simp only [List.flatMap_cons, List.flatMap_append, all_kids x, cnt_app, ih]; lia
        rw [cnt_app, q1, q2, q3, q4 (d :: ds)]
theorem settle_ (ho : ∀ d ∈ ds, d.ok) (hn : (ds.flatMap Dead.nums).Nodup) (hl : (ds.flatMap Dead.nums).length + gs.length < 60) (H : Led σ (baseL L z (ds.map fun d => .loc d.loc) gs ++ (ds.flatMap (·.foot false) ++ R))) {P_ : Prop} (K_ : ∀ (σ' : MS) (z' : Nat) (ns : List Int), (CaM X (n + 5) (.top 563) [.loc 19, .int 0] [] σ .none σ') → (Led σ' (baseL L z' [] (gs ++ ns.map .int) ++ R)) → (ns.Perm (ds.flatMap Dead.all)) → P_) : P_ := by
  refine set_loop (X := X) (n := n) (L := L) (R := R) 3 60 (by decide) ds ⟨[("self", .loc 19), ("start", .int 0)], [], false⟩ σ z gs rfl rfl (fun d h => ⟨ho d h, by cases d <;> simp [Dead.rank]⟩) hn hl H _ ?_
  intro fr' σ' z' ns e H' hp
  exact K_ σ' z' ns (cm_top rfl (fm_fn rfl rfl rfl rfl (fl := .next) (xms_one (xm_whl e)))) H' hp
end Mine
end
section
set_option maxRecDepth 100000
set_option maxHeartbeats 4000000
namespace Mine
open PySem
variable {X : Wb} {σ : MS} {R : List (Nat × MO)} {n k : Nat} {L c : Int} {z it tb : Nat} {vs : List (Option Cell)}
noncomputable abbrev fElem : MO := .fn 1 [("is_hash", 4), ("run", 6), ("thing", 7)]
noncomputable def elL (h : Bool) : List (Nat × MO) := [(43, fElem), (4, .cell (some (.bool h))), (6, .cell (some (.loc 22))), (7, .cell (some (.loc 33))), (22, runO), (19, cntO), (11, limO)]
theorem elemA1 {x : Cell} (hk : k < 3) (hv : vs.length ≤ 3) (hx : vs[k]? = some (some x)) (H : Led σ ([(43, fElem), (4, .cell (some (.bool false))), (6, .cell (some (.loc 22))), (7, .cell (some (.loc 33))), (22, runO), (19, cntO), (12, heapO L z), (33, arO 1 c .none false false 34 it), (it, .list (vs.map cellV))] ++ R)) :
    CaM X (n + 3) (.loc 43) [.int k] [] σ (.loc x.s) σ :=
  have h2 : k < vs.length := (List.getElem?_eq_some_iff.mp hx).1
  have h3 : (vs.map cellV)[k]? = some (.loc x.s) := by rw [List.getElem?_map, hx]; rfl
  have hl : (vs.map cellV).length = vs.length := List.length_map ..
  run_then X (n + 3) (.loc 43) [.int k] H _ _ (by got_up) (by exact fun e _ => e)
theorem elemA2 (hk : k < 3) (hv : vs.length ≤ 3) (hx : vs[k]? = some none) (H : Led σ ([(43, fElem), (4, .cell (some (.bool false))), (6, .cell (some (.loc 22))), (7, .cell (some (.loc 33))), (22, runO), (19, cntO), (12, heapO L z), (33, arO 1 c .none false false 34 it), (it, .list (vs.map cellV))] ++ R)) {P_ : Prop} (K_ : ∀ σ' s wk, (CaM X (n + 7) (.loc 43) [.int k] [] σ (.loc s) σ') → (Led σ' ([(wk, .list []), (s, scO (L + 1) 1 false wk .none), (43, fElem), (4, .cell (some (.bool false))), (6, .cell (some (.loc 22))), (7, .cell (some (.loc 33))), (22, runO), (19, cntO), (12, heapO (L + 1) z), (33, arO 1 c .none false false 34 it), (it, .list ((vs.map cellV).set k (.loc s)))] ++ R)) → P_) : P_ :=
  have h2 : k < vs.length := (List.getElem?_eq_some_iff.mp hx).1
  have h3 : (vs.map cellV)[k]? = some .none := by rw [List.getElem?_map, hx]; rfl
  have hl : (vs.map cellV).length = vs.length := List.length_map ..
  run_then X (n + 7) (.loc 43) [.int k] H _ _ (by got_up) (by exact fun e h => K_ _ _ _ e h)
theorem elemA3 (hk : k < 3) (hv : vs.length ≤ 3) (hx : vs.length ≤ k) (H : Led σ ([(43, fElem), (4, .cell (some (.bool false))), (6, .cell (some (.loc 22))), (7, .cell (some (.loc 33))), (22, runO), (19, cntO), (12, heapO L z), (33, arO 1 c .none false false 34 it), (it, .list (vs.map cellV))] ++ R)) {P_ : Prop} (K_ : ∀ σ' s wk, (CaM X (n + 7) (.loc 43) [.int k] [] σ (.loc s) σ') → (Led σ' ([(wk, .list []), (s, scO (L + 1) 1 false wk .none), (43, fElem), (4, .cell (some (.bool false))), (6, .cell (some (.loc 22))), (7, .cell (some (.loc 33))), (22, runO), (19, cntO), (12, heapO (L + 1) z), (33, arO 1 c .none false false 34 it), (it, .list ((vs.map cellV ++ List.replicate (k + 1 - vs.length) MV.none).set k (.loc s)))] ++ R)) → P_) : P_ := by
  have hm : ((k : Int) + 1 - ((vs.map cellV).length : Nat)).toNat = k + 1 - vs.length := by rw [List.length_map]; lia
  have hl : (vs.map cellV).length = vs.length := List.length_map ..
  rw [← hm] at K_
  have h16 : ((k : Int) + 1 - ((vs.map cellV).length : Nat)).toNat < 1000 := by rw [hm]; lia
  have h17 : (List.replicate ((k : Int) + 1 - ((vs.map cellV).length : Nat)).toNat MV.none).length < 1000 := by rw [List.length_replicate]; exact h16
  have h18 : (vs.map cellV ++ List.replicate ((k : Int) + 1 - ((vs.map cellV).length : Nat)).toNat MV.none).length < 1000 := by rw [hm, List.length_append, List.length_replicate, hl]; lia
  have h19 : k < (vs.map cellV ++ List.replicate ((k : Int) + 1 - ((vs.map cellV).length : Nat)).toNat MV.none).length := by rw [hm, List.length_append, List.length_replicate, hl]; lia
  have h20 : (vs.map cellV ++ List.replicate ((k : Int) + 1 - ((vs.map cellV).length : Nat)).toNat MV.none)[k]? = some .none := by
    rw [hm, List.getElem?_append_right (by lia), List.getElem?_replicate, if_pos (by lia)]
  exact run_then X (n + 7) (.loc 43) [.int k] H _ _ (by got_up) (by exact fun e h => K_ _ _ _ e (h.pick [0, 1, 4, 5, 6, 7, 8, 9, 10, 11, 12] 13 (by decide) rfl rfl rfl))
end Mine
end
section
set_option maxRecDepth 100000
set_option maxHeartbeats 4000000
namespace Mine
open PySem
variable {X : Wb} {σ : MS} {R : List (Nat × MO)} {n k : Nat} {L c : Int} {z it tb : Nat} {te : List (Str × MV)}
noncomputable def sS (k : Nat) : Str := Str.ofString (toString (k : Int))
noncomputable def kS (k : Nat) : Str := Str.ofString "k" ++ sS k
theorem kS_1 : (Str.ofString "k").length < 10 := by decide +kernel
theorem kS_2 {k : Nat} (h : k < 3) : (sS k).length < 10 := by
  match k, h with
  | 0, _ => decide +kernel
  | 1, _ => decide +kernel
  | 2, _ => decide +kernel
theorem kS_inj {j k : Nat} (hj : j < 3) (hk : k < 3) (h : kS j = kS k) : j = k := by
  match j, k, hj, hk with
  | 0, 0, _, _ => rfl
  | 1, 1, _, _ => rfl
  | 2, 2, _, _ => rfl
  | 0, 1, _, _ => exact absurd h (by decide +kernel)
  | 0, 2, _, _ => exact absurd h (by decide +kernel)
  | 1, 0, _, _ => exact absurd h (by decide +kernel)
  | 1, 2, _, _ => exact absurd h (by decide +kernel)
  | 2, 0, _, _ => exact absurd h (by decide +kernel)
  | 2, 1, _, _ => exact absurd h (by decide +kernel)
theorem elemH1 {x : Nat} (hk : k < 3) (hx : te.find? (fun e => decide (e.1 = kS k)) = some (kS k, .loc x)) (H : Led σ ([(43, fElem), (4, .cell (some (.bool true))), (6, .cell (some (.loc 22))), (7, .cell (some (.loc 33))), (22, runO), (19, cntO), (12, heapO L z), (33, haO c false tb), (tb, .dS te)] ++ R)) :
    CaM X (n + 3) (.loc 43) [.int k] [] σ (.loc x) σ :=
  have h1 := kS_1
  have h2 := kS_2 hk
  have h3 : (0 : Int) ≤ (k : Int) ∧ (k : Int) < 10 := by lia
  run_then X (n + 3) (.loc 43) [.int k] H _ _ (by got_up) (by exact fun e _ => e)
theorem elemH2 (hk : k < 3) (hv : te.length ≤ 3) (hx : te.find? (fun e => decide (e.1 = kS k)) = none) (H : Led σ ([(43, fElem), (4, .cell (some (.bool true))), (6, .cell (some (.loc 22))), (7, .cell (some (.loc 33))), (22, runO), (19, cntO), (11, limO), (12, heapO L z), (33, haO c false tb), (tb, .dS te)] ++ R)) {P_ : Prop} (K_ : ∀ σ' s wk, (CaM X (n + 7) (.loc 43) [.int k] [] σ (.loc s) σ') → (Led σ' ([(wk, .list []), (s, scO (L + 1) 1 false wk .none), (43, fElem), (4, .cell (some (.bool true))), (6, .cell (some (.loc 22))), (7, .cell (some (.loc 33))), (22, runO), (19, cntO), (11, limO), (12, heapO (L + 1) z), (33, haO c false tb), (tb, .dS (te ++ [(kS k, .loc s)]))] ++ R)) → P_) : P_ :=
  have h1 := kS_1
  have h2 := kS_2 hk
  have h3 : (0 : Int) ≤ (k : Int) ∧ (k : Int) < 10 := by lia
  have h7 : te.any (fun e => decide (e.1 = kS k)) = false := by
    rw [List.any_eq_false]; intro e he; rw [List.find?_eq_none] at hx; exact hx e he
  run_then X (n + 7) (.loc 43) [.int k] H _ _ (by got_up) (by exact fun e h => K_ _ _ _ e h)
theorem elemH3 (hk : k < 3) (H : Led σ ([(43, fElem), (4, .cell (some (.bool true))), (6, .cell (some (.loc 22))), (7, .cell (some (.loc 33))), (22, runO), (19, cntO), (11, limO), (12, heapO L z), (33, haO c false tb), (tb, .dI [])] ++ R)) {P_ : Prop} (K_ : ∀ σ' s wk, (CaM X (n + 7) (.loc 43) [.int k] [] σ (.loc s) σ') → (Led σ' ([(wk, .list []), (s, scO (L + 1) 1 false wk .none), (43, fElem), (4, .cell (some (.bool true))), (6, .cell (some (.loc 22))), (7, .cell (some (.loc 33))), (22, runO), (19, cntO), (11, limO), (12, heapO (L + 1) z), (33, haO c false tb), (tb, .dS [(kS k, .loc s)])] ++ R)) → P_) : P_ :=
  have h1 := kS_1
  have h2 := kS_2 hk
  have h3 : (0 : Int) ≤ (k : Int) ∧ (k : Int) < 10 := by lia
  run_then X (n + 7) (.loc 43) [.int k] H _ _ (by got_up) (by exact fun e h => K_ _ _ _ e h)
end Mine
end
section
set_option maxRecDepth 100000
set_option maxHeartbeats 4000000
namespace Mine
open PySem
variable {X : Wb} {σ : MS} {R : List (Nat × MO)} {n k : Nat} {L c : Int} {z it tb : Nat} {vs : List (Option Cell)} {te : List (Str × MV)} {svs : List MV}
theorem put_self {σ : MS} {n : Nat} {o : MO} (h : σ.obj n = some o) : σ.put n o = σ := by
  unfold MS.put
  cases σ with
  | mk obj next =>
    simp only [MS.mk.injEq, and_true]
    funext m
    split
    · rename_i e; subst e; exact h.symm
    · rfl
noncomputable def a344 : List MSt := b344.take 5
noncomputable def c344 : List MSt := b344.drop 6
noncomputable def t344 : ME := .cmp (.le) (.call (.val (.bi "len")) [.var "items"]) (.var "index")
noncomputable def w344 : List MSt := [.expr (.meth (.var "items") "append" [.none])]
theorem t344_ {fr : MF} {ws : List MV} {p : Bool} (h1 : getL' "items" fr.loc = some (.loc it)) (h2 : getL' "index" fr.loc = some (.int k)) (hc : ws.length < 1000) (hp : decide ((ws.length : Int) ≤ (k : Int)) = p) (ho : σ.obj it = some (.list ws)) : TeM X n fr t344 σ p σ :=
  tm_cmp (em_call em_val (ems_cons (em_var h1) ems_nil) (cm_bi (im_len ho hc))) (em_var h2) (km_int (congrArg some hp))
theorem pad_loop {fr : MF} (h1 : getL' "items" fr.loc = some (.loc it)) (h2 : getL' "index" fr.loc = some (.int k)) (hk : k < 3) : ∀ (m fuel : Nat) (ws : List MV) (σ : MS), m < fuel → (ws.length + m = k + 1 ∨ m = 0 ∧ k < ws.length) → ws.length < 10 → σ.obj it = some (.list ws) →
    WhM X n t344 w344 fuel fr σ .next fr (σ.put it (.list (ws ++ List.replicate m MV.none)))
  | m, 0, _, _, h, _, _, _ => absurd h (Nat.not_lt_zero _)
  | 0, f + 1, ws, σ, hm, hl, hc, ho => by
    rw [List.replicate_zero, List.append_nil, put_self ho]
    exact .stop (t344_ h1 h2 (by lia) (decide_eq_false (by lia)) ho)
  | m + 1, f + 1, ws, σ, hm, hl, hc, ho => by
    have := pad_loop h1 h2 hk m f (ws ++ [MV.none]) (σ.put it (.list (ws ++ [MV.none]))) (by lia) (by simp; lia) (by simp; lia) (by rw [obj_put, if_pos rfl])
    rw [put_put, List.append_assoc] at this
    exact .more (t344_ h1 h2 (by lia) (decide_eq_true (by lia)) ho) (xms_one (xm_expr (em_meth (em_var h1) (mm_append ho) (ems_cons em_none ems_nil) (cm_bi (im_append ho (by lia)))))) this
noncomputable def padV (vs : List (Option Cell)) (k : Nat) : List MV := vs.map cellV ++ List.replicate (k + 1 - vs.length) MV.none
theorem pad_get : (padV vs k)[k]? = some (cellV (vs[k]?).join) := by
  unfold padV
  by_cases h : k < vs.length
  · rw [List.getElem?_append_left (by rw [List.length_map]; exact h), List.getElem?_map, List.getElem?_eq_getElem h]; rfl
  · rw [List.getElem?_append_right (by rw [List.length_map]; lia), List.length_map, List.getElem?_replicate, if_pos (by lia), List.getElem?_eq_none (by lia)]; rfl
theorem local_A (hk : k < 3) (hv : vs.length ≤ 3) (hs : svs.length < 900) (H : Led σ ([(22, runO), (11, limO), (19, cntO), (30, .list svs), (12, heapO L z), (33, arO 1 c .none false false 34 it), (it, .list (vs.map cellV))] ++ R)) {P_ : Prop} (K_ : ∀ σ' s wk tl, (CaM X (n + 7) (.top 344) [.loc 22, .loc 33, .int k] [] σ (.loc s) σ') → (Led σ' ([(wk, .list []), (s, scO (L + 1) 1 false wk .none), (tl, .tup [.str (Str.ofString "elem"), .loc 33, .int k, cellV (vs[k]?).join]), (22, runO), (11, limO), (19, cntO), (30, .list (svs ++ [.loc tl])), (12, heapO (L + 1) z), (33, arO 1 (c + 1) .none false false 34 it), (it, .list ((padV vs k).set k (.loc s)))] ++ R)) → P_) : P_ := by
  have hpl : (padV vs k).length = max vs.length (k + 1) := by unfold padV; simp; lia
  have hpg := pad_get (vs := vs) (k := k)
  have hl : (vs.map cellV).length = vs.length := List.length_map ..
  have eA : ExsM X (n + 6) a344 ⟨[("run", .loc 22), ("array", .loc 33), ("index", .int k)], [], false⟩ σ .next ⟨[("run", .loc 22), ("array", .loc 33), ("index", .int k), ("items", .loc it)], [], false⟩ σ :=
    run_ex X (n + 6) a344 ⟨[("run", .loc 22), ("array", .loc 33), ("index", .int k)], [], false⟩ H _ _ _ (by one_item) (by exact fun e _ => e)
  have eW : ExM X (n + 6) (.whl t344 w344) ⟨[("run", .loc 22), ("array", .loc 33), ("index", .int k), ("items", .loc it)], [], false⟩ σ .next ⟨[("run", .loc 22), ("array", .loc 33), ("index", .int k), ("items", .loc it)], [], false⟩ (σ.put it (.list (padV vs k))) :=
    xm_whl (pad_loop (X := X) (n := n + 6) rfl rfl hk (k + 1 - vs.length) 60 (vs.map cellV) σ (by lia) (by rw [List.length_map]; lia) (by rw [List.length_map]; lia) (H.get 6 rfl))
  have H1 := H.set 6 rfl (.list (padV vs k))
  generalize padV vs k = us at *
  generalize hσ : σ.put it (.list us) = τ at *
  have H1' : Led τ ([(22, runO), (11, limO), (19, cntO), (30, .list svs), (12, heapO L z), (33, arO 1 c .none false false 34 it), (it, .list us)] ++ R) := H1
  clear hσ H H1
  generalize cellV (vs[k]?).join = old at *
  have h2 : k < us.length := by lia
  have h3 : us.length < 1000 := by lia
  exact run_ex X (n + 6) c344 ⟨[("run", .loc 22), ("array", .loc 33), ("index", .int k), ("items", .loc it)], [], false⟩ H1' _ _ _ (by one_item) (by exact fun e h => K_ _ _ _ _ (by exact cm_top rfl (fm_fn rfl rfl rfl rfl (fl := .ret _) (xms_app eA (xms_cons eW e)))) h)
end Mine
end
section
set_option maxRecDepth 100000
set_option maxHeartbeats 4000000
namespace Mine
open PySem
variable {X : Wb} {σ : MS} {R : List (Nat × MO)} {n k : Nat} {L c : Int} {z it tb : Nat} {te : List (Str × MV)} {svs : List MV}
noncomputable def tupS (h : Bool) (k : Nat) (old : MV) : MO := match h with
  | false => .tup [.str (Str.ofString "elem"), .loc 33, .int k, old]
  | true => .tup [.str (Str.ofString "helem"), .loc 33, .str (kS k), old]
noncomputable def setS (te : List (Str × MV)) (k : Nat) (v : MV) : List (Str × MV) := te.map fun e => if e.1 = kS k then (e.1, v) else e
theorem local_H1 {v : MV} (hv : te.length ≤ 3) (hx : te.find? (fun e => decide (e.1 = kS k)) = some (kS k, v)) (hs : svs.length < 900) (H : Led σ ([(22, runO), (19, cntO), (30, .list svs), (12, heapO L z), (33, haO c false tb), (tb, .dS te)] ++ R)) {P_ : Prop} (K_ : ∀ σ' s wk tl, (CaM X (n + 7) (.top 351) [.loc 22, .loc 33, .str (kS k)] [] σ (.loc s) σ') → (Led σ' ([(wk, .list []), (s, scO (L + 1) 1 false wk .none), (tl, .tup [.str (Str.ofString "helem"), .loc 33, .str (kS k), v]), (22, runO), (19, cntO), (30, .list (svs ++ [.loc tl])), (12, heapO (L + 1) z), (33, haO (c + 1) false tb), (tb, .dS (setS te k (.loc s)))] ++ R)) → P_) : P_ :=
  have h7 : te.any (fun e => decide (e.1 = kS k)) = true := by
    rw [List.any_eq_true]; exact ⟨_, List.mem_of_find?_eq_some hx, by simp⟩
  run_then X (n + 7) (.top 351) [.loc 22, .loc 33, .str (kS k)] H _ _ (by got_up) (by exact fun e h => K_ _ _ _ _ e h)
theorem local_H2 {v : MV} (hv : te.length ≤ 3) (hx : te.find? (fun e => decide (e.1 = kS k)) = none) (hs : svs.length < 900) (H : Led σ ([(22, runO), (19, cntO), (30, .list svs), (12, heapO L z), (33, haO c false tb), (tb, .dS te)] ++ R)) {P_ : Prop} (K_ : ∀ σ' s wk tl, (CaM X (n + 7) (.top 351) [.loc 22, .loc 33, .str (kS k)] [] σ (.loc s) σ') → (Led σ' ([(wk, .list []), (s, scO (L + 1) 1 false wk .none), (tl, .tup [.str (Str.ofString "helem"), .loc 33, .str (kS k), .none]), (22, runO), (19, cntO), (30, .list (svs ++ [.loc tl])), (12, heapO (L + 1) z), (33, haO (c + 1) false tb), (tb, .dS (te ++ [(kS k, .loc s)]))] ++ R)) → P_) : P_ :=
  have h7 : te.any (fun e => decide (e.1 = kS k)) = false := by
    rw [List.any_eq_false]; intro e he; rw [List.find?_eq_none] at hx; exact hx e he
  run_then X (n + 7) (.top 351) [.loc 22, .loc 33, .str (kS k)] H _ _ (by got_up) (by exact fun e h => K_ _ _ _ _ e h)
theorem local_H3 {v : MV}  (hs : svs.length < 900) (H : Led σ ([(22, runO), (19, cntO), (30, .list svs), (12, heapO L z), (33, haO c false tb), (tb, .dI [])] ++ R)) {P_ : Prop} (K_ : ∀ σ' s wk tl, (CaM X (n + 7) (.top 351) [.loc 22, .loc 33, .str (kS k)] [] σ (.loc s) σ') → (Led σ' ([(wk, .list []), (s, scO (L + 1) 1 false wk .none), (tl, .tup [.str (Str.ofString "helem"), .loc 33, .str (kS k), .none]), (22, runO), (19, cntO), (30, .list (svs ++ [.loc tl])), (12, heapO (L + 1) z), (33, haO (c + 1) false tb), (tb, .dS [(kS k, .loc s)])] ++ R)) → P_) : P_ :=
  run_then X (n + 7) (.top 351) [.loc 22, .loc 33, .str (kS k)] H _ _ (by got_up) (by exact fun e h => K_ _ _ _ _ e h)
end Mine
end
section
set_option maxRecDepth 100000
set_option maxHeartbeats 4000000
namespace Mine
open PySem
variable {X : Wb} {σ : MS} {R : List (Nat × MO)} {n k : Nat} {L c : Int} {z it tb tl : Nat} {te : List (Str × MV)} {zs : List MV} {vs : List (Option Cell)} {o : Option Cell} {x : Cell}
noncomputable def t393 : ME := .and (.cmp (.ne) (.var "items") (.list [])) (.cmp (.isN) (.sub (.var "items") (.int (-1))) (.none))
noncomputable def w393 : List MSt := [.expr (.meth (.var "items") "pop" [])]
theorem isE {α : Type} (l : List α) (a : α) : (l ++ [a]).isEmpty = false := by cases l <;> rfl
theorem t393_ {fr : MF} {ws : List MV} {v : MV} {p : Bool} (h1 : getL' "items" fr.loc = some (.loc it)) (hc : ws.length + 1 < 1000) (hv : notJ v = true) (hp : (v == .none) = p) (H : Led σ ((it, .list (ws ++ [v])) :: R)) : TeM X n fr t393 σ p (σ.new (.list [])) := by
  have H1 := H.new (.list [])
  have e := km_nen (w := X.w) (base := X.base) (H1.get 1 rfl) (H1.get 0 rfl)
  rw [isE] at e
  exact tm_andT (tm_cmp (em_var h1) (em_list ems_nil (by decide)) e) (tm_cmp (em_sub (em_var h1) em_int (rm_last (H1.get 1 rfl) (by simpa using hc) (by simp))) em_none (hp ▸ km_is hv))
theorem pop_loop {fr : MF} (h1 : getL' "items" fr.loc = some (.loc it)) : ∀ (fuel : Nat) (vs : List (Option Cell)) (σ : MS), vs.length < fuel → fuel < 900 → Led σ ((it, .list (vs.map cellV)) :: R) → ∀ (P_ : Prop), (∀ σ' vs' m, (WhM X n t393 w393 fuel fr σ .next fr σ') → (vs = vs' ++ List.replicate m none) → (Led σ' ((it, .list (vs'.map cellV)) :: R)) → P_) → P_
  | 0, _, _, h, _, _, _, K_ => absurd h (Nat.not_lt_zero _)
  | f + 1, vs, σ, hl, hf, H, _, K_ => by
    rcases List.eq_nil_or_concat vs with rfl | ⟨l, e, rfl⟩
    · have H1 := H.new (.list [])
      exact K_ _ [] 0 (.stop (tm_andF (tm_cmp (em_var h1) (em_list ems_nil (by decide)) (km_nen (H1.get 1 rfl) (H1.get 0 rfl))))) rfl (H.newL _)
    · have hl' : (l ++ [e]).length = l.length + 1 := by simp
      rw [List.concat_eq_append] at hl H
      rw [List.concat_eq_append] at K_
      rw [List.map_append] at H
      have hm : (l.map cellV).length + 1 < 1000 := by rw [List.length_map]; lia
      cases e with
      | some c => exact K_ _ (l ++ [some c]) 0 (.stop (t393_ h1 hm (v := .loc c.s) rfl rfl H)) (by simp) (by rw [List.map_append]; exact H.newL _)
      | none =>
        have H0 := H.newL (.list [])
        have H1 := H0.set 0 rfl (.list (l.map cellV))
        refine pop_loop h1 f l _ (by lia) (by lia) H1 _ ?_
        intro σ' vs' m e1 e2 H2
        exact K_ σ' vs' (m + 1) (.more (t393_ h1 hm (v := .none) rfl rfl H) (xms_one (xm_expr (em_meth (em_var h1) (mm_pop (H0.get 0 rfl)) ems_nil (cm_bi (im_pop (H0.get 0 rfl) hm))))) e1) (by rw [e2, List.append_assoc, ← List.replicate_succ']) H2
noncomputable def a393 : List MSt := b393.take 2
noncomputable def tt393 : ME := .cmp (.lt) (.var "index") (.call (.val (.bi "len")) [.var "items"])
noncomputable def m393 : List MSt := [.expr (.call (.val (.top 358)) [.var "run", .sub (.var "items") (.var "index")]), .asg (.sub (.var "items") (.var "index")) (.var "old")]
noncomputable def tu393 : ME := .and (.cmp (.isN) (.var "old") (.none)) (.cmp (.eq) (.var "index") (.bin (.sub) (.call (.val (.bi "len")) [.var "items"]) (.int 1)))
noncomputable def z393 : List MSt := [.expr (.meth (.attr (.var "run") "counter") "let_go" [.var "array"])]
noncomputable def f393 (tl k it : Nat) (ov : MV) : MF := ⟨[("run", .loc 22), ("save", .loc tl), ("word", .str (Str.ofString "elem")), ("array", .loc 33), ("index", .int k), ("old", ov), ("items", .loc it)], [], false⟩
theorem undo_A (hk : k < 3) (hv : vs.length ≤ 3) (hx : vs[k]? = some (some x)) (hz : zs.length < 900) (H : Led σ ([(22, runO), (19, cntO), (12, heapO L z), (z, .list zs), (tl, tupS false k (cellV o)), (33, arO 1 c .none false false 34 it), (it, .list (vs.map cellV)), (x.s, scO x.num 1 false x.wk x.val)] ++ R)) {P_ : Prop} (K_ : ∀ σ' vs' m, (CaM X (n + 4) (.top 393) [.loc 22, .loc tl] [] σ .none σ') → (vs.set k o = vs' ++ List.replicate m none) → (Led σ' ([(22, runO), (19, cntO), (12, heapO L z), (z, .list (zs ++ (.loc x.s :: if c = 1 then [.loc 33] else []))), (tl, tupS false k (cellV o)), (33, arO 1 (c - 1) .none false false 34 it), (it, .list (vs'.map cellV)), (x.s, scO x.num 0 false x.wk x.val)] ++ R)) → P_) : P_ := by
  have h2 : k < vs.length := (List.getElem?_eq_some_iff.mp hx).1
  have hl : (vs.map cellV).length = vs.length := List.length_map ..
  have e1 : ExsM X (n + 3) a393 ⟨[("run", .loc 22), ("save", .loc tl)], [], false⟩ σ .next (f393 tl k it (cellV o)) σ :=
    run_ex X (n + 3) a393 ⟨[("run", .loc 22), ("save", .loc tl)], [], false⟩ H _ _ _ (by one_item) (by exact fun e _ => e)
  have e2 : TeM X (n + 3) (f393 tl k it (cellV o)) tt393 σ true σ :=
    run_te X (n + 3) tt393 (f393 tl k it (cellV o)) H _ _ (by units_room) (by exact fun e _ => e)
  have e3 : ∃ σ', ExsM X (n + 3) m393 (f393 tl k it (cellV o)) σ .next (f393 tl k it (cellV o)) σ' ∧
      Led σ' ([(22, runO), (19, cntO), (12, heapO L z), (z, .list (zs ++ [.loc x.s])), (tl, tupS false k (cellV o)), (33, arO 1 c .none false false 34 it), (it, .list ((vs.set k o).map cellV)), (x.s, scO x.num 0 false x.wk x.val)] ++ R) := by
    have h3 : (vs.map cellV)[k]? = some (.loc x.s) := by rw [List.getElem?_map, hx]; rfl
    rw [List.map_set]
    exact run_ex X (n + 3) m393 (f393 tl k it (cellV o)) H _ _ _ (by one_item) (by exact fun e h => ⟨_, e, h⟩)
  obtain ⟨σ3, e3, H3⟩ := e3
  have hl3 : (vs.set k o).length ≤ 3 := by rw [List.length_set]; exact hv
  generalize hus : vs.set k o = us at *
  have e4 : ∃ σ' vs' m, ExM X (n + 3) (.ite tu393 [.whl t393 w393] []) (f393 tl k it (cellV o)) σ3 .next (f393 tl k it (cellV o)) σ' ∧ us = vs' ++ List.replicate m none ∧
      Led σ' ([(22, runO), (19, cntO), (12, heapO L z), (z, .list (zs ++ [.loc x.s])), (tl, tupS false k (cellV o)), (33, arO 1 c .none false false 34 it), (it, .list (vs'.map cellV)), (x.s, scO x.num 0 false x.wk x.val)] ++ R) := by
    have ho := H3.get 6 rfl
    have hc : us.length < 1000 := by lia
    cases o with
    | some y =>
      exact run_st X (n + 3) (.ite tu393 [.whl t393 w393] []) (f393 tl k it (cellV (some y))) H3 _ _ _ (by one_place) (by exact fun e h => ⟨σ3, us, 0, e, by simp, h⟩)
    | none =>
      by_cases q : (k : Int) = (us.length : Int) - 1
      · refine pop_loop (X := X) (n := n + 3) (fr := f393 tl k it (cellV none)) rfl 60 us σ3 (by lia) (by lia) (H3.perm (permC (b := (it, .list (us.map cellV)) :: ([(22, runO), (19, cntO), (12, heapO L z), (z, .list (zs ++ [.loc x.s])), (tl, tupS false k (cellV none)), (33, arO 1 c .none false false 34 it), (x.s, scO x.num 0 false x.wk x.val)] ++ R)) fun f => by simp only [cnt_app, cnt_cons, cnt_nil]; lia)) _ ?_
        intro σ' vs' m a b c
        refine ⟨σ', vs', m, ?_, b, c.perm (permC fun f => by simp only [cnt_app, cnt_cons, cnt_nil]; lia)⟩
        have q2 : ((k : Int) == ((us.map cellV).length : Nat) - 1) = true := by rw [List.length_map]; exact beq_iff_eq.mpr q
        have t : TeM X (n + 3) (f393 tl k it (cellV none)) tu393 σ3 true σ3 :=
          run_te X (n + 3) tu393 (f393 tl k it (cellV none)) H3 _ _ (by units_room) (by exact fun e _ => e)
        exact xm_ite (p := true) t (xms_one (xm_whl a))
      · have q' : ((k : Int) == ((us.map cellV).length : Nat) - 1) = false := by rw [List.length_map]; simpa using q
        exact run_st X (n + 3) (.ite tu393 [.whl t393 w393] []) (f393 tl k it (cellV none)) H3 _ _ _ (by one_place) (by exact fun e h => ⟨σ3, us, 0, e, by simp, h⟩)
  obtain ⟨σ4, vs', m, e4, hm, H4⟩ := e4
  have e5 : ∃ σ', ExsM X (n + 3) z393 (f393 tl k it (cellV o)) σ4 .next (f393 tl k it (cellV o)) σ' ∧
      Led σ' ([(22, runO), (19, cntO), (12, heapO L z), (z, .list (zs ++ (.loc x.s :: if c = 1 then [.loc 33] else []))), (tl, tupS false k (cellV o)), (33, arO 1 (c - 1) .none false false 34 it), (it, .list (vs'.map cellV)), (x.s, scO x.num 0 false x.wk x.val)] ++ R) := by
    by_cases q : c = 1
    · subst q
      rw [if_pos rfl, List.append_cons zs]
      exact run_ex X (n + 3) z393 (f393 tl k it (cellV o)) H4 _ _ _ (by one_item) (by exact fun e h => ⟨_, e, h⟩)
    · have hk' : (c - 1 == 0) = false := by simp; lia
      rw [if_neg q]
      exact run_ex X (n + 3) z393 (f393 tl k it (cellV o)) H4 _ _ _ (by one_item) (by exact fun e h => ⟨_, e, h⟩)
  obtain ⟨σ5, e5, H5⟩ := e5
  exact K_ σ5 vs' m (cm_top rfl (fm_fn rfl rfl rfl rfl (fl := .next) (xms_app e1 (xms_cons (xm_ite (p := true) e2 (xms_app e3 (xms_one e4))) e5)))) hm H5
end Mine
end
section
set_option maxRecDepth 100000
set_option maxHeartbeats 4000000
namespace Mine
open PySem
variable {X : Wb} {σ : MS} {R : List (Nat × MO)} {n k : Nat} {L c : Int} {z it tb tl wk : Nat} {te : List (Str × MV)} {zs : List MV} {vs : List (Option Cell)} {x y s : Nat} {num : Int} {v : MV}
noncomputable def a400 : List MSt := b400.take 1
noncomputable def m400 : List MSt := (b400.drop 1).take 1
noncomputable def f400 (tl k : Nat) (ov : MV) : MF := ⟨[("run", .loc 22), ("save", .loc tl), ("word", .str (Str.ofString "helem")), ("table_thing", .loc 33), ("key", .str (kS k)), ("old", ov)], [], false⟩
noncomputable def delS (te : List (Str × MV)) (k : Nat) : List (Str × MV) := te.filter fun e => decide (e.1 ≠ kS k)
theorem keyPlace_pos {k : Nat} {v : MV} : ∀ {te : List (Str × MV)} {i : Int}, 0 ≤ i → te.find? (fun e => decide (e.1 = kS k)) = some (kS k, v) → ¬ (keyPlace (kS k) (te.map (·.1)) i < 0)
  | [], _, _, h => by cases h
  | e :: te, i, hi, h => by
    rw [List.map_cons, keyPlace]
    by_cases q : e.1 = kS k
    · rw [if_pos q]; lia
    · rw [List.find?_cons, decide_eq_false q] at h
      rw [if_neg q]
      exact keyPlace_pos (by lia) h
theorem m400N (hok : okV v = true) (hv : te.length ≤ 3) (hx : te.find? (fun e => decide (e.1 = kS k)) = some (kS k, .loc s)) (hz : zs.length < 900) (H : Led σ ([(22, runO), (19, cntO), (12, heapO L z), (z, .list zs), (33, haO c false tb), (tb, .dS te), (s, scO num 1 false wk v)] ++ R)) :
    ∃ σ' , ExsM X (n + 5) m400 (f400 tl k .none) σ .next (f400 tl k .none) σ' ∧
      Led σ' ([(22, runO), (19, cntO), (12, heapO L z), (z, .list (zs ++ [.loc s])), (33, haO c false tb), (tb, .dS (delS te k)), (s, scO num 0 false wk v)] ++ R) := by
  have h8 : ¬ (keyPlace (kS k) (te.map (·.1)) 0 < 0) := keyPlace_pos (by decide) hx
  exact run_ex X (n + 5) m400 (f400 tl k .none) H _ _ _ (by one_item) (by exact fun e h => ⟨_, e, h⟩)
theorem m400S {ov : MV} (hov : ∃ y, ov = .loc y) (hv : te.length ≤ 3) (hx : te.find? (fun e => decide (e.1 = kS k)) = some (kS k, .loc s)) (hz : zs.length < 900) (H : Led σ ([(22, runO), (19, cntO), (12, heapO L z), (z, .list zs), (33, haO c false tb), (tb, .dS te), (s, scO num 1 false wk v)] ++ R)) :
    ∃ σ' , ExsM X (n + 5) m400 (f400 tl k ov) σ .next (f400 tl k ov) σ' ∧
      Led σ' ([(22, runO), (19, cntO), (12, heapO L z), (z, .list (zs ++ [.loc s])), (33, haO c false tb), (tb, .dS (setS te k ov)), (s, scO num 0 false wk v)] ++ R) := by
  obtain ⟨y, rfl⟩ := hov
  have h8 : te.any (fun e => decide (e.1 = kS k)) = true := by
    rw [List.any_eq_true]; exact ⟨_, List.mem_of_find?_eq_some hx, by simp⟩
  exact run_ex X (n + 5) m400 (f400 tl k (.loc y)) H _ _ _ (by one_item) (by exact fun e h => ⟨_, e, h⟩)
noncomputable def newS (te : List (Str × MV)) (k : Nat) (ov : MV) : List (Str × MV) := if ov = .none then delS te k else setS te k ov
theorem undo_H {ov : MV} (hok : okV v = true) (hov : ov = .none ∨ ∃ y, ov = .loc y) (hv : te.length ≤ 3) (hx : te.find? (fun e => decide (e.1 = kS k)) = some (kS k, .loc s)) (hz : zs.length < 900) (H : Led σ ([(22, runO), (19, cntO), (12, heapO L z), (z, .list zs), (tl, tupS true k ov), (33, haO c false tb), (tb, .dS te), (s, scO num 1 false wk v)] ++ R)) {P_ : Prop} (K_ : ∀ σ', (CaM X (n + 6) (.top 400) [.loc 22, .loc tl] [] σ .none σ') → (Led σ' ([(22, runO), (19, cntO), (12, heapO L z), (z, .list (zs ++ (.loc s :: if c = 1 then [.loc 33] else []))), (tl, tupS true k ov), (33, haO (c - 1) false tb), (tb, .dS (newS te k ov)), (s, scO num 0 false wk v)] ++ R)) → P_) : P_ := by
  have e1 : ExsM X (n + 5) a400 ⟨[("run", .loc 22), ("save", .loc tl)], [], false⟩ σ .next (f400 tl k ov) σ :=
    run_ex X (n + 5) a400 ⟨[("run", .loc 22), ("save", .loc tl)], [], false⟩ H _ _ _ (by one_item) (by exact fun e _ => e)
  have e2 : ∃ σ' , ExsM X (n + 5) m400 (f400 tl k ov) σ .next (f400 tl k ov) σ' ∧
      Led σ' ([(22, runO), (19, cntO), (12, heapO L z), (z, .list (zs ++ [.loc s])), (33, haO c false tb), (tb, .dS (newS te k ov)), (s, scO num 0 false wk v)] ++ ((tl, tupS true k ov) :: R)) := by
    rcases hov with rfl | ⟨y, rfl⟩
    · rw [newS, if_pos rfl]
      exact m400N hok hv hx hz (H.perm (by exact permR [_, _, _, _, _, _, _, _] [_] (.a (.c 0 (.c 1 (.c 2 (.c 3 (.c 4 (.c 5 (.c 6 (.c 7 .e)))))))) (.s 0)) (.a (.c 0 (.c 1 (.c 2 (.c 3 (.c 5 (.c 6 (.c 7 .e))))))) (.c 4 (.s 0))) rfl))
    · rw [newS, if_neg (by simp)]
      exact m400S ⟨y, rfl⟩ hv hx hz (H.perm (by exact permR [_, _, _, _, _, _, _, _] [_] (.a (.c 0 (.c 1 (.c 2 (.c 3 (.c 4 (.c 5 (.c 6 (.c 7 .e)))))))) (.s 0)) (.a (.c 0 (.c 1 (.c 2 (.c 3 (.c 5 (.c 6 (.c 7 .e))))))) (.c 4 (.s 0))) rfl))
  obtain ⟨σ4, e2, H4⟩ := e2
  have e5 : ∃ σ', ExsM X (n + 5) [.expr (.meth (.attr (.var "run") "counter") "let_go" [.var "table_thing"])] (f400 tl k ov) σ4 .next (f400 tl k ov) σ' ∧
      Led σ' ([(22, runO), (19, cntO), (12, heapO L z), (z, .list (zs ++ (.loc s :: if c = 1 then [.loc 33] else []))), (tl, tupS true k ov), (33, haO (c - 1) false tb), (tb, .dS (newS te k ov)), (s, scO num 0 false wk v)] ++ R) := by
    have H4' : Led σ4 ([(22, runO), (19, cntO), (12, heapO L z), (z, .list (zs ++ [.loc s])), (tl, tupS true k ov), (33, haO c false tb), (tb, .dS (newS te k ov)), (s, scO num 0 false wk v)] ++ R) := H4.perm (by exact permR [_, _, _, _, _, _, _, _] [_] (.a (.c 0 (.c 1 (.c 2 (.c 3 (.c 4 (.c 5 (.c 6 .e))))))) (.c 7 (.s 0))) (.a (.c 0 (.c 1 (.c 2 (.c 3 (.c 7 (.c 4 (.c 5 (.c 6 .e)))))))) (.s 0)) rfl)
    by_cases q : c = 1
    · subst q
      rw [if_pos rfl, List.append_cons zs]
      exact run_ex X (n + 5) [.expr (.meth (.attr (.var "run") "counter") "let_go" [.var "table_thing"])] (f400 tl k ov) H4' _ _ _ (by one_item) (by exact fun e h => ⟨_, e, h⟩)
    · have hk' : (c - 1 == 0) = false := by simp; lia
      rw [if_neg q]
      exact run_ex X (n + 5) [.expr (.meth (.attr (.var "run") "counter") "let_go" [.var "table_thing"])] (f400 tl k ov) H4' _ _ _ (by one_item) (by exact fun e h => ⟨_, e, h⟩)
  obtain ⟨σ5, e5, H5⟩ := e5
  exact K_ σ5 (cm_top rfl (fm_fn rfl rfl rfl rfl (fl := .next) (xms_app e1 (xms_app e2 e5)))) H5
end Mine
end
section
namespace Mine
open PySem
inductive Thg where
  | A (it : Nat) (vs : List (Option Cell))
  | H (tb : Nat) (es : List (Str × Cell)) (b : Bool)
namespace Thg
noncomputable def isH : Thg → Bool
  | .A _ _ => false
  | .H _ _ _ => true
noncomputable def obj (c : Int) : Thg → MO
  | .A it _ => arO 1 c .none false false 34 it
  | .H tb _ _ => haO c false tb
noncomputable def tab : Thg → Nat × MO
  | .A it vs => (it, .list (vs.map cellV))
  | .H tb es b => (tb, tabO b es)
noncomputable def cells : Thg → List Cell
  | .A _ vs => acells vs
  | .H _ es _ => es.map (·.2)
noncomputable def look : Thg → Nat → Option Cell
  | .A _ vs, k => (vs[k]?).join
  | .H _ es _, k => (es.find? (fun e => decide (e.1 = kS k))).map (·.2)
noncomputable def ok : Thg → Prop
  | .A _ vs => vs.length ≤ 3
  | .H _ es b => (es.map (·.1)).Nodup ∧ (∀ e ∈ es, ∃ j, j < 3 ∧ e.1 = kS j) ∧ (b = false → es = [])
noncomputable def foot (c : Int) (C : Thg) : List (Nat × MO) := (33, C.obj c) :: (34, .list []) :: C.tab :: C.cells.flatMap (·.foot 1)
noncomputable def dead : Thg → Dead
  | .A it vs => .A it vs
  | .H tb es b => .H tb es b
end Thg
noncomputable def upd {V : Type} (look : Nat → Option V) (k : Nat) (o : Option V) : Nat → Option V := fun j => if j = k then o else look j
theorem upd_upd {V : Type} (look : Nat → Option V) (k : Nat) (o p : Option V) : upd (upd look k o) k p = upd look k p := by funext j; unfold upd; split <;> rfl
theorem upd_self {V : Type} (look : Nat → Option V) (k : Nat) : upd look k (look k) = look := by funext j; unfold upd; split <;> simp [*]
theorem upd_comm {V : Type} (look : Nat → Option V) {j k : Nat} (h : j ≠ k) (o p : Option V) : upd (upd look k o) j p = upd (upd look j p) k o := by
  funext i; unfold upd
  by_cases q : i = j
  · subst q; simp [h]
  · simp [q]
noncomputable def cells3 {V : Type} (look : Nat → Option V) : List V := (look 0).toList ++ ((look 1).toList ++ (look 2).toList)
theorem cells3_upd {V : Type} (f : V → Nat) (look : Nat → Option V) {k : Nat} (hk : k < 3) (o : Option V) : cnt f (cells3 (upd look k o)) + cnt f (look k).toList = cnt f (cells3 look) + cnt f o.toList := by
  match k, hk with
  | 0, _ => simp [cells3, upd, cnt_app]; lia
  | 1, _ => simp [cells3, upd, cnt_app]; lia
  | 2, _ => simp [cells3, upd, cnt_app]; lia
theorem cells3_congr {V : Type} {a b : Nat → Option V} (h : ∀ k, k < 3 → a k = b k) : cells3 a = cells3 b := by
  unfold cells3; rw [h 0 (by decide), h 1 (by decide), h 2 (by decide)]
noncomputable def lookL {K V : Type} [DecidableEq K] (κ : Nat → K) (es : List (K × V)) (k : Nat) : Option V := (es.find? (fun e => decide (e.1 = κ k))).map (·.2)
theorem lookL_none {K V : Type} [DecidableEq K] {κ : Nat → K} {es : List (K × V)} {k : Nat} (h : κ k ∉ es.map (·.1)) : lookL κ es k = none := by
  unfold lookL
  rw [List.find?_eq_none.mpr]; rfl
  intro e he
  simp
  intro q
  exact h (q ▸ List.mem_map_of_mem he)
theorem cnt_look {K V : Type} [DecidableEq K] {κ : Nat → K} (inj : ∀ {j k}, j < 3 → k < 3 → κ j = κ k → j = k) (f : V → Nat) : ∀ {es : List (K × V)}, (es.map (·.1)).Nodup → (∀ e ∈ es, ∃ j, j < 3 ∧ e.1 = κ j) → cnt f (es.map (·.2)) = cnt f (cells3 (lookL κ es))
  | [], _, _ => rfl
  | e :: es, nd, h => by
    obtain ⟨j, hj, ej⟩ := h e (.head _)
    rw [List.map_cons, List.nodup_cons] at nd
    have ih := cnt_look inj f nd.2 fun x hx => h x (.tail _ hx)
    have hn : lookL κ es j = none := lookL_none (ej ▸ nd.1)
    have hc : cells3 (lookL κ (e :: es)) = cells3 (upd (lookL κ es) j (some e.2)) := cells3_congr fun k hk => by
      unfold lookL upd
      rw [List.find?_cons]
      by_cases q : k = j
      · subst q; simp [ej]
      · have : ¬ e.1 = κ k := fun w => q (inj hk hj (ej ▸ w).symm)
        simp [this, q]
    have := cells3_upd f (lookL κ es) hj (some e.2)
    rw [hn] at this
    rw [hc, List.map_cons, cnt_cons, ih]
    simp only [Option.toList, cnt_cons, cnt_nil] at this
    lia
theorem lookL_app {K V : Type} [DecidableEq K] {κ : Nat → K} (inj : ∀ {j k}, j < 3 → k < 3 → κ j = κ k → j = k) {es : List (K × V)} {k j : Nat} (hk : k < 3) (hj : j < 3) (h : lookL κ es k = none) (c : V) : lookL κ (es ++ [(κ k, c)]) j = upd (lookL κ es) k (some c) j := by
  unfold upd
  by_cases q : j = k
  · subst q
    rw [if_pos rfl]
    unfold lookL at h ⊢
    rw [Option.map_eq_none_iff] at h
    rw [List.find?_append, h]; simp
  · rw [if_neg q]
    unfold lookL
    have : ¬ κ k = κ j := fun w => q (inj hk hj w).symm
    rw [List.find?_append]
    simp [this]
noncomputable def setK {K V : Type} [DecidableEq K] (κ : Nat → K) (es : List (K × V)) (k : Nat) (c : V) : List (K × V) := es.map fun e => if e.1 = κ k then (e.1, c) else e
noncomputable def delK {K V : Type} [DecidableEq K] (κ : Nat → K) (es : List (K × V)) (k : Nat) : List (K × V) := es.filter fun e => decide (e.1 ≠ κ k)
theorem setK_keys {K V : Type} [DecidableEq K] {κ : Nat → K} {k : Nat} {c : V} (es : List (K × V)) : (setK κ es k c).map (·.1) = es.map (·.1) := by
  unfold setK
  rw [List.map_map]
  apply List.map_congr_left
  intro e _
  simp only [Function.comp]; split <;> rfl
theorem lookL_cons {K V : Type} [DecidableEq K] {κ : Nat → K} {e : K × V} {es : List (K × V)} {j : Nat} : lookL κ (e :: es) j = if e.1 = κ j then some e.2 else lookL κ es j := by
  unfold lookL; rw [List.find?_cons]; by_cases q : e.1 = κ j <;> simp [q]
theorem setK_cons {K V : Type} [DecidableEq K] {κ : Nat → K} {e : K × V} {es : List (K × V)} {k : Nat} {c : V} : setK κ (e :: es) k c = (if e.1 = κ k then (e.1, c) else e) :: setK κ es k c := rfl
theorem delK_cons {K V : Type} [DecidableEq K] {κ : Nat → K} {e : K × V} {es : List (K × V)} {k : Nat} : delK κ (e :: es) k = if e.1 = κ k then delK κ es k else e :: delK κ es k := by
  unfold delK; rw [List.filter_cons]; by_cases q : e.1 = κ k <;> simp [q]
theorem lookL_set1 {K V : Type} [DecidableEq K] {κ : Nat → K} {k j : Nat} (w : ¬ κ k = κ j) (c : V) : ∀ {es : List (K × V)}, lookL κ (setK κ es k c) j = lookL κ es j
  | [] => rfl
  | e :: es => by
    rw [setK_cons, lookL_cons, lookL_cons, lookL_set1 w c]
    by_cases q : e.1 = κ k
    · have : ¬ e.1 = κ j := fun u => w (q ▸ u)
      rw [if_pos q]; simp [this]
    · rw [if_neg q]
theorem lookL_set2 {K V : Type} [DecidableEq K] {κ : Nat → K} {k : Nat} (c : V) : ∀ {es : List (K × V)}, (lookL κ es k).isSome → lookL κ (setK κ es k c) k = some c
  | [], h => by cases h
  | e :: es, h => by
    rw [setK_cons, lookL_cons]
    rw [lookL_cons] at h
    by_cases q : e.1 = κ k
    · rw [if_pos q]; simp [q]
    · rw [if_neg q] at h
      rw [if_neg q, if_neg q]
      exact lookL_set2 c h
theorem lookL_set {K V : Type} [DecidableEq K] {κ : Nat → K} (inj : ∀ {j k}, j < 3 → k < 3 → κ j = κ k → j = k) {k j : Nat} (hk : k < 3) (hj : j < 3) (c : V) {es : List (K × V)} (h : (lookL κ es k).isSome) : lookL κ (setK κ es k c) j = upd (lookL κ es) k (some c) j := by
  unfold upd
  by_cases q : j = k
  · subst q; rw [if_pos rfl]; exact lookL_set2 c h
  · rw [if_neg q]; exact lookL_set1 (fun w => q (inj hk hj w).symm) c
theorem lookL_del {K V : Type} [DecidableEq K] {κ : Nat → K} (inj : ∀ {j k}, j < 3 → k < 3 → κ j = κ k → j = k) {k j : Nat} (hk : k < 3) (hj : j < 3) : ∀ {es : List (K × V)}, lookL κ (delK κ es k) j = upd (lookL κ es) k none j
  | [] => by simp [lookL, delK, upd]
  | e :: es => by
    have ih := lookL_del inj hk hj (es := es)
    rw [delK_cons]
    by_cases q : e.1 = κ k
    · rw [if_pos q, ih]
      unfold upd
      by_cases w : j = k
      · simp [w]
      · have w' : ¬ e.1 = κ j := fun u => w (inj hk hj (q ▸ u)).symm
        rw [if_neg w, if_neg w, lookL_cons, if_neg w']
    · rw [if_neg q, lookL_cons, ih]
      unfold upd
      by_cases w : j = k
      · subst w; simp [q]
      · rw [if_neg w, if_neg w, lookL_cons]
noncomputable def Rep (C : Thg) (look : Nat → Option Cell) : Prop := C.ok ∧ ∀ k, k < 3 → C.look k = look k
variable {X : Wb} {C C' : Thg} {look : Nat → Option Cell} {k : Nat} {o : Option Cell} {vs vs' : List (Option Cell)} {es : List (Str × Cell)} {it tb : Nat} {b : Bool} {x x' : Cell}
theorem Rep.cells (h : Rep C look) (f : Cell → Nat) : cnt f C.cells = cnt f (cells3 look) := by
  rw [← cells3_congr h.2]
  cases C with
  | A it vs =>
    have hl : vs.length ≤ 3 := h.1
    match vs, hl with
    | [], _ => rfl
    | [a], _ => cases a <;> rfl
    | [a, b], _ => cases a <;> cases b <;> rfl
    | [a, b, c], _ => cases a <;> cases b <;> cases c <;> rfl
    | _ :: _ :: _ :: _ :: _, hl => simp at hl
  | H tb es b => exact cnt_look kS_inj f h.1.1 h.1.2.1
theorem cnt_flatMap {α β : Type} (g : β → Nat) (F : α → List β) : ∀ l : List α, cnt g (l.flatMap F) = cnt (fun a => cnt g (F a)) l
  | [] => rfl
  | a :: l => by rw [List.flatMap_cons, cnt_app, cnt_cons, cnt_flatMap g F l]
theorem Rep.foot {β : Type} (h : Rep C look) (h' : Rep C' (upd look k o)) (hk : k < 3) (g : β → Nat) (F : Cell → List β) :
    cnt g (C'.cells.flatMap F) + cnt g ((look k).toList.flatMap F) = cnt g (C.cells.flatMap F) + cnt g (o.toList.flatMap F) := by
  simp only [cnt_flatMap]
  rw [h.cells, h'.cells]
  exact cells3_upd _ look hk o
theorem Rep.lt (h : Rep (.A it vs) look) : vs.length ≤ 3 := h.1
theorem Rep.A_set (h : Rep (.A it vs) look) (hl : k < vs.length) : Rep (.A it (vs.set k o)) (upd look k o) := by
  refine ⟨by rw [Thg.ok, List.length_set]; exact h.1, fun j hj => ?_⟩
  rw [Thg.look, upd, List.getElem?_set]
  by_cases q : j = k
  · subst q; simp [hl]
  · rw [if_neg fun e => q e.symm, if_neg q]; exact h.2 j hj
theorem join_app (m j : Nat) : ((vs ++ List.replicate m none)[j]?).join = (vs[j]?).join := by
  by_cases q : j < vs.length
  · rw [List.getElem?_append_left q]
  · rw [List.getElem?_append_right (by lia), List.getElem?_eq_none (l := vs) (by lia), List.getElem?_replicate]
    split <;> rfl
theorem Rep.A_pad {m : Nat} (h : Rep (.A it vs) look) (hl : vs.length + m ≤ 3) : Rep (.A it (vs ++ List.replicate m none)) look :=
  ⟨by rw [Thg.ok, List.length_append, List.length_replicate]; exact hl, fun j hj => by rw [Thg.look, join_app]; exact h.2 j hj⟩
theorem Rep.A_cut {m : Nat} (h : Rep (.A it (vs ++ List.replicate m none)) look) : Rep (.A it vs) look :=
  ⟨by have := h.1; rw [Thg.ok, List.length_append] at this; rw [Thg.ok]; lia, fun j hj => by have := h.2 j hj; rw [Thg.look, join_app] at this; exact this⟩
theorem Rep.H_app (h : Rep (.H tb es b) look) (hk : k < 3) (hn : look k = none) : Rep (.H tb (es ++ [(kS k, x)]) true) (upd look k (some x)) := by
  have hl : lookL kS es k = none := (h.2 k hk).trans hn
  refine ⟨⟨?_, fun e he => ?_, fun e => by cases e⟩, fun j hj => ?_⟩
  · rw [List.map_append, List.nodup_append]
    refine ⟨h.1.1, by simp, fun a ha c hc e => ?_⟩
    simp at hc
    subst hc; subst e
    obtain ⟨e, he, q⟩ := List.mem_map.mp ha
    unfold lookL at hl
    rw [Option.map_eq_none_iff, List.find?_eq_none] at hl
    exact hl e he (by simpa using q)
  · rcases List.mem_append.mp he with he | he
    · exact h.1.2.1 e he
    · simp at he; exact ⟨k, hk, by rw [he]⟩
  · have := lookL_app kS_inj hk hj hl x
    rw [show Thg.look _ j = lookL kS (es ++ [(kS k, x)]) j from rfl, this]
    unfold upd; split
    · rfl
    · exact h.2 j hj
theorem Rep.H_set (h : Rep (.H tb es b) look) (hk : k < 3) (hn : (look k).isSome) : Rep (.H tb (setK kS es k x) b) (upd look k (some x)) := by
  have hl : (lookL kS es k).isSome := by rw [show lookL kS es k = _ from h.2 k hk]; exact hn
  refine ⟨⟨by rw [setK_keys]; exact h.1.1, fun e he => ?_, fun e => by rw [h.1.2.2 e]; rfl⟩, fun j hj => ?_⟩
  · obtain ⟨e0, he0, rfl⟩ := List.mem_map.mp he
    obtain ⟨j, hj, q⟩ := h.1.2.1 e0 he0
    exact ⟨j, hj, by split <;> exact q⟩
  · have := lookL_set kS_inj hk hj x hl
    rw [show Thg.look _ j = lookL kS (setK kS es k x) j from rfl, this]
    unfold upd; split
    · rfl
    · exact h.2 j hj
theorem Rep.H_del (h : Rep (.H tb es b) look) (hk : k < 3) : Rep (.H tb (delK kS es k) b) (upd look k none) := by
  refine ⟨⟨(h.1.1.sublist ((List.filter_sublist).map _)), fun e he => h.1.2.1 e (List.mem_filter.mp he).1, fun e => by rw [h.1.2.2 e]; rfl⟩, fun j hj => ?_⟩
  have := lookL_del kS_inj hk hj (es := es)
  rw [show Thg.look _ j = lookL kS (delK kS es k) j from rfl, this]
  unfold upd; split
  · rfl
  · exact h.2 j hj
theorem len3 {K V : Type} [DecidableEq K] {κ : Nat → K} (inj : ∀ {j k}, j < 3 → k < 3 → κ j = κ k → j = k) {es : List (K × V)} (nd : (es.map (·.1)).Nodup) (h : ∀ e ∈ es, ∃ j, j < 3 ∧ e.1 = κ j) : es.length ≤ 3 := by
  have a := cnt_look inj (fun _ : V => 1) nd h
  have b : ∀ l : List V, cnt (fun _ => 1) l = l.length := fun l => by induction l with
    | nil => rfl
    | cons x l ih => rw [cnt_cons, ih, List.length_cons]; lia
  rw [b, b, List.length_map] at a
  rw [a]
  unfold cells3
  have : ∀ o : Option V, o.toList.length ≤ 1 := fun o => by cases o <;> simp
  simp only [List.length_append]
  have h1 := this (lookL κ es 0); have h2 := this (lookL κ es 1); have h3 := this (lookL κ es 2)
  lia
theorem Rep.len (h : Rep (.H tb es b) look) : es.length ≤ 3 := len3 kS_inj h.1.1 h.1.2.1
theorem Rep.dead (h : Rep C look) : C.dead.ok := by
  cases C with
  | A it vs => exact Nat.lt_of_le_of_lt h.lt (by decide)
  | H tb es b => exact ⟨Nat.lt_of_le_of_lt h.len (by decide), h.1.1, h.1.2.2⟩
theorem dead_foot (C : Thg) : C.dead.foot false = C.foot 0 := by cases C <;> rfl
theorem dead_loc (C : Thg) : C.dead.loc = 33 := by cases C <;> rfl
theorem dead_nums (C : Thg) : C.dead.nums = 1 :: C.cells.flatMap (·.nums) := by cases C <;> rfl
theorem dead_all (C : Thg) : C.dead.all = C.cells.flatMap fun c => vnums c.v := by cases C <;> rfl
theorem Rep.swap (h : Rep C look) (hk : k < 3) (hx : look k = some x) (e : x'.s = x.s) : ∃ C' : Thg, C'.isH = C.isH ∧ Rep C' (upd look k (some x')) ∧ (∀ c, C'.obj c = C.obj c) ∧ C'.tab = C.tab := by
  cases C with
  | A it vs =>
    have hl : (vs[k]?).join = some x := (h.2 k hk).trans hx
    have hlt : k < vs.length := by
      by_cases q : k < vs.length
      · exact q
      · rw [List.getElem?_eq_none (by lia)] at hl; cases hl
    refine ⟨.A it (vs.set k (some x')), rfl, h.A_set hlt, fun _ => rfl, ?_⟩
    have : (vs.set k (some x')).map cellV = vs.map cellV := by
      rw [List.map_set]
      apply List.ext_getElem?
      intro j
      rw [List.getElem?_set]
      split
      · rename_i q; subst q
        rw [List.getElem?_eq_getElem hlt] at hl
        rw [List.length_map, if_pos hlt, List.getElem?_map, List.getElem?_eq_getElem hlt]
        have hl : vs[k] = some x := hl
        rw [Option.map_some, hl]; simp only [cellV, e]
      · rfl
    simp only [Thg.tab, this]
  | H tb es b =>
    have hl : lookL kS es k = some x := (h.2 k hk).trans hx
    refine ⟨.H tb (setK kS es k x') b, rfl, h.H_set hk (by rw [hx]; rfl), fun _ => rfl, ?_⟩
    have : (setK kS es k x').map (fun e => (e.1, MV.loc e.2.s)) = es.map fun e => (e.1, MV.loc e.2.s) := by
      have nd := h.1.1
      unfold setK
      rw [List.map_map]
      apply List.map_congr_left
      intro a ha
      simp only [Function.comp]
      split
      · rename_i q
        have : a.2 = x := by
          unfold lookL at hl
          clear h
          induction es with
          | nil => cases ha
          | cons y l ih =>
            rw [List.map_cons, List.nodup_cons] at nd
            rw [List.find?_cons] at hl
            rcases List.mem_cons.mp ha with rfl | ha
            · simp [q] at hl; exact hl
            · have : ¬ y.1 = kS k := fun w => nd.1 (w ▸ q ▸ List.mem_map_of_mem ha)
              rw [decide_eq_false this] at hl
              exact ih hl nd.2 ha
        simp only [e, this]
      · rfl
    simp only [Thg.tab, tabO, this]
end Mine
end
section
namespace Mine
open PySem
variable {X : Wb} {σ : MS} {R : List (Nat × MO)} {n k : Nat} {L c : Int} {z it tb tl wk : Nat} {zs svs : List MV} {C : Thg} {look : Nat → Option Cell} {x : Cell} {o : Option Cell}
noncomputable def newC (s wk : Nat) (L : Int) : Cell := ⟨s, wk, L + 1, none⟩
theorem newC_foot (s wk : Nat) (L : Int) (k : Int) : (newC s wk L).foot k = [(s, scO (L + 1) k false wk .none), (wk, .list [])] := rfl
theorem find_tab {es : List (Str × Cell)} : (es.map fun e => (e.1, MV.loc e.2.s)).find? (fun e => decide (e.1 = kS k)) = (lookL kS es k).map fun c => (kS k, .loc c.s) := by
  induction es with
  | nil => rfl
  | cons e es ih =>
    rw [lookL_cons, List.map_cons, List.find?_cons]
    by_cases q : e.1 = kS k
    · simp [q]
    · simp only [q, decide_false, if_false]; exact ih
theorem tab_app {es : List (Str × Cell)} : (es ++ [(kS k, x)]).map (fun e => (e.1, MV.loc e.2.s)) = es.map (fun e => (e.1, MV.loc e.2.s)) ++ [(kS k, .loc x.s)] := by rw [List.map_append]; rfl
theorem tab_set {es : List (Str × Cell)} : (setK kS es k x).map (fun e => (e.1, MV.loc e.2.s)) = setS (es.map fun e => (e.1, MV.loc e.2.s)) k (.loc x.s) := by
  unfold setK setS
  rw [List.map_map, List.map_map]
  apply List.map_congr_left
  intro e _
  simp only [Function.comp]; split <;> rfl
theorem tab_del {es : List (Str × Cell)} : (delK kS es k).map (fun e => (e.1, MV.loc e.2.s)) = delS (es.map fun e => (e.1, MV.loc e.2.s)) k := by
  unfold delK delS
  rw [List.filter_map]; rfl
theorem elem_ (hk : k < 3) (hR : Rep C look) (H : Led σ (elL C.isH ++ ((12, heapO L z) :: (C.foot c ++ R)))) {P_ : Prop} (K_ : ∀ σ' x C' m, (CaM X (n + 7) (.loc 43) [.int k] [] σ (.loc x.s) σ') → (C'.isH = C.isH) → (Rep C' (upd look k (some x))) → (Led σ' (elL C.isH ++ ((12, heapO (L + m) z) :: (C'.foot c ++ R)))) → (((look k = some x ∧ m = 0) ∨ (look k = none ∧ x.num = L + 1 ∧ x.v = none ∧ m = 1))) → P_) : P_ := by
  cases C with
  | A it vs =>
    have hv := hR.lt
    have hl : (vs[k]?).join = look k := hR.2 k hk
    by_cases q : k < vs.length
    · rw [List.getElem?_eq_getElem q] at hl
      have hl : vs[k] = look k := hl
      cases hx : look k with
      | some x =>
        try rw [hx] at K_
        refine K_ σ x (.A it vs) 0 ?_ rfl (by rw [← hx, upd_self]; exact hR) (by rw [Int.add_zero]; exact H) (.inl ⟨rfl, rfl⟩)
        exact elemA1 (X := X) (n := n + 4) (L := L) (z := z) (c := c) (it := it) (R := (11, limO) :: (34, .list []) :: ((Thg.A it vs).cells.flatMap (·.foot 1) ++ R)) hk hv (by rw [List.getElem?_eq_getElem q, hl, hx]) (H.perm (by exact permR [_, _, _, _, _, _, _, _, _, _, _] [_, _] (.a (.c 0 (.c 1 (.c 2 (.c 3 (.c 4 (.c 5 (.c 6 .e))))))) (.c 7 (.a (.c 8 (.c 9 (.c 10 (.s 0)))) (.s 1)))) (.a (.c 0 (.c 1 (.c 2 (.c 3 (.c 4 (.c 5 (.c 7 (.c 8 (.c 10 .e))))))))) (.c 6 (.c 9 (.a (.s 0) (.s 1))))) rfl))
      | none =>
        try rw [hx] at K_
        refine elemA2 (X := X) (n := n) (L := L) (z := z) (c := c) (it := it) (R := (11, limO) :: (34, .list []) :: ((Thg.A it vs).cells.flatMap (·.foot 1) ++ R)) hk hv (by rw [List.getElem?_eq_getElem q, hl, hx]) (H.perm (by exact permR [_, _, _, _, _, _, _, _, _, _, _] [_, _] (.a (.c 0 (.c 1 (.c 2 (.c 3 (.c 4 (.c 5 (.c 6 .e))))))) (.c 7 (.a (.c 8 (.c 9 (.c 10 (.s 0)))) (.s 1)))) (.a (.c 0 (.c 1 (.c 2 (.c 3 (.c 4 (.c 5 (.c 7 (.c 8 (.c 10 .e))))))))) (.c 6 (.c 9 (.a (.s 0) (.s 1))))) rfl)) ?_
        intro σ' s wk e H1
        have hR' := hR.A_set (o := some (newC s wk L)) q
        refine K_ σ' (newC s wk L) (.A it (vs.set k (some (newC s wk L)))) 1 e rfl hR' (H1.perm (permC fun f => ?_)) (.inr ⟨rfl, rfl, rfl, rfl⟩)
        have := hR.foot hR' hk f (fun c => c.foot 1)
        rw [hx] at this
        simp only [elL, Thg.isH, Thg.foot, Thg.obj, Thg.tab, List.map_set, cellV, Option.toList, List.flatMap_cons, List.flatMap_nil, newC_foot, cnt_app, cnt_cons, cnt_nil] at this ⊢
        simp only [newC] at this ⊢
        lia
    · have hx : look k = none := by rw [← hl, List.getElem?_eq_none (by lia)]; rfl
      refine elemA3 (X := X) (n := n) (L := L) (z := z) (c := c) (it := it) (R := (11, limO) :: (34, .list []) :: ((Thg.A it vs).cells.flatMap (·.foot 1) ++ R)) hk hv (by lia) (H.perm (by exact permR [_, _, _, _, _, _, _, _, _, _, _] [_, _] (.a (.c 0 (.c 1 (.c 2 (.c 3 (.c 4 (.c 5 (.c 6 .e))))))) (.c 7 (.a (.c 8 (.c 9 (.c 10 (.s 0)))) (.s 1)))) (.a (.c 0 (.c 1 (.c 2 (.c 3 (.c 4 (.c 5 (.c 7 (.c 8 (.c 10 .e))))))))) (.c 6 (.c 9 (.a (.s 0) (.s 1))))) rfl)) ?_
      intro σ' s wk e H1
      have hR' := (hR.A_pad (m := k + 1 - vs.length) (by lia)).A_set (o := some (newC s wk L)) (k := k) (by simp; lia)
      refine K_ σ' (newC s wk L) (.A it ((vs ++ List.replicate (k + 1 - vs.length) none).set k (some (newC s wk L)))) 1 e rfl hR' (H1.perm (permC fun f => ?_)) (.inr ⟨hx, rfl, rfl, rfl⟩)
      have := hR.foot hR' hk f (fun c => c.foot 1)
      rw [hx] at this
      simp only [elL, Thg.isH, Thg.foot, Thg.obj, Thg.tab, List.map_set, List.map_append, List.map_replicate, cellV, Option.toList, List.flatMap_cons, List.flatMap_nil, newC_foot, cnt_app, cnt_cons, cnt_nil] at this ⊢
      simp only [newC] at this ⊢
      lia
  | H tb es b =>
    have hv := hR.len
    have hl : lookL kS es k = look k := hR.2 k hk
    have hf := find_tab (k := k) (es := es)
    rw [hl] at hf
    have hte : (es.map fun e => (e.1, MV.loc e.2.s)).length ≤ 3 := by rw [List.length_map]; exact hv
    cases b with
    | true =>
      cases hx : look k with
      | some x =>
        try rw [hx] at K_
        rw [hx] at hf
        refine K_ σ x (.H tb es true) 0 ?_ rfl (by rw [← hx, upd_self]; exact hR) (by rw [Int.add_zero]; exact H) (.inl ⟨rfl, rfl⟩)
        exact elemH1 (X := X) (n := n + 4) (L := L) (z := z) (c := c) (tb := tb) (R := (11, limO) :: (34, .list []) :: ((Thg.H tb es true).cells.flatMap (·.foot 1) ++ R)) hk hf (H.perm (by exact permR [_, _, _, _, _, _, _, _, _, _, _] [_, _] (.a (.c 0 (.c 1 (.c 2 (.c 3 (.c 4 (.c 5 (.c 6 .e))))))) (.c 7 (.a (.c 8 (.c 9 (.c 10 (.s 0)))) (.s 1)))) (.a (.c 0 (.c 1 (.c 2 (.c 3 (.c 4 (.c 5 (.c 7 (.c 8 (.c 10 .e))))))))) (.c 6 (.c 9 (.a (.s 0) (.s 1))))) rfl))
      | none =>
        try rw [hx] at K_
        rw [hx] at hf
        refine elemH2 (X := X) (n := n) (L := L) (z := z) (c := c) (tb := tb) (R := (34, .list []) :: ((Thg.H tb es true).cells.flatMap (·.foot 1) ++ R)) hk hte hf (H.perm (by exact permR [_, _, _, _, _, _, _, _, _, _, _] [_, _] (.a (.c 0 (.c 1 (.c 2 (.c 3 (.c 4 (.c 5 (.c 6 .e))))))) (.c 7 (.a (.c 8 (.c 9 (.c 10 (.s 0)))) (.s 1)))) (.a (.c 0 (.c 1 (.c 2 (.c 3 (.c 4 (.c 5 (.c 6 (.c 7 (.c 8 (.c 10 .e)))))))))) (.c 9 (.a (.s 0) (.s 1)))) rfl)) ?_
        intro σ' s wk e H1
        have hR' := hR.H_app (x := newC s wk L) hk hx
        refine K_ σ' (newC s wk L) (.H tb (es ++ [(kS k, newC s wk L)]) true) 1 e rfl hR' (H1.perm (permC fun f => ?_)) (.inr ⟨rfl, rfl, rfl, rfl⟩)
        have := hR.foot hR' hk f (fun c => c.foot 1)
        rw [hx] at this
        simp only [elL, Thg.isH, Thg.foot, Thg.obj, Thg.tab, tabO, tab_app, Option.toList, List.flatMap_cons, List.flatMap_nil, newC_foot, cnt_app, cnt_cons, cnt_nil] at this ⊢
        simp only [newC] at this ⊢
        lia
    | false =>
      have he : es = [] := hR.1.2.2 rfl
      subst he
      have hx : look k = none := hl.symm
      refine elemH3 (X := X) (n := n) (L := L) (z := z) (c := c) (tb := tb) (R := (34, .list []) :: R) hk (H.perm (permC fun f => by simp only [elL, Thg.isH, Thg.foot, Thg.obj, Thg.tab, Thg.cells, tabO, List.map_nil, List.flatMap_nil, cnt_app, cnt_cons, cnt_nil]; lia)) ?_
      intro σ' s wk e H1
      have hR' := hR.H_app (x := newC s wk L) hk hx
      refine K_ σ' (newC s wk L) (.H tb ([] ++ [(kS k, newC s wk L)]) true) 1 e rfl hR' (H1.perm (permC fun f => ?_)) (.inr ⟨hx, rfl, rfl, rfl⟩)
      have := hR.foot hR' hk f (fun c => c.foot 1)
      rw [hx] at this
      simp only [elL, Thg.isH, Thg.foot, Thg.obj, Thg.tab, Thg.cells, tabO, List.nil_append, List.map_cons, List.map_nil, Option.toList, List.flatMap_cons, List.flatMap_nil, newC_foot, cnt_app, cnt_cons, cnt_nil] at this ⊢
      simp only [newC] at this ⊢
      lia
end Mine
end
section
namespace Mine
open PySem
variable {X : Wb} {σ : MS} {R : List (Nat × MO)} {n k : Nat} {L c : Int} {z it tb tl wk : Nat} {zs svs : List MV} {C : Thg} {look : Nat → Option Cell} {x : Cell} {o : Option Cell}
noncomputable def keyV (h : Bool) (k : Nat) : MV := match h with
  | false => .int k
  | true => .str (kS k)
noncomputable def locF (h : Bool) : Nat := match h with
  | false => 344
  | true => 351
noncomputable def undF (h : Bool) : Nat := match h with
  | false => 393
  | true => 400
theorem padV_map (vs : List (Option Cell)) (k : Nat) : padV vs k = (vs ++ List.replicate (k + 1 - vs.length) none).map cellV := by
  rw [List.map_append, List.map_replicate]; rfl
theorem local_ (hk : k < 3) (hR : Rep C look) (hs : svs.length < 900) (H : Led σ ((22, runO) :: (11, limO) :: (19, cntO) :: (30, .list svs) :: (12, heapO L z) :: (C.foot c ++ R))) {P_ : Prop} (K_ : ∀ σ' x C' tl, (CaM X (n + 7) (.top (locF C.isH)) [.loc 22, .loc 33, keyV C.isH k] [] σ (.loc x.s) σ') → (C'.isH = C.isH) → (Rep C' (upd look k (some x))) → (x.num = L + 1) → (x.v = none) → (Led σ' ((22, runO) :: (11, limO) :: (19, cntO) :: (30, .list (svs ++ [.loc tl])) :: (12, heapO (L + 1) z) :: (tl, tupS C.isH k (cellV (look k))) :: (C'.foot (c + 1) ++ ((look k).toList.flatMap (·.foot 1) ++ R)))) → P_) : P_ := by
  cases C with
  | A it vs =>
    have hv := hR.lt
    have hl : (vs[k]?).join = look k := hR.2 k hk
    refine local_A (X := X) (n := n) (k := k) (L := L) (z := z) (c := c) (it := it) (svs := svs) (vs := vs) (R := (34, .list []) :: ((Thg.A it vs).cells.flatMap (·.foot 1) ++ R)) hk hv hs (H.perm (by exact permR [_, _, _, _, _, _, _, _] [_, _] (.c 0 (.c 1 (.c 2 (.c 3 (.c 4 (.a (.c 5 (.c 6 (.c 7 (.s 0)))) (.s 1))))))) (.a (.c 0 (.c 1 (.c 2 (.c 3 (.c 4 (.c 5 (.c 7 .e))))))) (.c 6 (.a (.s 0) (.s 1)))) rfl)) ?_
    intro σ' s wk tl e H1
    rw [hl] at H1
    have hR2 : ∃ m, (vs ++ List.replicate (k + 1 - vs.length) none).length = m ∧ k < m ∧ Rep (.A it (vs ++ List.replicate (k + 1 - vs.length) none)) look := by
      refine ⟨_, rfl, by simp; lia, ?_⟩
      by_cases q : k < vs.length
      · rw [show k + 1 - vs.length = 0 by lia]
        rw [List.replicate_zero, List.append_nil]; exact hR
      · exact hR.A_pad (by lia)
    obtain ⟨m, h1, h2, hR2⟩ := hR2
    have hR' := hR2.A_set (o := some (newC s wk L)) (k := k) (by lia)
    refine K_ σ' (newC s wk L) (.A it ((vs ++ List.replicate (k + 1 - vs.length) none).set k (some (newC s wk L)))) tl e rfl hR' rfl rfl (H1.perm (permC fun f => ?_))
    have := hR.foot hR' hk f (fun c => c.foot 1)
    simp only [Thg.isH, tupS, Thg.foot, Thg.obj, Thg.tab, padV_map, List.map_set, cellV, Option.toList, List.flatMap_cons, List.flatMap_nil, newC_foot, cnt_app, cnt_cons, cnt_nil] at this ⊢
    simp only [newC] at this ⊢
    lia
  | H tb es b =>
    have hv := hR.len
    have hl : lookL kS es k = look k := hR.2 k hk
    have hf := find_tab (k := k) (es := es)
    rw [hl] at hf
    have hte : (es.map fun e => (e.1, MV.loc e.2.s)).length ≤ 3 := by rw [List.length_map]; exact hv
    cases b with
    | true =>
      cases hx : look k with
      | some x =>
        try rw [hx] at K_
        rw [hx] at hf
        refine local_H1 (X := X) (n := n) (L := L) (z := z) (c := c) (tb := tb) (svs := svs) (R := (11, limO) :: (34, .list []) :: ((Thg.H tb es true).cells.flatMap (·.foot 1) ++ R)) hte hf hs (H.perm (by exact permR [_, _, _, _, _, _, _, _] [_, _] (.c 0 (.c 1 (.c 2 (.c 3 (.c 4 (.a (.c 5 (.c 6 (.c 7 (.s 0)))) (.s 1))))))) (.a (.c 0 (.c 2 (.c 3 (.c 4 (.c 5 (.c 7 .e)))))) (.c 1 (.c 6 (.a (.s 0) (.s 1))))) rfl)) ?_
        intro σ' s wk tl e H1
        have hR' := hR.H_set (x := newC s wk L) hk (by rw [hx]; rfl)
        refine K_ σ' (newC s wk L) (.H tb (setK kS es k (newC s wk L)) true) tl e rfl hR' rfl rfl (H1.perm (permC fun f => ?_))
        have := hR.foot hR' hk f (fun c => c.foot 1)
        rw [hx] at this
        simp only [Thg.isH, tupS, Thg.foot, Thg.obj, Thg.tab, tabO, tab_set, cellV, Option.toList, List.flatMap_cons, List.flatMap_nil, newC_foot, cnt_app, cnt_cons, cnt_nil] at this ⊢
        simp only [newC] at this ⊢
        lia
      | none =>
        try rw [hx] at K_
        rw [hx] at hf
        refine local_H2 (v := .none) (X := X) (n := n) (L := L) (z := z) (c := c) (tb := tb) (svs := svs) (R := (11, limO) :: (34, .list []) :: ((Thg.H tb es true).cells.flatMap (·.foot 1) ++ R)) hte hf hs (H.perm (by exact permR [_, _, _, _, _, _, _, _] [_, _] (.c 0 (.c 1 (.c 2 (.c 3 (.c 4 (.a (.c 5 (.c 6 (.c 7 (.s 0)))) (.s 1))))))) (.a (.c 0 (.c 2 (.c 3 (.c 4 (.c 5 (.c 7 .e)))))) (.c 1 (.c 6 (.a (.s 0) (.s 1))))) rfl)) ?_
        intro σ' s wk tl e H1
        have hR' := hR.H_app (x := newC s wk L) hk hx
        refine K_ σ' (newC s wk L) (.H tb (es ++ [(kS k, newC s wk L)]) true) tl e rfl hR' rfl rfl (H1.perm (permC fun f => ?_))
        have := hR.foot hR' hk f (fun c => c.foot 1)
        rw [hx] at this
        simp only [Thg.isH, tupS, Thg.foot, Thg.obj, Thg.tab, tabO, tab_app, cellV, Option.toList, List.flatMap_cons, List.flatMap_nil, newC_foot, cnt_app, cnt_cons, cnt_nil] at this ⊢
        simp only [newC] at this ⊢
        lia
    | false =>
      have he : es = [] := hR.1.2.2 rfl
      subst he
      have hx : look k = none := hl.symm
      refine local_H3 (v := .none) (X := X) (n := n) (L := L) (z := z) (c := c) (tb := tb) (svs := svs) (k := k) (R := (11, limO) :: (34, .list []) :: R) hs (H.perm (permC fun f => by simp only [elL, Thg.isH, Thg.foot, Thg.obj, Thg.tab, Thg.cells, tabO, List.map_nil, List.flatMap_nil, cnt_app, cnt_cons, cnt_nil]; lia)) ?_
      intro σ' s wk tl e H1
      have hR' := hR.H_app (x := newC s wk L) hk hx
      refine K_ σ' (newC s wk L) (.H tb ([] ++ [(kS k, newC s wk L)]) true) tl e rfl hR' rfl rfl (H1.perm (permC fun f => ?_))
      have := hR.foot hR' hk f (fun c => c.foot 1)
      rw [hx] at this ⊢
      simp only [Thg.isH, tupS, Thg.foot, Thg.obj, Thg.tab, Thg.cells, tabO, cellV, List.nil_append, List.map_cons, List.map_nil, Option.toList, List.flatMap_cons, List.flatMap_nil, newC_foot, cnt_app, cnt_cons, cnt_nil] at this ⊢
      simp only [newC] at this ⊢
      lia
theorem ok_val (x : Cell) : okV x.val = true := by obtain ⟨s, wk, num, v⟩ := x; cases v <;> rfl
theorem ok_cell (o : Option Cell) : cellV o = .none ∨ ∃ y, cellV o = .loc y := by cases o; exact .inl rfl; exact .inr ⟨_, rfl⟩
theorem undo_ (hk : k < 3) (hR : Rep C look) (hx : look k = some x) (hz : zs.length < 900) (H : Led σ ((22, runO) :: (19, cntO) :: (12, heapO L z) :: (z, .list zs) :: (tl, tupS C.isH k (cellV o)) :: (C.foot c ++ (o.toList.flatMap (·.foot 1) ++ R)))) {P_ : Prop} (K_ : ∀ σ' C', (CaM X (n + 6) (.top (undF C.isH)) [.loc 22, .loc tl] [] σ .none σ') → (C'.isH = C.isH) → (Rep C' (upd look k o)) → (Led σ' ((22, runO) :: (19, cntO) :: (12, heapO L z) :: (z, .list (zs ++ (.loc x.s :: if c = 1 then [.loc 33] else []))) :: (C'.foot (c - 1) ++ (x.foot 0 ++ R)))) → P_) : P_ := by
  have hc : ∀ (f : Cell → Nat), cnt f C.cells = f x + cnt f (cells3 (upd look k none)) := fun f => by
    have a := hR.cells f
    have b := cells3_upd f look hk none
    rw [hx] at b
    simp only [Option.toList, cnt_cons, cnt_nil] at b
    lia
  have hcf : ∀ (f : Nat × MO → Nat), cnt f (C.cells.flatMap (·.foot 1)) = cnt f (x.foot 1) + cnt f ((cells3 (upd look k none)).flatMap (·.foot 1)) := fun f => by
    rw [cnt_flatMap, cnt_flatMap]; exact hc _
  cases C with
  | A it vs =>
    have hv := hR.lt
    have hl : (vs[k]?).join = some x := (hR.2 k hk).trans hx
    have hlt : k < vs.length := by
      by_cases q : k < vs.length
      · exact q
      · rw [List.getElem?_eq_none (by lia)] at hl; cases hl
    have hvx : vs[k]? = some (some x) := by
      rw [List.getElem?_eq_getElem hlt] at hl ⊢
      have hl : vs[k] = some x := hl
      rw [hl]
    refine undo_A (X := X) (n := n + 2) (k := k) (L := L) (z := z) (c := c) (it := it) (tl := tl) (o := o) (zs := zs) (vs := vs) (x := x) (R := (34, .list []) :: (x.wk, .list []) :: (vfoot x.v ++ ((cells3 (upd look k none)).flatMap (·.foot 1) ++ (o.toList.flatMap (·.foot 1) ++ R)))) hk hv hvx hz
      (H.perm (permC fun f => by
        have := hcf f
        simp only [Thg.isH, Thg.foot, Thg.obj, Thg.tab, Cell.foot, cnt_app, cnt_cons, cnt_nil] at this ⊢
        lia)) ?_
    intro σ' vs' m e h1 H1
    have hR' : Rep (.A it vs') (upd look k o) := by
      have := hR.A_set (o := o) hlt
      rw [h1] at this
      exact this.A_cut
    refine K_ σ' (.A it vs') e rfl hR' (H1.less (X := [(tl, tupS false k (cellV o))]) fun f => ?_)
    have a := hcf f
    have b := hR.foot hR' hk f (fun c => c.foot 1)
    rw [hx] at b
    simp only [Thg.isH, Thg.foot, Thg.obj, Thg.tab, Cell.foot, Option.toList, List.flatMap_cons, List.flatMap_nil, cnt_app, cnt_cons, cnt_nil] at a b ⊢
    lia
  | H tb es b =>
    have hv := hR.len
    have hl : lookL kS es k = some x := (hR.2 k hk).trans hx
    have hf := find_tab (k := k) (es := es)
    rw [hl] at hf
    have hte : (es.map fun e => (e.1, MV.loc e.2.s)).length ≤ 3 := by rw [List.length_map]; exact hv
    cases b with
    | false =>
      have he : es = [] := hR.1.2.2 rfl
      subst he
      cases hl
    | true =>
      refine undo_H (X := X) (n := n) (k := k) (L := L) (z := z) (c := c) (tb := tb) (tl := tl) (zs := zs) (num := x.num) (v := x.val) (wk := x.wk) (s := x.s) (R := (34, .list []) :: (x.wk, .list []) :: (vfoot x.v ++ ((cells3 (upd look k none)).flatMap (·.foot 1) ++ (o.toList.flatMap (·.foot 1) ++ R)))) (ok_val x) (ok_cell o) hte hf hz
        (H.perm (permC fun f => by
          have := hcf f
          simp only [Thg.isH, Thg.foot, Thg.obj, Thg.tab, tabO, Cell.foot, cnt_app, cnt_cons, cnt_nil] at this ⊢
          lia)) ?_
      intro σ' e H1
      cases o with
      | none =>
        have hR' := hR.H_del hk
        refine K_ σ' (.H tb (delK kS es k) true) e rfl hR' (H1.less (X := [(tl, tupS true k .none)]) fun f => ?_)
        have a := hcf f
        have b := hR.foot hR' hk f (fun c => c.foot 1)
        rw [hx] at b
        simp only [cellV, newS, if_true, Thg.isH, Thg.foot, Thg.obj, Thg.tab, tabO, tab_del, Cell.foot, Option.toList, List.flatMap_cons, List.flatMap_nil, cnt_app, cnt_cons, cnt_nil] at a b ⊢
        lia
      | some y =>
        have hR' := hR.H_set (x := y) hk (by rw [hx]; rfl)
        refine K_ σ' (.H tb (setK kS es k y) true) e rfl hR' (H1.less (X := [(tl, tupS true k (.loc y.s))]) fun f => ?_)
        have a := hcf f
        have b := hR.foot hR' hk f (fun c => c.foot 1)
        rw [hx] at b
        have q : ∀ t, newS t k (.loc y.s) = setS t k (.loc y.s) := fun t => if_neg (by simp)
        simp only [cellV, q, Thg.isH, Thg.foot, Thg.obj, Thg.tab, tabO, tab_set, Cell.foot, Option.toList, List.flatMap_cons, List.flatMap_nil, cnt_app, cnt_cons, cnt_nil] at a b ⊢
        lia
end Mine
end
section
set_option maxRecDepth 100000
set_option maxHeartbeats 4000000
namespace Mine
open PySem
variable {X : Wb} {σ : MS} {R : List (Nat × MO)} {n k a rl : Nat} {L c : Int} {z it tb tl wk : Nat} {zs svs as : List MV} {C : Thg} {look : Nat → Option Cell} {x : Cell} {o : Option Cell} {row : List Int} {h : Bool} {fs : Int}
noncomputable def purseO (a : Nat) : MO := .dS [(Str.ofString "at", .int a), (Str.ofString "row", .loc 9)]
noncomputable def rowO (row : List Int) : MO := .list (row.map .int)
theorem fmod_ran (v : Int) (hf : 0 < fs) : 0 ≤ Int.fmod v fs ∧ Int.fmod v fs < fs := ⟨Int.fmod_nonneg_of_pos v hf, Int.fmod_lt_of_pos v hf⟩
theorem r_idx1 {s : LS} {i m a : Nat} {vs : List MV} {v : MV} (g : s.L[i]? = some (m, .list vs)) (c : vs.length < 1000) (h : vs[a]? = some v) : SubL X s (.loc m) (.int ((a : Int) + 1 - 1)) v := by
  rw [show (a : Int) + 1 - 1 = (a : Int) by lia]; exact r_idx g c h
theorem e_mod {fr : MF} {a b : ME} {s s1 s2 : LS} {x : Int} (d : EvL X n fr a s (.int x) s1) (d2 : EvL X n fr b s1 (.int fs) s2) (hf : 0 < fs) : EvL X n fr (.bin .mod a b) s (.int (Int.fmod x fs)) s2 := e_bin d d2 (b_mod hf)
theorem e_mul {fr : MF} {a b : ME} {s s1 s2 : LS} {x y : Int} (d : EvL X n fr a s (.int x) s1) (d2 : EvL X n fr b s1 (.int y) s2) (h : x.natAbs < 1000000) : EvL X n fr (.bin .mul a b) s (.int (x * y)) s2 := e_bin d d2 (b_mul h)
theorem e_div3 {fr : MF} {a : ME} {s s1 : LS} {x : Int} (d : EvL X n fr a s (.int x) s1) : EvL X n fr (.bin .fdiv a (.int 3)) s (.int (Int.fdiv x 3)) s1 := e_bin d e_int (b_fdiv (by decide))
local macro_rules | `(tactic| pv_eval) => altsOf "e_mod:eea e_mul:eeL e_div3:e"
local macro_rules | `(tactic| top_argsB) => altsOf "r_idx1:lna"
theorem coin_ (hf : 0 < fs) (hr : row.length ≤ 50) (ha : a < 100) (H : Led σ ([(10, purseO a), (9, rowO row)] ++ R)) {P_ : Prop} (K_ : ∀ σ' r, (CaM X (n + 2) (.top 634) [.loc 10, .int fs] [] σ (.int r) σ') → (0 ≤ r) → (r < fs) → (Led σ' ([(10, purseO (a + 1)), (9, rowO row)] ++ R)) → (σ'.next = σ.next) → P_) : P_ := by
  have hl : (row.map MV.int).length = row.length := List.length_map ..
  by_cases q : a < row.length
  · have h3 : (row.map MV.int)[a]? = some (.int row[a]) := by rw [List.getElem?_map, List.getElem?_eq_getElem q]; rfl
    have h4 : (a : Int) + 1 - 1 = (a : Int) := by lia
    exact run_then X (n + 2) (.top 634) [.loc 10, .int fs] H _ _ (by got_up) (by exact fun e h => K_ _ _ e ((fmod_ran _ hf).1) ((fmod_ran _ hf).2) h rfl)
  · have h5 : ((a : Int) + 1).natAbs < 1000000 := by lia
    exact run_then X (n + 2) (.top 634) [.loc 10, .int fs] H _ _ (by got_up) (by exact fun e h => K_ _ _ e ((fmod_ran _ hf).1) ((fmod_ran _ hf).2) h rfl)
noncomputable def ownO (rl : Nat) (h : Bool) : MO := .dS [(Str.ofString "row", .loc rl), (Str.ofString "aside", .loc 40), (Str.ofString "is_held", .bool h)]
theorem swept_held (H : Led σ ([(41, ownO rl true)] ++ R)) {P_ : Prop} (K_ : ∀ σ' g, (CaM X (n + 2) (.top 646) [.loc 41] [] σ (.loc g) σ') → (Led σ' ([(g, .list []), (41, ownO rl true)] ++ R)) → P_) : P_ :=
  run_then X (n + 2) (.top 646) [.loc 41] H _ _ (by got_up) (by exact fun e h => K_ _ _ e (h.pick [0, 2] 3 (by decide) rfl rfl rfl))
theorem swept_aside (hs : as.length < 900) (ha : as ≠ []) (H : Led σ ([(41, ownO rl false), (40, .list as)] ++ R)) {P_ : Prop} (K_ : ∀ σ' g, (CaM X (n + 2) (.top 646) [.loc 41] [] σ (.loc g) σ') → (Led σ' ([(g, .list []), (41, ownO rl false), (40, .list as)] ++ R)) → P_) : P_ := by
  have h2 : as.isEmpty = false := by simpa using ha
  exact run_then X (n + 2) (.top 646) [.loc 41] H _ _ (by got_up) (by exact fun e h => K_ _ _ e (h.pick [0, 3, 4] 5 (by decide) rfl rfl rfl))
noncomputable def rv (c : Cell) : MV := match c.v with
  | none => .none
  | some q => .int q.num
noncomputable def κI (k : Nat) : Int := k
theorem κI_inj {j k : Nat} (_ : j < 3) (_ : k < 3) (h : κI j = κI k) : j = k := Int.ofNat.inj h
noncomputable def toI : MV → Option Int
  | .int i => some i
  | _ => none
noncomputable def sweptI (row : List (Int × MV)) : List Int := row.filterMap fun e => toI e.2
noncomputable def rowOK (v : MV) : Prop := v = .none ∨ ∃ i, v = .int i
theorem find_self {K V : Type} [DecidableEq K] : ∀ {es : List (K × V)}, (es.map (·.1)).Nodup → ∀ e ∈ es, es.find? (fun a => decide (a.1 = e.1)) = some e
  | [], _, _, h => by cases h
  | a :: es, nd, e, h => by
    rw [List.map_cons, List.nodup_cons] at nd
    rw [List.find?_cons]
    rcases List.mem_cons.mp h with rfl | h
    · simp
    · have : ¬ a.1 = e.1 := fun w => nd.1 (w ▸ List.mem_map_of_mem h)
      rw [decide_eq_false this]
      exact find_self nd.2 e h
theorem row_items {row : List (Int × MV)} : ∀ l : List (Int × MV), (∀ e ∈ l, getD row (.int e.1) = e.2 ∧ rowOK e.2) → ((l.map fun e => MV.int e.1).filter fun m => !(getD row m == .none)).map (getD row) = (sweptI l).map .int
  | [], _ => rfl
  | e :: l, h => by
    obtain ⟨h1, h2⟩ := h e (.head _)
    have ih := row_items l fun e h' => h e (.tail _ h')
    obtain ⟨k, v⟩ := e
    have h1 : getD row (.int k) = v := h1
    rw [List.map_cons, List.filter_cons]
    show List.map (getD row) (if (!(getD row (.int k) == .none)) = true then _ else _) = _
    rw [h1]
    rcases h2 with w | ⟨i, w⟩
    · have w : v = .none := w
      subst w
      exact ih
    · have w : v = .int i := w
      subst w
      show getD row (.int k) :: _ = MV.int i :: _
      rw [h1, ih]; rfl
theorem r_row {s : LS} {i j m oc rl : Nat} {h : Bool} {row : List (Int × MV)} (nd : (row.map (·.1)).Nodup) (hv : ∀ e ∈ row, rowOK e.2) (g1 : s.L[i]? = some (oc, .cell (some (.loc 41)))) (g2 : s.L[j]? = some (41, ownO rl h)) (g3 : s.L[m]? = some (rl, .dI row)) :
    CoL X s [("own", oc)] "key" (.sub (.sub (.cel "own") (.str "row")) (.var "key")) (some (.cmp .notN (.sub (.sub (.cel "own") (.str "row")) (.var "key")) .none)) (row.map fun e => .int e.1) ((sweptI row).map .int) := ⟨fun H => by
  have hf := fun e he => find_self nd e he
  have hg : ∀ e ∈ row, getD row (.int e.1) = e.2 := fun e he => by rw [getD, hf e he]; rfl
  refine ⟨fun m => !(getD row m == .none), getD row, fun m hm => ?_, row_items row fun e he => ⟨hg e he, hv e he⟩⟩
  obtain ⟨e, he, rfl⟩ := List.mem_map.mp hm
  have hp : PuM X ⟨[("key", .int e.1)], [("own", oc)], false⟩ (.sub (.sub (.cel "own") (.str "row")) (.var "key")) s.σ (getD row (.int e.1)) := by
    rw [hg e he]
    exact pu_sub (pu_sub (pu_cel rfl (H.get _ g1)) pu_str (rm_key (dkS X.w) (H.get _ g2) (k := Str.ofString "row") (k' := Str.ofString "row") (v := .loc rl) (by rw [List.find?_cons, decide_eq_true rfl]))) (pu_var rfl) (rm_key (dkI X.w) (H.get _ g3) (hf e he))
  refine ⟨pt_cmp hp pu_none (km_isnt ?_), fun _ => hp⟩
  rw [hg e he]
  rcases hv e he with w | ⟨i, w⟩ <;> rw [w] <;> rfl⟩
local macro_rules | `(tactic| top_argsB) => altsOf "r_iterI:ln r_row:aalll"
theorem swept_out {row : List (Int × MV)} (nd : (row.map (·.1)).Nodup) (hr : row.length < 900) (hv : ∀ e ∈ row, rowOK e.2) (H : Led σ ([(41, ownO rl false), (40, .list []), (rl, .dI row)] ++ R)) {P_ : Prop} (K_ : ∀ σ' g rl', (CaM X (n + 2) (.top 646) [.loc 41] [] σ (.loc g) σ') → (Led σ' ([(g, .list ((sweptI row).map .int)), (41, ownO rl' false), (40, .list []), (rl', .dI [])] ++ R)) → P_) : P_ := by
  exact run_then X (n + 2) (.top 646) [.loc 41] H _ _ (by got_up) (by exact fun e h => K_ _ _ _ e (h.pick [1, 4, 5, 0] 7 (by decide) rfl rfl rfl))
end Mine
end
section
set_option maxRecDepth 100000
set_option maxHeartbeats 4000000
namespace Mine
open PySem
variable {X : Wb} {σ : MS} {R : List (Nat × MO)} {n k a rl g ta m : Nat} {L : Int} {z it tb tl wk : Nat} {zs svs as : List MV} {C : Thg} {look : Nat → Option Cell} {x c : Cell} {o old : Option Cell} {row : List (Int × MV)} {gs : List Int} {h : Bool} {fr : MF}
noncomputable def rvo : Option Cell → MV
  | none => .none
  | some c => rv c
noncomputable def tupA (k : Nat) (o : Option Cell) : MO := .tup [.int k, .bool o.isSome, rvo o]
noncomputable def rowU (row : List (Int × MV)) (k : Nat) : Option Cell → List (Int × MV)
  | none => delK κI row k
  | some c => delK κI row k ++ [(κI k, rv c)]
structure RowRep (row : List (Int × MV)) (look : Nat → Option Cell) : Prop where
  nd : (row.map (·.1)).Nodup
  keys : ∀ e ∈ row, ∃ j, j < 3 ∧ e.1 = κI j
  look : ∀ k, k < 3 → lookL κI row k = (look k).map rv
theorem RowRep.del (H : RowRep row look) (hk : k < 3) : RowRep (delK κI row k) (upd look k none) where
  nd := H.nd.sublist ((List.filter_sublist).map _)
  keys := fun e he => H.keys e (List.mem_filter.mp he).1
  look := fun j hj => by
    rw [lookL_del κI_inj hk hj]
    unfold upd; split
    · rfl
    · exact H.look j hj
theorem RowRep.app (H : RowRep row look) (hk : k < 3) (hn : look k = none) : RowRep (row ++ [(κI k, rv c)]) (upd look k (some c)) where
  nd := by
    rw [List.map_append, List.nodup_append]
    refine ⟨H.nd, by simp, fun a ha b hb e => ?_⟩
    simp at hb
    subst hb; subst e
    obtain ⟨e, he, q⟩ := List.mem_map.mp ha
    have hl := H.look k hk
    rw [hn] at hl
    unfold lookL at hl
    rw [Option.map_none, Option.map_eq_none_iff, List.find?_eq_none] at hl
    exact hl e he (by simpa using q)
  keys := fun e he => by
    rcases List.mem_append.mp he with he | he
    · exact H.keys e he
    · simp at he; exact ⟨k, hk, by rw [he]⟩
  look := fun j hj => by
    have hl := H.look k hk
    rw [hn] at hl
    rw [lookL_app κI_inj hk hj hl]
    unfold upd; split
    · rfl
    · exact H.look j hj
theorem RowRep.set (H : RowRep row look) (hk : k < 3) (hn : (look k).isSome) : RowRep (setK κI row k (rv c)) (upd look k (some c)) where
  nd := by rw [setK_keys]; exact H.nd
  keys := fun e he => by
    obtain ⟨e0, he0, rfl⟩ := List.mem_map.mp he
    obtain ⟨j, hj, q⟩ := H.keys e0 he0
    exact ⟨j, hj, by split <;> exact q⟩
  look := fun j hj => by
    have hl : (lookL κI row k).isSome := by rw [H.look k hk]; simpa using hn
    rw [lookL_set κI_inj hk hj _ hl]
    unfold upd; split
    · rfl
    · exact H.look j hj
theorem RowRep.undo (H : RowRep row look) (hk : k < 3) : RowRep (rowU row k old) (upd look k old) := by
  cases old with
  | none => exact H.del hk
  | some c =>
    have := (H.del hk).app (c := c) hk (by unfold upd; rw [if_pos rfl])
    rw [upd_upd] at this
    exact this
theorem RowRep.len (H : RowRep row look) : row.length ≤ 3 := len3 κI_inj H.nd H.keys
theorem rv_ok (c : Cell) : rowOK (rv c) := by
  obtain ⟨s, wk, num, v⟩ := c
  cases v
  · exact .inl rfl
  · exact .inr ⟨_, rfl⟩
theorem RowRep.ok (H : RowRep row look) : ∀ e ∈ row, rowOK e.2 := fun e he => by
  obtain ⟨j, hj, q⟩ := H.keys e he
  have := find_self H.nd e he
  have hl := H.look j hj
  unfold lookL at hl
  rw [← q, this] at hl
  cases hx : look j with
  | none => rw [hx] at hl; cases hl
  | some c => rw [hx] at hl; rw [show e.2 = rv c from Option.some.inj hl]; exact rv_ok c
theorem RowRep.swept (H : RowRep row look) (f : Int → Nat) : cnt f (sweptI row) = cnt f ((cells3 look).flatMap fun c => vnums c.v) := by
  have key : ∀ (l : List (Int × MV)), cnt f (sweptI l) = cnt (fun v => cnt f (toI v).toList) (l.map (·.2)) := fun l => by
    induction l with
    | nil => rfl
    | cons e l ih =>
      unfold sweptI at *
      rw [List.map_cons, cnt_cons, ← ih, List.filterMap_cons]
      cases toI e.2 <;> simp [cnt_cons, cnt]
  rw [key, cnt_look κI_inj _ H.nd H.keys, cells3_congr H.look, cnt_flatMap]
  have : ∀ c : Cell, cnt f (toI (rv c)).toList = cnt f (vnums c.v) := fun c => by
    obtain ⟨s, wk, num, v⟩ := c; cases v <;> rfl
  unfold cells3
  simp only [cnt_app]
  have t : ∀ o : Option Cell, cnt (fun v => cnt f (toI v).toList) (o.map rv).toList = cnt (fun c => cnt f (vnums c.v)) o.toList := fun o => by
    cases o with
    | none => rfl
    | some c => exact (cnt_cons _ _ _).trans ((congrArg (· + 0) (this c)).trans (cnt_cons (fun c : Cell => cnt f (vnums c.v)) c []).symm)
  rw [t, t, t]
theorem RowRep.find (H : RowRep row look) (hk : k < 3) (hx : look k = some c) : row.find? (fun e => decide (e.1 = (k : Int))) = some ((k : Int), rv c) := by
  have hl := H.look k hk
  rw [hx] at hl
  unfold lookL κI at hl
  rw [Option.map_some, Option.map_eq_some_iff] at hl
  obtain ⟨e, he, q⟩ := hl
  have := List.find?_some he
  simp at this
  rw [he, ← this, ← q]
noncomputable def wa653 : List MSt := [.asgT
      [.var "key", .var "was_there", .var "old"]
      (.meth (.sub (.var "own") (.str "aside")) "pop" []),
    .ite
      (.cmp
        (.notN)
        (.meth (.sub (.var "own") (.str "row")) "get" [.var "key"])
        (.none))
      [.expr
         (.meth
           (.var "gone")
           "append"
           [.sub (.sub (.var "own") (.str "row")) (.var "key")])]
      [],
    .expr
      (.meth (.sub (.var "own") (.str "row")) "pop" [.var "key", .none]),
    .ite
      (.var "was_there")
      [.asg
         (.sub (.sub (.var "own") (.str "row")) (.var "key"))
         (.var "old")]
      []]
noncomputable def wb653 : List MSt := [.expr (.meth (.var "gone") "extend" [.call (.val (.top 646)) [.var "own"]])]
noncomputable def f653 (k : Nat) (o : Option Cell) (fr : MF) : MF := ⟨setL "old" (rvo o) (setL "was_there" (.bool o.isSome) (setL "key" (.int k) fr.loc)), fr.cel, fr.law⟩
local macro_rules | `(tactic| one_sign) => altsOf "a_nil: a_cons:rs :r"
theorem left_a (f1 : getL' "own" fr.loc = some (.loc 41)) (f3 : getL' "gone" fr.loc = some (.loc g)) (hf : row.find? (fun e => decide (e.1 = (k : Int))) = some ((k : Int), rv c)) (hr : row.length ≤ 3) (ha : as.length < 900) (hg : gs.length < 900)
    (H : Led σ ([(41, ownO rl h), (40, .list (as ++ [.loc ta])), (ta, tupA k old), (rl, .dI row), (g, .list (gs.map .int))] ++ R)) {P_ : Prop} (K_ : ∀ σ', (ExsM X (n + 2) wa653 fr σ .next (f653 k old fr) σ') → (Led σ' ([(41, ownO rl h), (40, .list as), (ta, tupA k old), (rl, .dI (rowU row k old)), (g, .list ((gs ++ vnums c.v).map .int))] ++ R)) → P_) : P_ := by
  have hl : (gs.map MV.int).length = gs.length := List.length_map ..
  have hd : (row.filter fun e => decide (e.1 ≠ (k : Int))).length < 1000 := Nat.lt_of_le_of_lt (List.length_filter_le _ _) (by lia)
  have h7 : (row.filter fun e => decide (e.1 ≠ (k : Int))).any (fun e => decide (e.1 = (k : Int))) = false := by
    rw [List.any_eq_false]; intro e he; have := (List.mem_filter.mp he).2; simpa using this
  have f1 := f1
  obtain ⟨cs, cwk, cnum, cv⟩ := c
  cases cv with
  | none =>
    rw [show gs ++ vnums none = gs from List.append_nil _] at K_
    cases old with
    | none => exact run_ex X (n + 2) wa653 fr H _ _ _ (by one_item) (by exact fun e h => K_ _ e h)
    | some d => exact run_ex X (n + 2) wa653 fr H _ _ _ (by one_item) (by exact fun e h => K_ _ e h)
  | some q =>
    rw [show (gs ++ vnums (some q)).map MV.int = gs.map MV.int ++ [.int q.num] from List.map_append] at K_
    cases old with
    | none => exact run_ex X (n + 2) wa653 fr H _ _ _ (by one_item) (by exact fun e h => K_ _ e h)
    | some d => exact run_ex X (n + 2) wa653 fr H _ _ _ (by one_item) (by exact fun e h => K_ _ e h)
end Mine
end
section
namespace Mine
open PySem
variable {X : Wb} {σ : MS} {R : List (Nat × MO)} {n k a rl g sg ta m : Nat} {L : Int} {z it tb tl wk : Nat} {zs svs as us vs : List MV} {C : Thg} {look : Nat → Option Cell} {x c : Cell} {o old : Option Cell} {row : List (Int × MV)} {gs : List Int} {h : Bool} {fr : MF}
theorem ixr {L : List (Nat × MO)} (i : Nat) {p : Nat × MO} (h : L[i]? = some p) : L[i]? = some p := h
structure Ent where
  k : Nat
  old : Option Cell
  tl : Nat
  ta : Nat
noncomputable def asOf (s : List Ent) : List MV := (s.map fun e => MV.loc e.ta).reverse
noncomputable def svOf (s : List Ent) : List MV := (s.map fun e => MV.loc e.tl).reverse
noncomputable def tA (e : Ent) : Nat × MO := (e.ta, tupA e.k e.old)
noncomputable def vn (c : Cell) : List Int := vnums c.v
noncomputable def undoL (look : Nat → Option Cell) : List Ent → Nat → Option Cell
  | [] => look
  | e :: r => undoL (upd look e.k e.old) r
noncomputable def popC (look : Nat → Option Cell) : List Ent → List Cell
  | [] => []
  | e :: r => (look e.k).toList ++ popC (upd look e.k e.old) r
noncomputable def StackOk (look : Nat → Option Cell) : List Ent → Prop
  | [] => True
  | e :: r => e.k < 3 ∧ (look e.k).isSome ∧ StackOk (upd look e.k e.old) r
noncomputable def noneL : Nat → Option Cell := fun _ => none
noncomputable def endL (h : Bool) (q : List Ent) (look : Nat → Option Cell) : Nat → Option Cell := if h = false ∧ q = [] then noneL else look
noncomputable def swpC (h : Bool) (q : List Ent) (look : Nat → Option Cell) : List Cell := if h = false ∧ q = [] then cells3 look else []
theorem rowRep_nil : RowRep [] noneL := ⟨List.Pairwise.nil, fun _ h => (List.not_mem_nil h).elim, fun _ _ => rfl⟩
theorem ext_ (e : CaM X (n + 1) (.top 646) [.loc 41] [] σ (.loc sg) τ) (f1 : getL' "own" fr.loc = some (.loc 41)) (f3 : getL' "gone" fr.loc = some (.loc g)) (h0 : σ.obj g = some (.list vs)) (h1 : τ.obj g = some (.list vs)) (h2 : τ.obj sg = some (.list us)) (hne : ¬ g = sg) (hv : vs.length < 1000) (hu : us.length < 1000) :
    ExsM X (n + 1) wb653 fr σ .next fr (τ.put g (.list (vs ++ us))) := by
  exact xms_one (xm_expr (em_meth (em_var f3) (mm_extend h0) (ems_cons (em_call em_val (ems_cons (em_var f1) ems_nil) e) ems_nil) (cm_bi (im_extend h1 h2 hv hu))))
noncomputable def tst653 : ME := .cmp (.gt) (.call (.val (.bi "len")) [.sub (.var "own") (.str "aside")]) (.var "mark")
theorem asOf_cons (e : Ent) (s : List Ent) : asOf (e :: s) = asOf s ++ [.loc e.ta] := by unfold asOf; rw [List.map_cons, List.reverse_cons]
theorem asOf_len (s : List Ent) : (asOf s).length = s.length := by unfold asOf; simp
theorem asOf_nil (s : List Ent) : asOf s = [] ↔ s = [] := by unfold asOf; simp
theorem test653 (f1 : getL' "own" fr.loc = some (.loc 41)) (f2 : getL' "mark" fr.loc = some (.int m)) (h1 : σ.obj 41 = some (ownO rl h)) (h2 : σ.obj 40 = some (.list as)) (ha : as.length < 1000) : TeM X (n + 1) fr tst653 σ (decide (m < as.length)) σ := by
  have hp : decide ((as.length : Int) > (m : Int)) = decide (m < as.length) := decide_eq_decide.mpr (by lia)
  exact tm_cmp (em_call em_val (ems_cons (em_sub (em_var f1) em_str (rm_key (dkS X.w) h1 (k := Str.ofString "aside") (find_at (j := 1) rfl (by kernel_rfl)))) ems_nil) (cm_bi (im_len h2 ha))) (em_var f2) (km_int (congrArg some hp))
theorem left_loop (q : List Ent) : ∀ (p : List Ent) (fuel : Nat), p.length < fuel → ∀ (look : Nat → Option Cell) (row : List (Int × MV)) (gs : List Int) (rl : Nat) (fr : MF) (σ : MS),
    getL' "own" fr.loc = some (.loc 41) → getL' "mark" fr.loc = some (.int m) → getL' "gone" fr.loc = some (.loc g) → StackOk look (p ++ q) → RowRep row look → (h = false → p ++ q = [] → look = noneL) → q.length ≤ m → (p ≠ [] → q.length = m) → p.length + q.length < 60 → gs.length + 4 * p.length < 500 →
    Led σ ((41, ownO rl h) :: (40, .list (asOf (p ++ q))) :: (rl, .dI row) :: (g, .list (gs.map .int)) :: ((p ++ q).map tA ++ R)) → ∀ (P_ : Prop), (∀ fr' σ' row' rl' gs', (WhM X (n + 2) tst653 (wa653 ++ wb653) fuel fr σ .next fr' σ') → (getL' "gone" fr'.loc = some (.loc g)) → (RowRep row' (endL h q (undoL look p))) → ((∀ f, cnt f gs' = cnt f gs + cnt f ((popC look p).flatMap vn) + cnt f ((swpC h q (undoL look p)).flatMap vn))) → (Led σ' ((41, ownO rl' h) :: (40, .list (asOf q)) :: (rl', .dI row') :: (g, .list (gs'.map .int)) :: (q.map tA ++ R))) → P_) → P_
  | _, 0, hf, _, _, _, _, _, _, _, _, _, _, _, _, _, _, _, _, _, _, K_ => absurd hf (Nat.not_lt_zero _)
  | [], fu + 1, hf, look, row, gs, rl, fr, σ, f1, f2, f3, hs, hR, hd, hq1, hq2, hl, hg, H, _, K_ => by
    refine K_ fr σ row rl gs ?_ f3 ?_ (fun f => ?_) H
    · have := test653 (X := X) (n := n + 1) f1 f2 (H.get 0 rfl) (H.get 1 rfl) (by rw [asOf_len]; simp at hl ⊢; lia)
      rw [decide_eq_false (by rw [asOf_len]; simp; lia)] at this
      exact .stop this
    · unfold endL undoL
      split
      · rename_i w
        rw [← hd w.1 w.2]; exact hR
      · exact hR
    · unfold swpC undoL popC
      split
      · rename_i w
        rw [hd w.1 w.2]; rfl
      · rfl
  | e :: p, fu + 1, hf, look, row, gs, rl, fr, σ, f1, f2, f3, hs, hR, hd, hq1, hq2, hl, hg, H, _, K_ => by
    obtain ⟨hk, hx, hs⟩ := hs
    obtain ⟨c, hx⟩ := Option.isSome_iff_exists.mp hx
    have hl' : (e :: p).length = p.length + 1 := rfl
    rw [hl'] at hl hg hf
    have ht := test653 (X := X) (n := n + 1) f1 f2 (H.get 0 rfl) (H.get 1 rfl) (by rw [asOf_len, List.length_append]; simp; lia)
    rw [decide_eq_true (by rw [asOf_len, List.length_append, hl', hq2 (by simp)]; lia)] at ht
    have hap : asOf (e :: p ++ q) = asOf (p ++ q) ++ [.loc e.ta] := asOf_cons e (p ++ q)
    rw [hap] at H
    refine left_a (X := X) (n := n) (R := (p ++ q).map tA ++ R) (ta := e.ta) (old := e.old) (h := h) (gs := gs) (rl := rl) (as := asOf (p ++ q)) f1 f3 (hR.find hk hx) hR.len (by rw [asOf_len, List.length_append]; lia) (by lia) (H.perm (permC fun f => by simp only [List.cons_append, List.map_cons, tA, cnt_app, cnt_cons, cnt_nil]; lia)) ?_
    intro σ1 e1 H1
    have hR1 := hR.undo (old := e.old) hk
    have hvl : (vnums c.v).length ≤ 1 := by cases c.v <;> simp [vnums]
    have g1 : getL' "own" (f653 e.k e.old fr).loc = some (.loc 41) := by simp [f653, getL_setL, f1]
    have g2 : getL' "mark" (f653 e.k e.old fr).loc = some (.int m) := by simp [f653, getL_setL, f2]
    have g3 : getL' "gone" (f653 e.k e.old fr).loc = some (.loc g) := by simp [f653, getL_setL, f3]
    have hsw : ∃ (τ : MS) (sg rl' : Nat) (is : List Int) (row' : List (Int × MV)), CaM X (n + 2) (.top 646) [.loc 41] [] σ1 (.loc sg) τ ∧ is.length ≤ 3 ∧ RowRep row' (endL h (p ++ q) (upd look e.k e.old)) ∧ (∀ f, cnt f is = cnt f ((swpC h (p ++ q) (upd look e.k e.old)).flatMap vn)) ∧
        Led τ ((sg, .list (is.map .int)) :: (41, ownO rl' h) :: (40, .list (asOf (p ++ q))) :: (rl', .dI row') :: (g, .list ((gs ++ vnums c.v).map .int)) :: ((p ++ q).map tA ++ R)) := by
      cases h with
      | true =>
        refine swept_held (X := X) (n := n) (H1.less (X := [(e.ta, tupA e.k e.old)]) (B := [(41, ownO rl true)] ++ ((40, .list (asOf (p ++ q))) :: (rl, .dI (rowU row e.k e.old)) :: (g, .list ((gs ++ vnums c.v).map .int)) :: ((p ++ q).map tA ++ R))) fun f => by simp only [cnt_app, cnt_cons, cnt_nil]; lia) ?_
        intro τ sg e2 H2
        exact ⟨τ, sg, rl, [], _, e2, by simp, by unfold endL; rw [if_neg (by simp)]; exact hR1, fun f => by unfold swpC; rw [if_neg (by simp)]; rfl, H2⟩
      | false =>
        by_cases w : p ++ q = []
        · refine swept_out (X := X) (n := n) (rl := rl) hR1.nd (by have := hR1.len; lia) hR1.ok (R := (g, .list ((gs ++ vnums c.v).map .int)) :: ((p ++ q).map tA ++ R)) (H1.less (X := [(e.ta, tupA e.k e.old)]) fun f => by rw [(asOf_nil _).mpr w]; simp only [cnt_app, cnt_cons, cnt_nil]; lia) ?_
          intro τ sg rl' e2 H2
          refine ⟨τ, sg, rl', sweptI (rowU row e.k e.old), [], e2, ?_, by unfold endL; rw [if_pos ⟨rfl, w⟩]; exact rowRep_nil, fun f => by unfold swpC; rw [if_pos ⟨rfl, w⟩]; exact hR1.swept f, by rw [(asOf_nil _).mpr w]; exact H2⟩
          exact Nat.le_trans (List.length_filterMap_le _ _) hR1.len
        · refine swept_aside (X := X) (n := n) (as := asOf (p ++ q)) (rl := rl) (by rw [asOf_len, List.length_append]; lia) (fun h => w ((asOf_nil _).mp h)) (R := (rl, .dI (rowU row e.k e.old)) :: (g, .list ((gs ++ vnums c.v).map .int)) :: ((p ++ q).map tA ++ R)) (H1.less (X := [(e.ta, tupA e.k e.old)]) fun f => by simp only [cnt_app, cnt_cons, cnt_nil]; lia) ?_
          intro τ sg e2 H2
          exact ⟨τ, sg, rl, [], _, e2, by simp, by unfold endL; rw [if_neg (fun h => w h.2)]; exact hR1, fun f => by unfold swpC; rw [if_neg (fun h => w h.2)]; rfl, H2⟩
    obtain ⟨τ, sg, rl', is, row', e2, hi, hR2, hc2, H2⟩ := hsw
    have hne : ¬ g = sg := H2.ne (i := 4) (j := 0) rfl rfl (by decide)
    have e3 := ext_ (X := X) (n := n + 1) e2 g1 g3 (H1.get 4 rfl) (H2.get 4 rfl) (H2.get 0 rfl) hne (by simp; lia) (by rw [List.length_map]; lia)
    rw [← List.map_append] at e3
    have H3 := (H2.set 4 rfl (.list ((gs ++ vnums c.v ++ is).map .int))).tail
    have hd2 : h = false → p ++ q = [] → endL h (p ++ q) (upd look e.k e.old) = noneL := fun a b => by unfold endL; rw [if_pos ⟨a, b⟩]
    have hs2 : StackOk (endL h (p ++ q) (upd look e.k e.old)) (p ++ q) := by
      unfold endL; split
      · rename_i w; rw [w.2]; trivial
      · exact hs
    refine left_loop q p fu (by lia) _ row' (gs ++ vnums c.v ++ is) rl' (f653 e.k e.old fr) _ g1 g2 g3 hs2 hR2 hd2 hq1 (fun _ => hq2 (by simp)) (by lia) (by simp; lia) H3 _ ?_
    intro fr' σ' row3 rl3 gs3 e4 f4 hR3 hc3 H4
    refine K_ fr' σ' row3 rl3 gs3 ?_ f4 ?_ ?_ H4
    · exact .more ht (xms_app e1 e3) e4
    · by_cases w : p ++ q = []
      · obtain ⟨rfl, rfl⟩ := List.append_eq_nil_iff.mp w
        simp only [undoL, endL] at hR3 ⊢
        cases h <;> simpa using hR3
      · rw [show endL h (p ++ q) (upd look e.k e.old) = upd look e.k e.old from if_neg fun h => w h.2] at hR3
        exact hR3
    · intro f
      rw [hc3, cnt_app, cnt_app, hc2]
      by_cases w : p ++ q = []
      · obtain ⟨rfl, rfl⟩ := List.append_eq_nil_iff.mp w
        simp only [popC, undoL, hx, Option.toList, List.append_nil, List.flatMap_cons, List.flatMap_nil, cnt_app, cnt_nil]
        unfold swpC endL
        cases h
        · simp [vn, cells3, noneL, cnt]
        · simp [vn, cnt]
      · rw [show endL h (p ++ q) (upd look e.k e.old) = upd look e.k e.old from if_neg fun h => w h.2, show swpC h (p ++ q) (upd look e.k e.old) = [] from if_neg fun h => w h.2]
        simp only [popC, undoL, hx, Option.toList, List.flatMap_append, List.flatMap_cons, List.flatMap_nil, cnt_app, cnt_nil]
        simp only [vn]; lia
theorem left_ {p q : List Ent} (hs : StackOk look (p ++ q)) (hR : RowRep row look) (hd : h = false → p ++ q = [] → look = noneL) (hq1 : q.length ≤ m) (hq2 : p ≠ [] → q.length = m) (hl : p.length + q.length < 59)
    (H : Led σ ((41, ownO rl h) :: (40, .list (asOf (p ++ q))) :: (rl, .dI row) :: ((p ++ q).map tA ++ R))) {P_ : Prop} (K_ : ∀ σ' g row' rl' gs', (CaM X (n + 3) (.top 653) [.loc 41, .int m] [] σ (.loc g) σ') → (RowRep row' (endL h q (undoL look p))) → ((∀ f, cnt f gs' = cnt f ((popC look p).flatMap vn) + cnt f ((swpC h q (undoL look p)).flatMap vn))) → (Led σ' ((g, .list (gs'.map .int)) :: (41, ownO rl' h) :: (40, .list (asOf q)) :: (rl', .dI row') :: (q.map tA ++ R))) → P_) : P_ := by
  have H1 := H.new (.list [])
  refine left_loop (X := X) (n := n) (g := σ.next) (h := h) (m := m) (R := R) q p 60 (by lia) look row [] rl ⟨[("own", .loc 41), ("mark", .int m), ("gone", .loc σ.next)], [], false⟩ (σ.new (.list [])) rfl rfl rfl hs hR hd hq1 hq2 (by lia) (by simp; lia)
    (H1.perm (by exact permR [_, _, _, _] [_, _] (.c 0 (.c 1 (.c 2 (.c 3 (.a (.s 0) (.s 1)))))) (.c 1 (.c 2 (.c 3 (.c 0 (.a (.s 0) (.s 1)))))) rfl)) _ ?_
  intro fr' σ' row' rl' gs' e f hR' hc H'
  refine K_ σ' σ.next row' rl' gs' ?_ hR' (fun f => by rw [hc]; simp [cnt]) (H'.perm (by exact permR [_, _, _, _] [_, _] (.c 0 (.c 1 (.c 2 (.c 3 (.a (.s 0) (.s 1)))))) (.c 3 (.c 0 (.c 1 (.c 2 (.a (.s 0) (.s 1)))))) rfl))
  exact cm_top rfl (fm_fn rfl rfl rfl rfl (fl := .ret (.loc σ.next)) (xms_cons (xm_asg rfl (em_list ems_nil (by decide)) sm_var) (xms_cons (xm_whl e) (xms_one (xm_ret (em_var f))))))
end Mine
end
section
namespace Mine
open PySem
variable {X : Wb} {σ : MS} {R : List (Nat × MO)} {n k a rl g sg ta m h : Nat} {L : Int} {z it tb tl wk : Nat} {zs svs as us vs : List MV} {C : Thg} {look : Nat → Option Cell} {x c : Cell} {o old : Option Cell} {row : List (Int × MV)} {gs : List Int} {fr : MF} {D : List Dead}
noncomputable def tS (hh : Bool) (e : Ent) : List (Nat × MO) := (e.tl, tupS hh e.k (cellV e.old)) :: e.old.toList.flatMap (·.foot 1)
noncomputable def thingL (C : Thg) (c : Nat) : List (Nat × MO) := if c = 0 then [] else C.foot c
noncomputable def tst443 : ME := .cmp (.gt) (.call (.val (.bi "len")) [.attr (.var "run") "saves"]) (.var "mark")
noncomputable def w443 : List MSt := [.asg (.var "save") (.meth (.attr (.var "run") "saves") "pop" []),
    .expr (.call (.sub (.val (.top 436)) (.sub (.var "save") (.int 0))) [.var "run", .var "save"])]
theorem svOf_cons (e : Ent) (s : List Ent) : svOf (e :: s) = svOf s ++ [.loc e.tl] := by unfold svOf; rw [List.map_cons, List.reverse_cons]
theorem svOf_len (s : List Ent) : (svOf s).length = s.length := by unfold svOf; simp
theorem test443 (f1 : getL' "run" fr.loc = some (.loc 22)) (f2 : getL' "mark" fr.loc = some (.int m)) (h1 : σ.obj 22 = some runO) (h2 : σ.obj 30 = some (.list svs)) (ha : svs.length < 1000) : TeM X (n + 1) fr tst443 σ (decide (m < svs.length)) σ := by
  have hp : decide ((svs.length : Int) > (m : Int)) = decide (m < svs.length) := decide_eq_decide.mpr (by lia)
  exact tm_cmp (em_call em_val (ems_cons (em_attr (em_var f1) (am_get X.b.toBs h1 rfl rfl rfl)) ems_nil) (cm_bi (im_len h2 ha))) (em_var f2) (km_int (congrArg some hp))
theorem pop443 (f1 : getL' "run" fr.loc = some (.loc 22)) (h1 : σ.obj 22 = some runO) (h2 : σ.obj 30 = some (.list (svs ++ [.loc tl]))) (ha : svs.length + 1 < 1000) :
    ExM X (n + 1) (.asg (.var "save") (.meth (.attr (.var "run") "saves") "pop" [])) fr σ .next ⟨setL "save" (.loc tl) fr.loc, fr.cel, fr.law⟩ (σ.put 30 (.list svs)) := by
  exact xm_asg rfl (em_meth (em_attr (em_var f1) (am_get X.b.toBs h1 rfl rfl rfl)) (mm_pop h2) ems_nil (cm_bi (im_pop h2 ha))) sm_var
theorem go443 {hh : Bool} {τ : MS} (f1 : getL' "run" fr.loc = some (.loc 22)) (f2 : getL' "save" fr.loc = some (.loc tl)) (h2 : σ.obj tl = some (tupS hh k (cellV o))) (e : CaM X (n + 1) (.top (undF hh)) [.loc 22, .loc tl] [] σ .none τ) :
    ExM X (n + 1) (.expr (.call (.sub (.val (.top 436)) (.sub (.var "save") (.int 0))) [.var "run", .var "save"])) fr σ .next fr τ := by
  cases hh
  · exact xm_expr (em_call (em_sub em_val (em_sub (em_var f2) em_int (rm_tup (k := 0) h2 (Nat.le_of_ble_eq_true rfl) rfl)) (rm_und1 X.b.toBs)) (ems_cons (em_var f1) (ems_cons (em_var f2) ems_nil)) e)
  · exact xm_expr (em_call (em_sub em_val (em_sub (em_var f2) em_int (rm_tup (k := 0) h2 (Nat.le_of_ble_eq_true rfl) rfl)) (rm_und2 X.b.toBs)) (ems_cons (em_var f1) (ems_cons (em_var f2) ems_nil)) e)
noncomputable def locs (D : List Dead) : List MV := D.map fun d => .loc d.loc
noncomputable def endD (h : Nat) (p q : List Ent) (C : Thg) : List Dead := if p ≠ [] ∧ h + q.length = 0 then [C.dead] else []
theorem leave_loop (q : List Ent) : ∀ (p : List Ent) (fuel : Nat), p.length < fuel → ∀ (look : Nat → Option Cell) (C : Thg) (D : List Dead) (fr : MF) (σ : MS),
    getL' "run" fr.loc = some (.loc 22) → getL' "mark" fr.loc = some (.int m) → StackOk look (p ++ q) → Rep C look → q.length ≤ m → (p ≠ [] → q.length = m) → p.length + q.length < 60 → D.length + 2 * p.length < 500 →
    Led σ ((22, runO) :: (19, cntO) :: (12, heapO L z) :: (30, .list (svOf (p ++ q))) :: (z, .list (locs D)) :: (thingL C (h + (p ++ q).length) ++ ((p ++ q).flatMap (tS C.isH) ++ (D.flatMap (·.foot false) ++ R)))) → ∀ (P_ : Prop), (∀ fr' σ' C' D', (WhM X (n + 6) tst443 w443 fuel fr σ .next fr' σ') → (C'.isH = C.isH) → (Rep C' (undoL look p)) → ((p = [] → C' = C)) → (D' = D ++ ((popC look p).map .S ++ endD h p q C')) → (Led σ' ((22, runO) :: (19, cntO) :: (12, heapO L z) :: (30, .list (svOf q)) :: (z, .list (locs D')) :: (thingL C' (h + q.length) ++ (q.flatMap (tS C.isH) ++ (D'.flatMap (·.foot false) ++ R))))) → P_) → P_
  | _, 0, hf, _, _, _, _, _, _, _, _, _, _, _, _, _, _, _, K_ => absurd hf (Nat.not_lt_zero _)
  | [], fu + 1, hf, look, C, D, fr, σ, f1, f2, hs, hR, hq1, hq2, hl, hg, H, _, K_ => by
    refine K_ fr σ C D ?_ rfl hR (fun _ => rfl) (by simp [popC, endD]) H
    have := test443 (X := X) (n := n + 5) f1 f2 (H.get 0 rfl) (H.get 3 rfl) (by rw [svOf_len]; simp at hl ⊢; lia)
    rw [decide_eq_false (by rw [svOf_len]; simp; lia)] at this
    exact .stop this
  | e :: p, fu + 1, hf, look, C, D, fr, σ, f1, f2, hs, hR, hq1, hq2, hl, hg, H, _, K_ => by
    obtain ⟨hk, hx, hs⟩ := hs
    obtain ⟨c, hx⟩ := Option.isSome_iff_exists.mp hx
    have hl' : (e :: p).length = p.length + 1 := rfl
    have hlp : (e :: p ++ q).length = (p ++ q).length + 1 := rfl
    have hpq : (p ++ q).length = p.length + q.length := List.length_append
    rw [hl'] at hl hg hf
    have ht := test443 (X := X) (n := n + 5) f1 f2 (H.get 0 rfl) (H.get 3 rfl) (by rw [svOf_len, List.length_append]; simp; lia)
    rw [decide_eq_true (by rw [svOf_len, List.length_append, hl', hq2 (by simp)]; lia)] at ht
    have hap : svOf (e :: p ++ q) = svOf (p ++ q) ++ [.loc e.tl] := svOf_cons e (p ++ q)
    rw [hap] at H
    have e1 := pop443 (X := X) (n := n + 5) f1 (H.get 0 rfl) (H.get 3 rfl) (by rw [svOf_len]; lia)
    have H1 := H.set 3 rfl (.list (svOf (p ++ q)))
    rw [show thingL C (h + (e :: p ++ q).length) = C.foot ((h + (e :: p ++ q).length : Nat) : Int) from if_neg (by rw [hlp]; lia)] at H1
    refine undo_ (X := X) (n := n) (L := L) (z := z) (c := ((h + (e :: p ++ q).length : Nat) : Int)) (C := C) (tl := e.tl) (o := e.old) (zs := locs D) (R := (30, .list (svOf (p ++ q))) :: ((p ++ q).flatMap (tS C.isH) ++ (D.flatMap (·.foot false) ++ R))) hk hR hx (by unfold locs; rw [List.length_map]; lia)
      (H1.perm (permC fun f => by
        rw [show (e :: p ++ q).flatMap (tS C.isH) = tS C.isH e ++ (p ++ q).flatMap (tS C.isH) from rfl]
        simp only [tS, List.set_cons_succ, List.set_cons_zero, cnt_app, cnt_cons, cnt_nil]; lia)) ?_
    intro τ C1 e2 hH1 hR1 H2
    have g1 : getL' "run" (setL "save" (.loc e.tl) fr.loc) = some (.loc 22) := by simp [getL_setL, f1]
    have g2 : getL' "mark" (setL "save" (.loc e.tl) fr.loc) = some (.int m) := by simp [getL_setL, f2]
    have e3 := go443 (X := X) (n := n + 5) (fr := ⟨setL "save" (.loc e.tl) fr.loc, fr.cel, fr.law⟩) (hh := C.isH) (k := e.k) (o := e.old) g1 (by simp [getL_setL]) (H1.at_ (e.tl, tupS C.isH e.k (cellV e.old)) (by
        rw [show (e :: p ++ q).flatMap (tS C.isH) = tS C.isH e ++ (p ++ q).flatMap (tS C.isH) from rfl]
        simp [tS])) e2
    let D1 : List Dead := D ++ (.S c :: (if h + (p ++ q).length = 0 then [C1.dead] else []))
    have hlo : locs D ++ (.loc c.s :: if ((h + (e :: p ++ q).length : Nat) : Int) = 1 then [MV.loc 33] else []) = locs D1 := by
      unfold locs
      rw [List.map_append, List.map_cons]
      congr 2
      by_cases w : h + (p ++ q).length = 0
      · rw [if_pos w, if_pos (by rw [hlp]; lia)]; simp [dead_loc]
      · rw [if_neg w, if_neg (by rw [hlp]; lia)]; rfl
    rw [hlo] at H2
    have H3 : Led τ ((22, runO) :: (19, cntO) :: (12, heapO L z) :: (30, .list (svOf (p ++ q))) :: (z, .list (locs D1)) :: (thingL C1 (h + (p ++ q).length) ++ ((p ++ q).flatMap (tS C1.isH) ++ (D1.flatMap (·.foot false) ++ R)))) := by
      refine H2.perm (permC fun f => ?_)
      have hc : ((h + (e :: p ++ q).length : Nat) : Int) - 1 = ((h + (p ++ q).length : Nat) : Int) := by rw [hlp]; lia
      rw [hc, hH1]
      simp only [thingL, D1]
      have q1 : (Dead.S c).foot false = c.foot 0 := rfl
      by_cases w : h + (p ++ q).length = 0
      · rw [if_pos w, if_pos w, w]
        simp only [List.flatMap_append, List.flatMap_cons, List.flatMap_nil, q1, dead_foot, cnt_app, cnt_cons, cnt_nil]
        simp only [Int.ofNat_zero, Int.natCast_zero]
        lia
      · rw [if_neg w, if_neg w]
        simp only [List.flatMap_append, List.flatMap_cons, List.flatMap_nil, q1, cnt_app, cnt_cons, cnt_nil]
        lia
    refine leave_loop q p fu (by lia) (upd look e.k e.old) C1 D1 ⟨setL "save" (.loc e.tl) fr.loc, fr.cel, fr.law⟩ τ g1 g2 hs hR1 hq1 (fun _ => hq2 (by simp)) (by lia)
      (by simp only [D1, List.length_append, List.length_cons]; split <;> simp <;> lia) H3 _ ?_
    intro fr' σ' C' D' e4 hH2 hR2 hC2 hD H4
    refine K_ fr' σ' C' D' ?_ (hH2.trans hH1) hR2 (fun w => absurd w (by simp)) ?_ (by rw [← hH1]; exact H4)
    · exact .more ht (xms_cons e1 (xms_one e3)) e4
    · rw [hD]
      simp only [D1, popC, hx, Option.toList, List.map_append, List.map_cons, List.map_nil, List.append_assoc, List.cons_append, List.nil_append, hpq]
      congr 2
      cases p with
      | nil =>
        rw [hC2 rfl]
        simp [popC, endD]
      | cons a p =>
        have w : ¬ (h + ((a :: p).length + q.length) = 0) := by simp
        rw [if_neg w, List.nil_append]
        simp [endD]
theorem leave_ {p q : List Ent} (hs : StackOk look (p ++ q)) (hR : Rep C look) (hq1 : q.length ≤ m) (hq2 : p ≠ [] → q.length = m) (hl : p.length + q.length < 59) (hD : D.length < 300)
    (H : Led σ ((22, runO) :: (19, cntO) :: (12, heapO L z) :: (30, .list (svOf (p ++ q))) :: (z, .list (locs D)) :: (thingL C (h + (p ++ q).length) ++ ((p ++ q).flatMap (tS C.isH) ++ (D.flatMap (·.foot false) ++ R))))) {P_ : Prop} (K_ : ∀ σ' C' D', (CaM X (n + 7) (.top 443) [.loc 22, .int m] [] σ .none σ') → (C'.isH = C.isH) → (Rep C' (undoL look p)) → (D' = D ++ ((popC look p).map .S ++ endD h p q C')) → (Led σ' ((22, runO) :: (19, cntO) :: (12, heapO L z) :: (30, .list (svOf q)) :: (z, .list (locs D')) :: (thingL C' (h + q.length) ++ (q.flatMap (tS C.isH) ++ (D'.flatMap (·.foot false) ++ R))))) → P_) : P_ := by
  refine leave_loop (X := X) (n := n) (h := h) (m := m) (R := R) (L := L) (z := z) q p 60 (by lia) look C D ⟨[("run", .loc 22), ("mark", .int m)], [], false⟩ σ rfl rfl hs hR hq1 hq2 (by lia) (by lia) H _ ?_
  intro fr' σ' C' D' e hH hR' _ hD' H'
  refine K_ σ' C' D' ?_ hH hR' hD' H'
  exact cm_top rfl (fm_fn rfl rfl rfl rfl (fl := .next) (xms_one (xm_whl e)))
end Mine
end
section
set_option maxRecDepth 100000
set_option maxHeartbeats 4000000
namespace Mine
open PySem
variable {X : Wb} {σ σ1 σ2 σ3 : MS} {R : List (Nat × MO)} {n k a rl g r s : Nat} {L i : Int} {z it tb tl wk : Nat} {zs svs as us vs : List MV} {C : Thg} {look : Nat → Option Cell} {x c : Cell} {o old : Option Cell} {row : List (Int × MV)} {ts du : List Int} {fr : MF} {D : List Dead} {h : Bool}
noncomputable abbrev fPut : MO := .fn 2 [("due", 1), ("elem", 2), ("own", 5), ("run", 6), ("told", 8)]
noncomputable def putCs : List (String × Nat) := [("due", 1), ("elem", 2), ("own", 5), ("run", 6), ("told", 8)]
noncomputable def pa : List MSt := b_put.take 1
noncomputable def pb : List MSt := b_put.drop 1
theorem put_split : b_put = pa ++ pb := rfl
theorem put_a (h6 : σ.obj 6 = some (.cell (some (.loc 22)))) (h22 : σ.obj 22 = some runO) (h19 : σ.obj 19 = some cntO) (h2 : σ.obj 2 = some (.cell (some (.loc 43)))) (e1 : CaM X (n + 1) (.loc 43) [.int k] [] σ (.loc s) σ1)
    (h6' : σ1.obj 6 = some (.cell (some (.loc 22)))) (h8 : σ1.obj 8 = some (.cell (some (.loc 15)))) (e2 : CaM X (n + 1) (.top 641) [.loc 22, .loc 15] [] σ1 (.loc r) σ2) (e3 : CaM X (n + 1) (.top 542) [.loc 19, .loc s, .loc r] [] σ2 .none σ3) :
    ExsM X (n + 1) pa ⟨[("key", .int k)], putCs, false⟩ σ .next ⟨[("key", .int k)], putCs, false⟩ σ3 := by
  exact xms_one (xm_expr (em_meth (em_attr (em_cel rfl h6) (am_get X.b.toBs h22 rfl rfl rfl)) (mm_inst X.b.toBs h19 rfl rfl) (ems_cons (em_call (em_cel rfl h2) (ems_cons (em_var rfl) ems_nil) e1) (ems_cons (em_call em_val (ems_cons (em_cel rfl h6') (ems_cons (em_cel rfl h8) ems_nil)) e2) ems_nil)) e3))
local macro_rules | `(tactic| top_argsB) => altsOf "r_last:laa"
theorem put_b1 (hf : row.find? (fun e => decide (e.1 = (k : Int))) = none) (hr : row.length ≤ 3) (ht : ts.length < 900) (H : Led σ ([(5, .cell (some (.loc 41))), (8, .cell (some (.loc 15))), (41, ownO rl h), (15, .list (ts.map .int ++ [.int i])), (rl, .dI row)] ++ R)) {P_ : Prop} (K_ : ∀ σ', (ExsM X (n + 1) pb ⟨[("key", .int k)], putCs, false⟩ σ .next ⟨[("key", .int k)], putCs, false⟩ σ') → (Led σ' ([(5, .cell (some (.loc 41))), (8, .cell (some (.loc 15))), (41, ownO rl h), (15, .list (ts.map .int ++ [.int i])), (rl, .dI (row ++ [(κI k, .int i)]))] ++ R)) → P_) : P_ := by
  have h7 : row.any (fun e => decide (e.1 = (k : Int))) = false := by
    rw [List.any_eq_false]; intro e he; rw [List.find?_eq_none] at hf; exact hf e he
  have hl : (ts.map MV.int ++ [MV.int i]).length < 1000 := by simp; lia
  have hp : ((ts.map MV.int ++ [MV.int i]).getLast?) = some (.int i) := List.getLast?_concat ..
  exact run_ex X (n + 1) pb ⟨[("key", .int k)], putCs, false⟩ H _ _ _ (by one_item) (by exact fun e h => K_ _ e h)
theorem put_b2 (hf : row.find? (fun e => decide (e.1 = (k : Int))) = some ((k : Int), .none)) (hr : row.length ≤ 3) (ht : ts.length < 900) (H : Led σ ([(5, .cell (some (.loc 41))), (8, .cell (some (.loc 15))), (41, ownO rl h), (15, .list (ts.map .int ++ [.int i])), (rl, .dI row)] ++ R)) {P_ : Prop} (K_ : ∀ σ', (ExsM X (n + 1) pb ⟨[("key", .int k)], putCs, false⟩ σ .next ⟨[("key", .int k)], putCs, false⟩ σ') → (Led σ' ([(5, .cell (some (.loc 41))), (8, .cell (some (.loc 15))), (41, ownO rl h), (15, .list (ts.map .int ++ [.int i])), (rl, .dI (setK κI row k (.int i)))] ++ R)) → P_) : P_ := by
  have h7 : row.any (fun e => decide (e.1 = (k : Int))) = true := by
    rw [List.any_eq_true]; exact ⟨_, List.mem_of_find?_eq_some hf, by simp⟩
  have hl : (ts.map MV.int ++ [MV.int i]).length < 1000 := by simp; lia
  have hp : ((ts.map MV.int ++ [MV.int i]).getLast?) = some (.int i) := List.getLast?_concat ..
  exact run_ex X (n + 1) pb ⟨[("key", .int k)], putCs, false⟩ H _ _ _ (by one_item) (by exact fun e h => K_ _ e h)
theorem put_b3 {j : Int} (hf : row.find? (fun e => decide (e.1 = (k : Int))) = some ((k : Int), .int j)) (hr : row.length ≤ 3) (ht : ts.length < 900) (hu : us.length < 900) (H : Led σ ([(5, .cell (some (.loc 41))), (8, .cell (some (.loc 15))), (41, ownO rl h), (15, .list (ts.map .int ++ [.int i])), (rl, .dI row), (1, .cell (some (.loc 42))), (42, .list us)] ++ R)) {P_ : Prop} (K_ : ∀ σ', (ExsM X (n + 1) pb ⟨[("key", .int k)], putCs, false⟩ σ .next ⟨[("key", .int k)], putCs, false⟩ σ') → (Led σ' ([(5, .cell (some (.loc 41))), (8, .cell (some (.loc 15))), (41, ownO rl h), (15, .list (ts.map .int ++ [.int i])), (rl, .dI (setK κI row k (.int i))), (1, .cell (some (.loc 42))), (42, .list (us ++ [.int j]))] ++ R)) → P_) : P_ := by
  have h7 : row.any (fun e => decide (e.1 = (k : Int))) = true := by
    rw [List.any_eq_true]; exact ⟨_, List.mem_of_find?_eq_some hf, by simp⟩
  have hl : (ts.map MV.int ++ [MV.int i]).length < 1000 := by simp; lia
  have hp : ((ts.map MV.int ++ [MV.int i]).getLast?) = some (.int i) := List.getLast?_concat ..
  exact run_ex X (n + 1) pb ⟨[("key", .int k)], putCs, false⟩ H _ _ _ (by one_item) (by exact fun e h => K_ _ e h)
noncomputable def cdO : MO := .codes [(473, 4), (470, 4), (463, 34)]
noncomputable def fixL (h : Bool) : List (Nat × MO) := [(1, .cell (some (.loc 42))), (2, .cell (some (.loc 43))), (3, cGone), (4, .cell (some (.bool h))), (5, .cell (some (.loc 41))), (6, .cell (some (.loc 22))), (7, .cell (some (.loc 33))), (8, .cell (some (.loc 15))),
  (11, limO), (18, fGone), (19, cntO), (20, .dI []), (21, .dI []), (22, runO), (43, fElem), (44, fPut), (0, cdO)]
end Mine
end
section
set_option maxHeartbeats 4000000
namespace Mine
open PySem
variable {X : Wb} {σ σ1 σ2 σ3 : MS} {R : List (Nat × MO)} {n k a rl g r s : Nat} {L i : Int} {z it tb tl wk : Nat} {zs svs as us vs : List MV} {C : Thg} {look : Nat → Option Cell} {x c : Cell} {o old : Option Cell} {row : List (Int × MV)} {ts du : List Int} {fr : MF} {D : List Dead} {h : Bool} {cc : Int}
noncomputable def withV (x : Cell) (q : PV) : Cell := { x with v := some q }
noncomputable def arRest (pw pit : Nat) : List (String × MV) := [("blessed", pStr), ("weak", .loc pw), ("is_destroyed", .bool false), ("is_freed", .bool false), ("items", .loc pit), ("tied", .none)]
theorem arO_ob (num k : Int) (pw pit : Nat) : arO num k pStr false false pw pit = obO 117 num k (arRest pw pit) := rfl
theorem c117 : "count" ∈ attrTab 117 := by rw [at117]; decide
theorem cnt_split (hR : Rep C look) (hk : k < 3) (hx : look k = some x) (f : Nat × MO → Nat) : cnt f (C.cells.flatMap (·.foot 1)) = cnt f (x.foot 1) + cnt f ((cells3 (upd look k none)).flatMap (·.foot 1)) := by
  rw [cnt_flatMap, cnt_flatMap]
  have a := hR.cells fun a => cnt f (a.foot 1)
  have b := cells3_upd (fun a => cnt f (a.foot 1)) look hk none
  rw [hx] at b
  simp only [Option.toList, cnt_cons, cnt_nil] at b
  lia
theorem store_ (hk : k < 3) (hR : Rep C look) (hx : look k = some x) (hD : D.length < 300) {p pw pit : Nat} {pn : Int}
    (H : Led σ ((20, .dI []) :: (21, .dI []) :: (19, cntO) :: (12, heapO L z) :: (z, .list (locs D)) :: (r, refO p) :: (p, arO pn 0 pStr false false pw pit) :: (pw, .list []) :: (pit, .list []) :: (C.foot cc ++ (D.flatMap (·.foot false) ++ R)))) {P_ : Prop} (K_ : ∀ σ' C', (CaM X (n + 4) (.top 542) [.loc 19, .loc x.s, .loc r] [] σ .none σ') → (C'.isH = C.isH) → (Rep C' (upd look k (some (withV x ⟨r, p, pw, pit, pn⟩)))) → (Led σ' ((20, .dI []) :: (21, .dI []) :: (19, cntO) :: (12, heapO L z) :: (z, .list (locs (D ++ x.v.toList.map Dead.P))) :: (C'.foot cc ++ ((D ++ x.v.toList.map Dead.P).flatMap (·.foot false) ++ R)))) → P_) : P_ := by
  obtain ⟨C', h1, hR', h2, h3⟩ := hR.swap (x' := withV x ⟨r, p, pw, pit, pn⟩) hk hx rfl
  have hs := cnt_split hR hk hx
  have hs' := cnt_split hR' (x := withV x ⟨r, p, pw, pit, pn⟩) hk (by unfold upd; rw [if_pos rfl])
  rw [upd_upd] at hs'
  obtain ⟨xs, xw, xn, xv⟩ := x
  cases xv with
  | none =>
    refine store_n (X := X) (n := n + 1) (s := xs) (num := xn) (c := 1) (fr := false) (wk := xw) (r := r) (p := p) (C := 117) (pn := pn) (k := 0) (rest := arRest pw pit)
      (R := (12, heapO L z) :: (z, .list (locs D)) :: (pw, .list []) :: (pit, .list []) :: (33, C.obj cc) :: (34, .list []) :: C.tab :: (xw, .list []) :: ((cells3 (upd look k none)).flatMap (·.foot 1) ++ (D.flatMap (·.foot false) ++ R)))
      (H.perm (permC fun f => by
        have := hs f
        simp only [arO_ob, Thg.foot, Cell.foot, Cell.val, vfoot, cnt_app, cnt_cons, cnt_nil] at this ⊢; lia)) c117 (by simp [arRest]) ?_
    intro σ' e H1
    refine K_ σ' C' e h1 hR' (H1.perm (permC fun f => ?_))
    have := hs' f
    simp only [arO_ob, withV, PV.foot, h2, h3, Option.toList, List.map_nil, List.append_nil, Int.zero_add, Thg.foot, Cell.foot, Cell.val, vfoot, cnt_app, cnt_cons, cnt_nil] at this ⊢
    lia
  | some q =>
    refine store_o (X := X) (n := n) (s := xs) (num := xn) (c := 1) (fr := false) (wk := xw) (r := r) (p := p) (C := 117) (C' := 117) (pn := pn) (k := 0) (rest := arRest pw pit) (ro := q.r) (po := q.p) (pn' := q.num) (rest' := arRest q.pw q.pit) (L := L) (z := z) (zs := locs D)
      (R := (q.pw, .list []) :: (q.pit, .list []) :: (pw, .list []) :: (pit, .list []) :: (33, C.obj cc) :: (34, .list []) :: C.tab :: (xw, .list []) :: ((cells3 (upd look k none)).flatMap (·.foot 1) ++ (D.flatMap (·.foot false) ++ R)))
      (H.perm (permC fun f => by
        have := hs f
        simp only [arO_ob, PV.foot, Thg.foot, Cell.foot, Cell.val, vfoot, cnt_app, cnt_cons, cnt_nil] at this ⊢; lia)) (by unfold locs; rw [List.length_map]; lia) c117 (by simp [arRest]) c117 (by simp [arRest]) ?_
    intro σ' e H1
    refine K_ σ' C' e h1 hR' (H1.less (X := [(q.r, refO q.p)]) fun f => ?_)
    have := hs' f
    have hl : locs (D ++ [Dead.P q]) = locs D ++ [.loc q.p] := by unfold locs; rw [List.map_append]; rfl
    simp only [arO_ob, hl, withV, PV.foot, h2, h3, Dead.foot, Option.toList, List.map_cons, List.map_nil, List.flatMap_append, List.flatMap_cons, List.flatMap_nil, List.append_nil, Int.zero_add, Thg.foot, Cell.foot, Cell.val, vfoot, cnt_app, cnt_cons, cnt_nil] at this ⊢
    lia
theorem put_row (hk : k < 3) (hW : RowRep row look) {m : Int} {q : PV} (hx : (look k = some x ∧ m = 0) ∨ (look k = none ∧ x.num = L + 1 ∧ x.v = none ∧ m = 1)) (ht : ts.length < 900) (hu : du.length < 900)
    (H : Led σ ((5, .cell (some (.loc 41))) :: (8, .cell (some (.loc 15))) :: (41, ownO rl h) :: (15, .list (ts.map .int ++ [.int q.num])) :: (rl, .dI row) :: (1, .cell (some (.loc 42))) :: (42, .list (du.map .int)) :: R)) {P_ : Prop} (K_ : ∀ σ' row', (ExsM X (n + 1) pb ⟨[("key", .int k)], putCs, false⟩ σ .next ⟨[("key", .int k)], putCs, false⟩ σ') → (RowRep row' (upd look k (some (withV x q)))) → (Led σ' ((5, .cell (some (.loc 41))) :: (8, .cell (some (.loc 15))) :: (41, ownO rl h) :: (15, .list ((ts ++ [q.num]).map .int)) :: (rl, .dI row') :: (1, .cell (some (.loc 42))) :: (42, .list ((du ++ vn x).map .int)) :: R)) → P_) : P_ := by
  have hrv : rv (withV x q) = .int q.num := rfl
  have hts : (ts ++ [q.num]).map MV.int = ts.map .int ++ [.int q.num] := by rw [List.map_append]; rfl
  rcases hx with ⟨hx, _⟩ | ⟨hx, hn, hv, _⟩
  · have hf := hW.find hk hx
    obtain ⟨xs, xw, xn, xv⟩ := x
    cases xv with
    | none =>
      refine put_b2 (X := X) (n := n) (i := q.num) hf hW.len ht H ?_
      intro σ' e H1
      refine K_ σ' _ e (hW.set (c := withV ⟨xs, xw, xn, none⟩ q) hk (by rw [hx]; rfl)) ?_
      rw [hts, show vn ⟨xs, xw, xn, none⟩ = [] from rfl, List.append_nil]; exact H1
    | some q0 =>
      refine put_b3 (X := X) (n := n) (i := q.num) (us := du.map .int) hf hW.len ht (by rw [List.length_map]; exact hu) H ?_
      intro σ' e H1
      refine K_ σ' _ e (hW.set (c := withV ⟨xs, xw, xn, some q0⟩ q) hk (by rw [hx]; rfl)) ?_
      rw [hts, show vn ⟨xs, xw, xn, some q0⟩ = [q0.num] from rfl, List.map_append]; exact H1
  · have hf : row.find? (fun e => decide (e.1 = (k : Int))) = none := by
      have := hW.look k hk
      rw [hx] at this
      unfold lookL κI at this
      rwa [Option.map_none, Option.map_eq_none_iff] at this
    refine put_b1 (X := X) (n := n) (i := q.num) hf hW.len ht H ?_
    intro σ' e H1
    refine K_ σ' _ e (hW.app (c := withV x q) hk hx) ?_
    rw [hts, show vn x = [] by unfold vn; rw [hv]; rfl, List.append_nil]; exact H1
theorem put_ (hk : k < 3) (hR : Rep C look) (hW : RowRep row look) (hD : D.length < 300) (ht : ts.length < 900) (hu : du.length < 900)
    (H : Led σ (fixL C.isH ++ ((12, heapO L z) :: (z, .list (locs D)) :: (15, .list (ts.map .int)) :: (42, .list (du.map .int)) :: (41, ownO rl h) :: (rl, .dI row) :: (C.foot cc ++ (D.flatMap (·.foot false) ++ R))))) {P_ : Prop} (K_ : ∀ σ' C' row' x m q, (CaM X (n + 8) (.loc 44) [.int k] [] σ .none σ') → (C'.isH = C.isH) → (Rep C' (upd look k (some (withV x q)))) → (RowRep row' (upd look k (some (withV x q)))) → (q.num = L + m + 1) → (((look k = some x ∧ m = 0) ∨ (look k = none ∧ x.num = L + 1 ∧ x.v = none ∧ m = 1))) → (Led σ' (fixL C.isH ++ ((12, heapO (L + m + 1) z) :: (z, .list (locs (D ++ x.v.toList.map Dead.P))) :: (15, .list ((ts ++ [q.num]).map .int)) :: (42, .list ((du ++ vn x).map .int)) :: (41, ownO rl h) :: (rl, .dI row') :: (C'.foot cc ++ ((D ++ x.v.toList.map Dead.P).flatMap (·.foot false) ++ R))))) → P_) : P_ := by
  refine elem_ (X := X) (n := n) (L := L) (z := z) (c := cc) (R := [(1, .cell (some (.loc 42))), (2, .cell (some (.loc 43))), (3, cGone), (5, .cell (some (.loc 41))), (8, .cell (some (.loc 15))), (18, fGone), (20, .dI []), (21, .dI []), (44, fPut), (0, cdO)] ++ ((z, .list (locs D)) :: (15, .list (ts.map .int)) :: (42, .list (du.map .int)) :: (41, ownO rl h) :: (rl, .dI row) :: (D.flatMap (·.foot false) ++ R))) hk hR
    (H.perm (by exact permR [_, _, _, _, _, _, _, _, _, _, _, _, _, _, _, _, _, _, _, _, _, _, _] [_, _, _] (.a (.c 0 (.c 1 (.c 2 (.c 3 (.c 4 (.c 5 (.c 6 (.c 7 (.c 8 (.c 9 (.c 10 (.c 11 (.c 12 (.c 13 (.c 14 (.c 15 (.c 16 .e))))))))))))))))) (.c 17 (.c 18 (.c 19 (.c 20 (.c 21 (.c 22 (.a (.s 0) (.a (.s 1) (.s 2)))))))))) (.a (.c 14 (.c 3 (.c 5 (.c 6 (.c 13 (.c 10 (.c 8 .e))))))) (.c 17 (.a (.s 0) (.a (.c 0 (.c 1 (.c 2 (.c 4 (.c 7 (.c 9 (.c 11 (.c 12 (.c 15 (.c 16 .e)))))))))) (.c 18 (.c 19 (.c 20 (.c 21 (.c 22 (.a (.s 1) (.s 2))))))))))) rfl)) ?_
  intro σ1 x C1 m e1 hH1 hR1 H1 hx
  refine made_ (X := X) (n := n + 2) (L := L + m) (z := z) (ts := ts.map .int) (R := [(43, fElem), (4, .cell (some (.bool C.isH))), (6, .cell (some (.loc 22))), (7, .cell (some (.loc 33))), (19, cntO), (11, limO), (1, .cell (some (.loc 42))), (2, .cell (some (.loc 43))), (3, cGone), (5, .cell (some (.loc 41))), (8, .cell (some (.loc 15))), (18, fGone), (20, .dI []), (21, .dI []), (44, fPut), (0, cdO)] ++ ((z, .list (locs D)) :: (42, .list (du.map .int)) :: (41, ownO rl h) :: (rl, .dI row) :: (C1.foot cc ++ (D.flatMap (·.foot false) ++ R))))
    (H1.perm (by exact permR [_, _, _, _, _, _, _, _, _, _, _, _, _, _, _, _, _, _, _, _, _, _, _] [_, _, _] (.a (.c 0 (.c 1 (.c 2 (.c 3 (.c 4 (.c 5 (.c 6 .e))))))) (.c 7 (.a (.s 0) (.a (.c 8 (.c 9 (.c 10 (.c 11 (.c 12 (.c 13 (.c 14 (.c 15 (.c 16 (.c 17 .e)))))))))) (.c 18 (.c 19 (.c 20 (.c 21 (.c 22 (.a (.s 1) (.s 2))))))))))) (.a (.c 4 (.c 7 (.c 19 .e))) (.a (.c 0 (.c 1 (.c 2 (.c 3 (.c 5 (.c 6 (.c 8 (.c 9 (.c 10 (.c 11 (.c 12 (.c 13 (.c 14 (.c 15 (.c 16 (.c 17 .e)))))))))))))))) (.c 18 (.c 20 (.c 21 (.c 22 (.a (.s 0) (.a (.s 1) (.s 2))))))))) rfl)) (by rw [List.length_map]; lia) ?_
  intro σ2 r p pw pit e2 H2
  have hx1 : upd look k (some x) k = some x := by unfold upd; rw [if_pos rfl]
  refine store_ (X := X) (n := n + 3) (L := L + m + 1) (z := z) (pn := L + m + 1) (p := p) (pw := pw) (pit := pit) (r := r) (cc := cc) (D := D) (R := [(43, fElem), (4, .cell (some (.bool C.isH))), (6, .cell (some (.loc 22))), (7, .cell (some (.loc 33))), (11, limO), (1, .cell (some (.loc 42))), (2, .cell (some (.loc 43))), (3, cGone), (5, .cell (some (.loc 41))), (8, .cell (some (.loc 15))), (18, fGone), (44, fPut), (0, cdO), (22, runO)] ++ ((15, .list (ts.map .int ++ [.int (L + m + 1)])) :: (42, .list (du.map .int)) :: (41, ownO rl h) :: (rl, .dI row) :: R)) hk hR1 hx1 hD
    (H2.perm (by exact permR [_, _, _, _, _, _, _, _, _, _, _, _, _, _, _, _, _, _, _, _, _, _, _, _, _, _, _] [_, _, _] (.a (.c 0 (.c 1 (.c 2 (.c 3 (.c 4 (.c 5 (.c 6 .e))))))) (.a (.c 7 (.c 8 (.c 9 (.c 10 (.c 11 (.c 12 (.c 13 (.c 14 (.c 15 (.c 16 (.c 17 (.c 18 (.c 19 (.c 20 (.c 21 (.c 22 .e)))))))))))))))) (.c 23 (.c 24 (.c 25 (.c 26 (.a (.s 0) (.a (.s 1) (.s 2))))))))) (.c 19 (.c 20 (.c 11 (.c 5 (.c 23 (.c 0 (.c 3 (.c 2 (.c 1 (.a (.s 0) (.a (.s 1) (.a (.c 7 (.c 8 (.c 9 (.c 10 (.c 12 (.c 13 (.c 14 (.c 15 (.c 16 (.c 17 (.c 18 (.c 21 (.c 22 (.c 4 .e)))))))))))))) (.c 6 (.c 24 (.c 25 (.c 26 (.s 2))))))))))))))))) rfl)) ?_
  intro σ3 C2 e3 hH2 hR2 H3
  rw [upd_upd] at hR2
  refine put_row (X := X) (n := n + 6) (q := ⟨r, p, pw, pit, L + m + 1⟩) (h := h) (rl := rl) (R := [(43, fElem), (4, .cell (some (.bool C.isH))), (6, .cell (some (.loc 22))), (7, .cell (some (.loc 33))), (11, limO), (2, .cell (some (.loc 43))), (3, cGone), (18, fGone), (44, fPut), (0, cdO), (22, runO), (20, .dI []), (21, .dI []), (19, cntO), (12, heapO (L + m + 1) z), (z, .list (locs (D ++ x.v.toList.map Dead.P)))] ++ (C2.foot cc ++ ((D ++ x.v.toList.map Dead.P).flatMap (·.foot false) ++ R))) hk hW hx ht hu
    (H3.perm (by exact permR [_, _, _, _, _, _, _, _, _, _, _, _, _, _, _, _, _, _, _, _, _, _, _] [_, _, _] (.c 0 (.c 1 (.c 2 (.c 3 (.c 4 (.a (.s 0) (.a (.s 1) (.a (.c 5 (.c 6 (.c 7 (.c 8 (.c 9 (.c 10 (.c 11 (.c 12 (.c 13 (.c 14 (.c 15 (.c 16 (.c 17 (.c 18 .e)))))))))))))) (.c 19 (.c 20 (.c 21 (.c 22 (.s 2))))))))))))) (.c 13 (.c 14 (.c 21 (.c 19 (.c 22 (.c 10 (.c 20 (.a (.c 5 (.c 6 (.c 7 (.c 8 (.c 9 (.c 11 (.c 12 (.c 15 (.c 16 (.c 17 (.c 18 (.c 0 (.c 1 (.c 2 (.c 3 (.c 4 .e)))))))))))))))) (.a (.s 0) (.a (.s 1) (.s 2))))))))))) rfl)) ?_
  intro σ4 row' e4 hW' H4
  refine K_ σ4 C2 row' x m ⟨r, p, pw, pit, L + m + 1⟩ ?_ (hH2.trans hH1) hR2 hW' rfl hx (H4.perm (by exact permR [_, _, _, _, _, _, _, _, _, _, _, _, _, _, _, _, _, _, _, _, _, _, _] [_, _, _] (.c 0 (.c 1 (.c 2 (.c 3 (.c 4 (.c 5 (.c 6 (.a (.c 7 (.c 8 (.c 9 (.c 10 (.c 11 (.c 12 (.c 13 (.c 14 (.c 15 (.c 16 (.c 17 (.c 18 (.c 19 (.c 20 (.c 21 (.c 22 .e)))))))))))))))) (.a (.s 0) (.a (.s 1) (.s 2))))))))))) (.a (.c 5 (.c 12 (.c 13 (.c 8 (.c 0 (.c 9 (.c 10 (.c 1 (.c 11 (.c 14 (.c 20 (.c 18 (.c 19 (.c 17 (.c 7 (.c 15 (.c 16 .e))))))))))))))))) (.c 21 (.c 22 (.c 3 (.c 6 (.c 2 (.c 4 (.a (.s 0) (.a (.s 1) (.s 2)))))))))) rfl))
  have e5 := put_a (X := X) (n := n + 6) (H.get 5 rfl) (H.get 13 rfl) (H.get 10 rfl) (H.get 1 rfl) e1 (H1.get 2 rfl) (H1.at_ (8, _) (by simp)) e2 e3
  exact cm_loc (H.get 15 rfl) rfl rfl (fl := .next) (show ExsM X _ b_put _ _ _ _ _ from put_split ▸ xms_app e5 e4) (fun me h => by cases h)
end Mine
end
section
set_option maxHeartbeats 4000000
namespace Mine
open PySem
structure St where
  (hh held : Bool)
  look : Nat → Option Cell
  stk : List Ent
  C : Thg
  row : List (Int × MV)
  (L z rl : Nat)
  D : List Dead
  (gs ts du : List Int)
  ms : List Nat
  a : Nat
namespace St
noncomputable def hn (s : St) : Nat := if s.held then 1 else 0
noncomputable def n (s : St) : Nat := s.hn + s.stk.length
noncomputable def led (s : St) (scr : List Int) : List (Nat × MO) :=
  fixL s.hh ++ ((10, purseO s.a) :: (9, rowO scr) :: (12, heapO s.L s.z) :: (s.z, .list (locs s.D)) :: (14, .list (s.gs.map .int)) :: (15, .list (s.ts.map .int)) :: (42, .list (s.du.map .int)) ::
    (16, .list (s.ms.map fun m : Nat => MV.int (m : Int))) :: (30, .list (svOf s.stk)) :: (40, .list (asOf s.stk)) :: (41, ownO s.rl s.held) :: (s.rl, .dI s.row) :: (37, scO 2 1 false 38 (if s.held then .loc 36 else .none)) :: (36, refO 33) ::
    (thingL s.C s.n ++ (s.stk.flatMap (tS s.hh) ++ (s.stk.map tA ++ s.D.flatMap (·.foot false)))))
noncomputable def lc (s : St) : List Cell := cells3 s.look ++ s.stk.flatMap fun e => e.old.toList
noncomputable def one (n : Nat) : List Int := if n = 0 then [] else [1]
end St
noncomputable def upto : Nat → List Int
  | 0 => []
  | n + 1 => upto n ++ [((n + 1 : Nat) : Int)]
theorem upto_le : ∀ {n : Nat} {x : Int}, x ∈ upto n → x ≤ n
  | 0, _, h => by cases h
  | n + 1, x, h => by
    rcases List.mem_append.mp h with h | h
    · have := upto_le h; lia
    · simp at h; lia
theorem upto_nodup : ∀ n, (upto n).Nodup
  | 0 => List.Pairwise.nil
  | n + 1 => by
    rw [upto, List.nodup_append]
    refine ⟨upto_nodup n, by simp, fun a ha b hb e => ?_⟩
    have := upto_le ha
    simp at hb
    lia
theorem upto_len : ∀ n, (upto n).length = n
  | 0 => rfl
  | n + 1 => by rw [upto, List.length_append, upto_len n]; rfl
theorem cnt_len {α : Type} (l : List α) : cnt (fun _ => 1) l = l.length := by
  induction l with
  | nil => rfl
  | cons x l ih => rw [cnt_cons, ih, List.length_cons]; lia
structure Inv (s : St) (t : Nat) : Prop where
  isH : s.C.isH = s.hh
  rep : Rep s.C s.look
  row : RowRep s.row s.look
  stk : StackOk s.look s.stk
  out : s.held = false → s.stk = [] → s.look = noneL
  num : ∃ X, ∀ f, cnt f (St.one s.n) + cnt f (s.lc.flatMap Cell.nums) + cnt f (s.D.flatMap Dead.nums) + cnt f X = cnt f (upto s.L)
  due : ∀ f, cnt f s.du = cnt f s.gs + cnt f (s.D.flatMap Dead.all)
  told : ∀ f, cnt f s.ts = cnt f s.du + cnt f (s.lc.flatMap vn)
  dok : ∀ d ∈ s.D, d.ok
  tL : s.L ≤ 2 + 2 * t
  tt : s.ts.length ≤ t
  ts : s.stk.length ≤ t
  tm : s.ms.length ≤ t
variable {X : Wb} {s : St} {t : Nat}
theorem Inv.duLen (h : Inv s t) : s.du.length ≤ t := by
  have a := h.told fun _ => 1
  rw [cnt_len, cnt_len] at a
  have := h.tt
  lia
theorem Inv.gsLen (h : Inv s t) : s.gs.length ≤ t := by
  have a := h.due fun _ => 1
  rw [cnt_len, cnt_len] at a
  have := h.duLen
  lia
theorem Inv.dnLen (h : Inv s t) : (s.D.flatMap Dead.nums).length ≤ 2 + 2 * t := by
  obtain ⟨X, a⟩ := h.num
  have a := a fun _ => 1
  have := h.tL
  simp only [cnt_len, upto_len] at a
  lia
theorem Inv.dLen (h : Inv s t) : s.D.length ≤ 2 + 2 * t := Nat.le_trans (len_nums s.D) h.dnLen
theorem Inv.dNodup (h : Inv s t) : (s.D.flatMap Dead.nums).Nodup := by
  obtain ⟨X, a⟩ := h.num
  have p : (s.D.flatMap Dead.nums ++ (St.one s.n ++ (s.lc.flatMap Cell.nums ++ X))).Perm (upto s.L) := permC fun f => by rw [← a f]; simp only [cnt_app]; lia
  exact (List.nodup_append.mp (p.nodup_iff.mpr (upto_nodup _))).1
structure LawF (fr : MF) : Prop where
  cel : fr.cel = [("due", 1), ("elem", 2), ("gone", 3), ("is_hash", 4), ("own", 5), ("run", 6), ("thing", 7), ("told", 8)]
  purse : getL' "purse" fr.loc = some (.loc 10)
  marks : getL' "marks" fr.loc = some (.loc 16)
  led : getL' "led" fr.loc = some (.loc 37)
  put : getL' "put" fr.loc = some (.loc 44)
theorem LawF.set {fr : MF} (h : LawF fr) {x : String} (v : MV) (h1 : x ≠ "purse") (h2 : x ≠ "marks") (h3 : x ≠ "led") (h4 : x ≠ "put") : LawF ⟨setL x v fr.loc, fr.cel, fr.law⟩ :=
  ⟨h.cel, by rw [getL_setL, if_neg h1]; exact h.purse, by rw [getL_setL, if_neg h2]; exact h.marks, by rw [getL_setL, if_neg h3]; exact h.led, by rw [getL_setL, if_neg h4]; exact h.put⟩
theorem op_settle {σ : MS} {n : Nat} {scr : List Int} (ht : t ≤ 12) (hI : Inv s t) (H : Led σ (s.led scr)) {P_ : Prop} (K_ : ∀ σ' s', (CaM X (n + 5) (.top 563) [.loc 19, .int 0] [] σ .none σ') → (Led σ' (s'.led scr)) → (Inv s' t) → (s'.D = []) → (s'.hh = s.hh) → (s'.held = s.held) → (s'.stk = s.stk) → (s'.ms = s.ms) → (s'.a = s.a) → P_) : P_ := by
  have h1 := hI.dnLen
  have h2 := hI.gsLen
  refine settle_ (X := X) (n := n) (σ := σ) (L := (s.L : Int)) (z := s.z) (gs := s.gs.map .int) (ds := s.D)
    (R := [(1, .cell (some (.loc 42))), (2, .cell (some (.loc 43))), (4, .cell (some (.bool s.hh))), (5, .cell (some (.loc 41))), (6, .cell (some (.loc 22))), (7, .cell (some (.loc 33))), (8, .cell (some (.loc 15))), (11, limO), (22, runO), (43, fElem), (44, fPut), (0, cdO), (10, purseO s.a), (9, rowO scr), (15, .list (s.ts.map .int)), (42, .list (s.du.map .int)),
      (16, .list (s.ms.map fun m : Nat => MV.int (m : Int))), (30, .list (svOf s.stk)), (40, .list (asOf s.stk)), (41, ownO s.rl s.held), (s.rl, .dI s.row), (37, scO 2 1 false 38 (if s.held then .loc 36 else .none)), (36, refO 33)] ++ (thingL s.C s.n ++ (s.stk.flatMap (tS s.hh) ++ s.stk.map tA)))
    hI.dok hI.dNodup (by rw [List.length_map]; lia) (H.perm (by exact permR [_, _, _, _, _, _, _, _, _, _, _, _, _, _, _, _, _, _, _, _, _, _, _, _, _, _, _, _, _, _, _] [_, _, _, _] (.a (.c 0 (.c 1 (.c 2 (.c 3 (.c 4 (.c 5 (.c 6 (.c 7 (.c 8 (.c 9 (.c 10 (.c 11 (.c 12 (.c 13 (.c 14 (.c 15 (.c 16 .e))))))))))))))))) (.c 17 (.c 18 (.c 19 (.c 20 (.c 21 (.c 22 (.c 23 (.c 24 (.c 25 (.c 26 (.c 27 (.c 28 (.c 29 (.c 30 (.a (.s 0) (.a (.s 1) (.a (.s 2) (.s 3))))))))))))))))))) (.a (.c 10 (.c 11 (.c 12 (.c 9 (.c 2 (.c 19 (.c 20 (.c 21 .e)))))))) (.a (.s 3) (.a (.c 0 (.c 1 (.c 3 (.c 4 (.c 5 (.c 6 (.c 7 (.c 8 (.c 13 (.c 14 (.c 15 (.c 16 (.c 17 (.c 18 (.c 22 (.c 23 (.c 24 (.c 25 (.c 26 (.c 27 (.c 28 (.c 29 (.c 30 .e))))))))))))))))))))))) (.a (.s 0) (.a (.s 1) (.s 2)))))) rfl)) ?_
  intro σ' z' ns e H' hp
  rw [← List.map_append] at H'
  refine K_ σ' { s with z := z', D := [], gs := s.gs ++ ns } e (H'.perm (permC fun f => by simp only [St.led, fixL, baseL, locs, St.n, St.hn, List.map_nil, List.flatMap_nil, cnt_app, cnt_cons, cnt_nil]; lia)) ?_ rfl rfl rfl rfl rfl rfl
  obtain ⟨X, hX⟩ := hI.num
  exact ⟨hI.isH, hI.rep, hI.row, hI.stk, hI.out, ⟨X ++ s.D.flatMap Dead.nums, fun f => by
      have := hX f
      simp only [St.n, St.hn, St.lc, List.flatMap_nil, cnt_app, cnt_nil] at this ⊢; lia⟩,
    fun f => by
      have a := hI.due f
      have b := cnt_perm (f := f) hp
      simp only [List.flatMap_nil, cnt_app, cnt_nil] at a b ⊢; lia, hI.told, (fun d h => (List.not_mem_nil h).elim), hI.tL, hI.tt, hI.ts, hI.tm⟩
end Mine
end
section
set_option maxHeartbeats 4000000
namespace Mine
open PySem
variable {X : Wb} {σ : MS} {n k t : Nat} {s : St} {scr : List Int} {fr : MF}
theorem stackOk_put {c : Cell} : ∀ {st : List Ent} {look : Nat → Option Cell}, StackOk look st → StackOk (upd look k (some c)) st
  | [], _, _ => trivial
  | e :: r, look, h => by
    obtain ⟨h1, h2, h3⟩ := h
    by_cases q : e.k = k
    · refine ⟨h1, by unfold upd; rw [if_pos q]; rfl, ?_⟩
      rw [q, upd_upd, ← q]; exact h3
    · refine ⟨h1, by unfold upd; rw [if_neg q]; exact h2, ?_⟩
      rw [upd_comm _ q]; exact stackOk_put h3
theorem op_put (hk : k < 3) (ha : 0 < s.n) (ht : t ≤ 11) (hI : Inv s t) (H : Led σ (s.led scr)) {P_ : Prop} (K_ : ∀ σ' s', (CaM X (n + 8) (.loc 44) [.int k] [] σ .none σ') → (Led σ' (s'.led scr)) → (Inv s' (t + 1)) → (s'.held = s.held) → (s'.stk = s.stk) → (s'.ms = s.ms) → (s'.a = s.a) → (s'.hh = s.hh) → P_) : P_ := by
  have d1 := hI.dLen
  have d2 := hI.duLen
  have d3 := hI.tt
  have hth : thingL s.C s.n = s.C.foot (s.n : Int) := if_neg (by lia)
  refine put_ (X := X) (n := n) (L := (s.L : Int)) (z := s.z) (h := s.held) (rl := s.rl) (cc := (s.n : Int)) (ts := s.ts) (du := s.du) (D := s.D)
    (R := [(10, purseO s.a), (9, rowO scr), (14, .list (s.gs.map .int)), (16, .list (s.ms.map fun m : Nat => MV.int (m : Int))), (30, .list (svOf s.stk)), (40, .list (asOf s.stk)), (37, scO 2 1 false 38 (if s.held then .loc 36 else .none)), (36, refO 33)] ++ (s.stk.flatMap (tS s.hh) ++ s.stk.map tA))
    hk hI.rep hI.row (by lia) (by lia) (by lia) (H.perm (permC fun f => by rw [hI.isH]; simp only [St.led, fixL, hth, cnt_app, cnt_cons, cnt_nil]; lia)) ?_
  intro σ' C' row' x m q e hH hR hW hq hx H'
  have hm : (s.L : Int) + m + 1 = ((s.L + m.toNat + 1 : Nat) : Int) := by rcases hx with ⟨_, rfl⟩ | ⟨_, _, _, rfl⟩ <;> simp
  rw [hm] at H' hq
  rw [hI.isH] at H'
  refine K_ σ' { s with look := upd s.look k (some (withV x q)), C := C', row := row', L := s.L + m.toNat + 1, D := s.D ++ x.v.toList.map Dead.P, ts := s.ts ++ [q.num], du := s.du ++ vn x } e (H'.perm (permC fun f => ?_)) ?_ rfl rfl rfl rfl rfl
  · have : thingL C' s.n = C'.foot (s.n : Int) := if_neg (by lia)
    simp only [St.led, fixL, St.n, St.hn] at this ⊢
    simp only [this, cnt_app, cnt_cons, cnt_nil]; lia
  · obtain ⟨X, hX⟩ := hI.num
    have tL := hI.tL
    have hDn : ∀ f : Int → Nat, cnt f ((x.v.toList.map Dead.P).flatMap Dead.nums) = cnt f (vnums x.v) := fun f => by cases x.v <;> rfl
    have hDa : ∀ f : Int → Nat, cnt f ((x.v.toList.map Dead.P).flatMap Dead.all) = cnt f (vnums x.v) := fun f => by cases x.v <;> rfl
    have hnx : ∀ f : Int → Nat, cnt f x.nums = f x.num + cnt f (vnums x.v) := fun f => rfl
    have hny : ∀ f : Int → Nat, cnt f (withV x q).nums = f x.num + f q.num := fun f => by
      show cnt f [x.num, q.num] = _
      simp only [cnt_cons, cnt_nil]; lia
    have hvy : ∀ f : Int → Nat, cnt f (vn (withV x q)) = f q.num := fun f => by
      show cnt f [q.num] = _
      simp only [cnt_cons, cnt_nil]; lia
    refine ⟨hH.trans hI.isH, hR, hW, stackOk_put hI.stk, ?_, ⟨X, fun f => ?_⟩, fun f => ?_, fun f => ?_, fun d hd => ?_, ?_, ?_, Nat.le_succ_of_le hI.ts, Nat.le_succ_of_le hI.tm⟩
    · intro a b
      have := ha
      rw [St.n, St.hn] at this
      simp only at a b
      rw [a, b] at this; cases this
    · have := hX f
      have c3 := cells3_upd (fun c => cnt f c.nums) s.look hk (some (withV x q))
      simp only [St.n, St.hn, St.lc, List.flatMap_append, cnt_app, cnt_flatMap f Cell.nums, hDn] at this ⊢
      rcases hx with ⟨hx, hm0⟩ | ⟨hx, hx1, hx2, hm1⟩
      · rw [hx] at c3
        subst hm0
        simp only [Option.toList, cnt_cons, cnt_nil, hnx, hny] at c3
        simp only [Int.toNat_zero, Nat.add_zero, upto, cnt_app, cnt_cons, cnt_nil] at hq ⊢
        rw [hq] at c3
        lia
      · rw [hx] at c3
        subst hm1
        simp only [Option.toList, cnt_cons, cnt_nil, hny, hx1] at c3
        simp only [Int.toNat_one, Nat.add_zero, upto, cnt_app, cnt_cons, cnt_nil] at hq ⊢
        rw [hq] at c3
        rw [hx2]
        simp only [vnums, cnt_nil]
        push_cast at c3 ⊢
        lia
    · have := hI.due f
      simp only [List.flatMap_append, cnt_app, hDa, vn] at this ⊢
      lia
    · have := hI.told f
      have c3 := cells3_upd (fun c => cnt f (vn c)) s.look hk (some (withV x q))
      simp only [St.lc, List.flatMap_append, cnt_app, cnt_flatMap f vn, cnt_cons, cnt_nil] at this ⊢
      rcases hx with ⟨hx, hm0⟩ | ⟨hx, hx1, hx2, hm1⟩
      · rw [hx] at c3
        simp only [Option.toList, cnt_cons, cnt_nil, hvy] at c3
        lia
      · rw [hx] at c3
        simp only [Option.toList, cnt_cons, cnt_nil, hvy] at c3
        rw [show vn x = [] by unfold vn; rw [hx2]; rfl]
        simp only [cnt_nil]
        lia
    · rcases List.mem_append.mp hd with hd | hd
      · exact hI.dok d hd
      · obtain ⟨p, _, rfl⟩ := List.mem_map.mp hd; trivial
    · rcases hx with ⟨_, rfl⟩ | ⟨_, _, _, rfl⟩
      · simp; lia
      · simp; lia
    · simp; lia
end Mine
end
section
set_option maxRecDepth 100000
set_option maxHeartbeats 4000000
namespace Mine
open PySem
variable {X : Wb} {σ : MS} {n k t rl : Nat} {w : Int} {s : St} {scr : List Int} {fr : MF} {R : List (Nat × MO)} {ms : List Nat} {svs as : List MV} {row : List (Int × MV)} {h : Bool} {v : MV}
noncomputable def lawCs : List (String × Nat) := [("due", 1), ("elem", 2), ("gone", 3), ("is_hash", 4), ("own", 5), ("run", 6), ("thing", 7), ("told", 8)]
noncomputable def msV (ms : List Nat) : List MV := ms.map fun m : Nat => MV.int (m : Int)
noncomputable def loc1 : MSt := .ite
         (.or
           (.cmp (.eq) (.var "way") (.int 0))
           (.cmp (.eq) (.var "marks") (.list [])))
         [.expr
            (.meth
              (.var "marks")
              "append"
              [.call (.val (.bi "len")) [.attr (.cel "run") "saves"]])]
         []
noncomputable def loc2 : List MSt := [.expr
         (.meth
           (.sub (.cel "own") (.str "aside"))
           "append"
           [.tup
              [.var "key",
               .cmp (.inn) (.var "key") (.sub (.cel "own") (.str "row")),
               .meth (.sub (.cel "own") (.str "row")) "get" [.var "key"]]]),
       .asg
         (.sub (.sub (.cel "own") (.str "row")) (.var "key"))
         (.none)]
noncomputable def loc3 : MSt := .ite
         (.cel "is_hash")
         [.expr
            (.call
              (.val (.top 351))
              [.cel "run",
               .cel "thing",
               .bin
                 (.add)
                 (.str "k")
                 (.call (.val (.typ "str")) [.var "key"])])]
         [.expr
            (.call (.val (.top 344)) [.cel "run", .cel "thing", .var "key"])]
theorem msV_app (ms : List Nat) (m : Nat) : msV ms ++ [.int (m : Int)] = msV (ms ++ [m]) := by unfold msV; rw [List.map_append]; rfl
theorem st_marks (hF : LawF fr) (hw : getL' "way" fr.loc = some (.int w)) (hm : ms.length < 900) (hs : svs.length < 900) (H : Led σ ([(16, .list (msV ms)), (30, .list svs), (22, runO), (6, .cell (some (.loc 22)))] ++ R)) {P_ : Prop} (K_ : ∀ σ' ms', (ExM X (n + 2) loc1 fr σ .next fr σ') → (ms'.length ≤ ms.length + 1) → (Led σ' ([(16, .list (msV ms')), (30, .list svs), (22, runO), (6, .cell (some (.loc 22)))] ++ R)) → P_) : P_ := by
  have f2 := hF.marks
  obtain ⟨loc, cel, law⟩ := fr
  have f1 : cel = lawCs := hF.cel
  subst f1
  have hl : (msV ms).length = ms.length := List.length_map ..
  have e1 : msV (ms ++ [svs.length]) = msV ms ++ [.int svs.length] := (msV_app ms svs.length).symm
  by_cases q : w = 0
  · subst q
    exact run_st X (n + 2) loc1 ⟨loc, lawCs, law⟩ H _ _ _ (by one_place) (by exact fun e h => K_ _ (ms ++ [svs.length]) e (by simp) (by rw [e1]; exact h))
  · have hq : (w == 0) = false := by simpa using q
    by_cases r : ms = []
    · subst r
      exact run_st X (n + 2) loc1 ⟨loc, lawCs, law⟩ H _ _ _ (by one_place) (by exact fun e h => K_ _ ([] ++ [svs.length]) e (by simp) (by rw [e1]; exact h.dropN 1))
    · have hr : (msV ms).isEmpty = false := by cases ms with
        | nil => exact absurd rfl r
        | cons => rfl
      exact run_st X (n + 2) loc1 ⟨loc, lawCs, law⟩ H _ _ _ (by one_place) (by exact fun e h => K_ _ ms e (by simp) (h.dropN 1))
theorem st_aside1 (hF : LawF fr) (hkey : getL' "key" fr.loc = some (.int k)) (hf : row.find? (fun e => decide (e.1 = (k : Int))) = none) (hr : row.length ≤ 3) (hs : as.length < 900) (H : Led σ ([(5, .cell (some (.loc 41))), (41, ownO rl h), (40, .list as), (rl, .dI row)] ++ R)) {P_ : Prop} (K_ : ∀ σ' ta, (ExsM X (n + 2) loc2 fr σ .next fr σ') → (Led σ' ([(ta, .tup [.int k, .bool false, .none]), (5, .cell (some (.loc 41))), (41, ownO rl h), (40, .list (as ++ [.loc ta])), (rl, .dI (row ++ [(κI k, .none)]))] ++ R)) → P_) : P_ := by
  obtain ⟨loc, cel, law⟩ := fr
  have f1 : cel = lawCs := hF.cel
  subst f1
  have h7 : row.any (fun e => decide (e.1 = (k : Int))) = false := by
    rw [List.any_eq_false]; intro e he; rw [List.find?_eq_none] at hf; exact hf e he
  exact run_ex X (n + 2) loc2 ⟨loc, lawCs, law⟩ H _ _ _ (by one_item) (by exact fun e h => K_ _ _ e h)
theorem st_aside2 (hF : LawF fr) (hkey : getL' "key" fr.loc = some (.int k)) (hf : row.find? (fun e => decide (e.1 = (k : Int))) = some ((k : Int), v)) (hr : row.length ≤ 3) (hs : as.length < 900) (H : Led σ ([(5, .cell (some (.loc 41))), (41, ownO rl h), (40, .list as), (rl, .dI row)] ++ R)) {P_ : Prop} (K_ : ∀ σ' ta, (ExsM X (n + 2) loc2 fr σ .next fr σ') → (Led σ' ([(ta, .tup [.int k, .bool true, v]), (5, .cell (some (.loc 41))), (41, ownO rl h), (40, .list (as ++ [.loc ta])), (rl, .dI (setK κI row k .none))] ++ R)) → P_) : P_ := by
  obtain ⟨loc, cel, law⟩ := fr
  have f1 : cel = lawCs := hF.cel
  subst f1
  have h7 : row.any (fun e => decide (e.1 = (k : Int))) = true := by
    rw [List.any_eq_true]; exact ⟨_, List.mem_of_find?_eq_some hf, by simp⟩
  exact run_ex X (n + 2) loc2 ⟨loc, lawCs, law⟩ H _ _ _ (by one_item) (by exact fun e h => K_ _ _ e h)
theorem st_localP {τ : MS} {r : Nat} (hk : k < 3) (hF : LawF fr) (hkey : getL' "key" fr.loc = some (.int k)) (h4 : σ.obj 4 = some (.cell (some (.bool h)))) (h6 : σ.obj 6 = some (.cell (some (.loc 22)))) (h7 : σ.obj 7 = some (.cell (some (.loc 33))))
    (e : CaM X (n + 2) (.top (locF h)) [.loc 22, .loc 33, keyV h k] [] σ (.loc r) τ) : ExM X (n + 2) loc3 fr σ .next fr τ := by
  have f1 := hF.cel
  have g2 := kS_2 hk
  have c4 : getL' "is_hash" fr.cel = some 4 := by rw [f1]; rfl
  have c6 : getL' "run" fr.cel = some 6 := by rw [f1]; rfl
  have c7 : getL' "thing" fr.cel = some 7 := by rw [f1]; rfl
  refine xm_ite (p := h) (tm_of (em_cel c4 h4) rfl) ?_
  cases h
  · exact xms_one (xm_expr (em_call em_val (ems_cons (em_cel c6 h6) (ems_cons (em_cel c7 h7) (ems_cons (em_var hkey) ems_nil))) e))
  · exact xms_one (xm_expr (em_call em_val (ems_cons (em_cel c6 h6) (ems_cons (em_cel c7 h7) (ems_cons (em_bin em_str (em_call em_val (ems_cons (em_var hkey) ems_nil) (cm_typ (im_str ⟨by lia, by lia⟩))) (om_addS kS_1 (kS_2 hk))) ems_nil))) e))
end Mine
end
section
set_option maxHeartbeats 4000000
namespace Mine
open PySem
local macro_rules | `(tactic| leaf_len) => ixsOf 46
variable {X : Wb} {σ : MS} {n k t rl : Nat} {w : Int} {s : St} {scr : List Int} {fr : MF} {R : List (Nat × MO)} {ms : List Nat} {svs as : List MV} {row : List (Int × MV)} {h : Bool} {v : MV} {look : Nat → Option Cell}
theorem st_aside (hk : k < 3) (hF : LawF fr) (hkey : getL' "key" fr.loc = some (.int k)) (hR : RowRep row look) (hs : as.length < 900) (H : Led σ ([(5, .cell (some (.loc 41))), (41, ownO rl h), (40, .list as), (rl, .dI row)] ++ R)) {P_ : Prop} (K_ : ∀ σ' ta row', (ExsM X (n + 2) loc2 fr σ .next fr σ') → ((∀ x : Cell, x.v = none → RowRep row' (upd look k (some x)))) → (Led σ' ([(ta, tupA k (look k)), (5, .cell (some (.loc 41))), (41, ownO rl h), (40, .list (as ++ [.loc ta])), (rl, .dI row')] ++ R)) → P_) : P_ := by
  have hrv : ∀ x : Cell, x.v = none → rv x = .none := fun x h => by unfold rv; rw [h]
  cases hx : look k with
  | none =>
    try rw [hx] at K_
    have hf : row.find? (fun e => decide (e.1 = (k : Int))) = none := by
      have := hR.look k hk
      rw [hx] at this
      unfold lookL κI at this
      rwa [Option.map_none, Option.map_eq_none_iff] at this
    refine st_aside1 (X := X) (n := n) hF hkey hf hR.len hs H ?_
    intro σ' ta e H1
    refine K_ σ' ta _ e (fun x h => ?_) H1
    have := hR.app (c := x) hk hx
    rwa [hrv x h] at this
  | some c =>
    try rw [hx] at K_
    refine st_aside2 (X := X) (n := n) hF hkey (hR.find hk hx) hR.len hs H ?_
    intro σ' ta e H1
    refine K_ σ' ta _ e (fun x h => ?_) H1
    have := hR.set (c := x) hk (by rw [hx]; rfl)
    rwa [hrv x h] at this
noncomputable def locB : List MSt := loc1 :: (loc2 ++ [loc3])
theorem op_local (hk : k < 3) (hF : LawF fr) (hw : getL' "way" fr.loc = some (.int w)) (hkey : getL' "key" fr.loc = some (.int k)) (ha : 0 < s.n) (ht : t ≤ 11) (hI : Inv s t) (H : Led σ (s.led scr)) {P_ : Prop} (K_ : ∀ σ' s', (ExsM X (n + 7) locB fr σ .next fr σ') → (Led σ' (s'.led scr)) → (Inv s' (t + 1)) → (s'.held = s.held) → (s'.a = s.a) → (s'.hh = s.hh) → (s'.D = s.D) → P_) : P_ := by
  have d1 := hI.dLen
  have d2 := hI.ts
  have d3 := hI.tm
  have hth : thingL s.C s.n = s.C.foot (s.n : Int) := if_neg (by lia)
  have hsv : (svOf s.stk).length = s.stk.length := svOf_len _
  have has : (asOf s.stk).length = s.stk.length := asOf_len _
  refine st_marks (X := X) (n := n + 5) (ms := s.ms) (svs := svOf s.stk) (R := [(1, .cell (some (.loc 42))), (2, .cell (some (.loc 43))), (3, cGone), (4, .cell (some (.bool s.hh))), (5, .cell (some (.loc 41))), (7, .cell (some (.loc 33))), (8, .cell (some (.loc 15))),
      (11, limO), (18, fGone), (19, cntO), (20, .dI []), (21, .dI []), (43, fElem), (44, fPut), (0, cdO), (10, purseO s.a), (9, rowO scr), (12, heapO s.L s.z), (s.z, .list (locs s.D)), (14, .list (s.gs.map .int)), (15, .list (s.ts.map .int)), (42, .list (s.du.map .int)),
      (40, .list (asOf s.stk)), (41, ownO s.rl s.held), (s.rl, .dI s.row), (37, scO 2 1 false 38 (if s.held then .loc 36 else .none)), (36, refO 33)] ++ (thingL s.C s.n ++ (s.stk.flatMap (tS s.hh) ++ (s.stk.map tA ++ s.D.flatMap (·.foot false))))) hF hw (by lia) (by lia)
    (H.perm (by exact permR [_, _, _, _, _, _, _, _, _, _, _, _, _, _, _, _, _, _, _, _, _, _, _, _, _, _, _, _, _, _, _] [_, _, _, _] (.a (.c 0 (.c 1 (.c 2 (.c 3 (.c 4 (.c 5 (.c 6 (.c 7 (.c 8 (.c 9 (.c 10 (.c 11 (.c 12 (.c 13 (.c 14 (.c 15 (.c 16 .e))))))))))))))))) (.c 17 (.c 18 (.c 19 (.c 20 (.c 21 (.c 22 (.c 23 (.c 24 (.c 25 (.c 26 (.c 27 (.c 28 (.c 29 (.c 30 (.a (.s 0) (.a (.s 1) (.a (.s 2) (.s 3))))))))))))))))))) (.a (.c 24 (.c 25 (.c 13 (.c 5 .e)))) (.a (.c 0 (.c 1 (.c 2 (.c 3 (.c 4 (.c 6 (.c 7 (.c 8 (.c 9 (.c 10 (.c 11 (.c 12 (.c 14 (.c 15 (.c 16 (.c 17 (.c 18 (.c 19 (.c 20 (.c 21 (.c 22 (.c 23 (.c 26 (.c 27 (.c 28 (.c 29 (.c 30 .e))))))))))))))))))))))))))) (.a (.s 0) (.a (.s 1) (.a (.s 2) (.s 3)))))) rfl)) ?_
  intro σ1 ms' e1 hm H1
  refine st_aside (X := X) (n := n + 5) (as := asOf s.stk) (rl := s.rl) (h := s.held) (R := [(1, .cell (some (.loc 42))), (2, .cell (some (.loc 43))), (3, cGone), (4, .cell (some (.bool s.hh))), (7, .cell (some (.loc 33))), (8, .cell (some (.loc 15))),
      (11, limO), (18, fGone), (19, cntO), (20, .dI []), (21, .dI []), (43, fElem), (44, fPut), (0, cdO), (10, purseO s.a), (9, rowO scr), (12, heapO s.L s.z), (s.z, .list (locs s.D)), (14, .list (s.gs.map .int)), (15, .list (s.ts.map .int)), (42, .list (s.du.map .int)),
      (16, .list (msV ms')), (30, .list (svOf s.stk)), (22, runO), (6, .cell (some (.loc 22))), (37, scO 2 1 false 38 (if s.held then .loc 36 else .none)), (36, refO 33)] ++ (thingL s.C s.n ++ (s.stk.flatMap (tS s.hh) ++ (s.stk.map tA ++ s.D.flatMap (·.foot false))))) hk hF hkey hI.row (by lia)
    (H1.perm (by exact permR [_, _, _, _, _, _, _, _, _, _, _, _, _, _, _, _, _, _, _, _, _, _, _, _, _, _, _, _, _, _, _] [_, _, _, _] (.a (.c 0 (.c 1 (.c 2 (.c 3 .e)))) (.a (.c 4 (.c 5 (.c 6 (.c 7 (.c 8 (.c 9 (.c 10 (.c 11 (.c 12 (.c 13 (.c 14 (.c 15 (.c 16 (.c 17 (.c 18 (.c 19 (.c 20 (.c 21 (.c 22 (.c 23 (.c 24 (.c 25 (.c 26 (.c 27 (.c 28 (.c 29 (.c 30 .e))))))))))))))))))))))))))) (.a (.s 0) (.a (.s 1) (.a (.s 2) (.s 3)))))) (.a (.c 8 (.c 27 (.c 26 (.c 28 .e)))) (.a (.c 4 (.c 5 (.c 6 (.c 7 (.c 9 (.c 10 (.c 11 (.c 12 (.c 13 (.c 14 (.c 15 (.c 16 (.c 17 (.c 18 (.c 19 (.c 20 (.c 21 (.c 22 (.c 23 (.c 24 (.c 25 (.c 0 (.c 1 (.c 2 (.c 3 (.c 29 (.c 30 .e))))))))))))))))))))))))))) (.a (.s 0) (.a (.s 1) (.a (.s 2) (.s 3)))))) rfl)) ?_
  intro σ2 ta row' e2 hW H2
  refine local_ (X := X) (n := n) (svs := svOf s.stk) (L := (s.L : Int)) (z := s.z) (c := (s.n : Int)) (R := [(1, .cell (some (.loc 42))), (2, .cell (some (.loc 43))), (3, cGone), (4, .cell (some (.bool s.hh))), (5, .cell (some (.loc 41))), (6, .cell (some (.loc 22))), (7, .cell (some (.loc 33))), (8, .cell (some (.loc 15))),
      (18, fGone), (20, .dI []), (21, .dI []), (43, fElem), (44, fPut), (0, cdO), (10, purseO s.a), (9, rowO scr), (s.z, .list (locs s.D)), (14, .list (s.gs.map .int)), (15, .list (s.ts.map .int)), (42, .list (s.du.map .int)),
      (16, .list (msV ms')), (37, scO 2 1 false 38 (if s.held then .loc 36 else .none)), (36, refO 33), (ta, tupA k (s.look k)), (41, ownO s.rl s.held), (40, .list (asOf s.stk ++ [.loc ta])), (s.rl, .dI row')] ++ (s.stk.flatMap (tS s.hh) ++ (s.stk.map tA ++ s.D.flatMap (·.foot false)))) hk hI.rep (by lia)
    (H2.perm (by rw [hth]; exact permR [_, _, _, _, _, _, _, _, _, _, _, _, _, _, _, _, _, _, _, _, _, _, _, _, _, _, _, _, _, _, _, _] [_, _, _, _] (.a (.c 0 (.c 1 (.c 2 (.c 3 (.c 4 .e))))) (.a (.c 5 (.c 6 (.c 7 (.c 8 (.c 9 (.c 10 (.c 11 (.c 12 (.c 13 (.c 14 (.c 15 (.c 16 (.c 17 (.c 18 (.c 19 (.c 20 (.c 21 (.c 22 (.c 23 (.c 24 (.c 25 (.c 26 (.c 27 (.c 28 (.c 29 (.c 30 (.c 31 .e))))))))))))))))))))))))))) (.a (.s 0) (.a (.s 1) (.a (.s 2) (.s 3)))))) (.c 28 (.c 11 (.c 13 (.c 27 (.c 21 (.a (.s 0) (.a (.c 5 (.c 6 (.c 7 (.c 8 (.c 1 (.c 29 (.c 9 (.c 10 (.c 12 (.c 14 (.c 15 (.c 16 (.c 17 (.c 18 (.c 19 (.c 20 (.c 22 (.c 23 (.c 24 (.c 25 (.c 26 (.c 30 (.c 31 (.c 0 (.c 2 (.c 3 (.c 4 .e))))))))))))))))))))))))))) (.a (.s 1) (.a (.s 2) (.s 3)))))))))) rfl)) ?_
  intro σ3 x C' tl e3 hH hR hx1 hx2 H3
  rw [hI.isH] at e3 H3
  have e4 := st_localP (X := X) (n := n + 5) hk hF hkey (H2.get _ (by leaf_len)) (H2.get _ (by leaf_len)) (H2.get _ (by leaf_len)) e3
  have hn' : ((s.n : Int) + 1) = ((s.hn + (s.stk.length + 1) : Nat) : Int) := by rw [St.n]; lia
  refine K_ σ3 { s with look := upd s.look k (some x), C := C', row := row', L := s.L + 1, ms := ms', stk := ⟨k, s.look k, tl, ta⟩ :: s.stk } ?_ (H3.perm (permC fun f => ?_)) ?_ rfl rfl rfl rfl
  · exact xms_cons e1 (xms_app e2 (xms_one e4))
  · have : thingL C' (s.hn + (s.stk.length + 1)) = C'.foot ((s.hn + (s.stk.length + 1) : Nat) : Int) := if_neg (by lia)
    rw [hn']
    simp only [St.led, fixL, St.n, St.hn, msV, List.length_cons, svOf_cons, asOf_cons, List.flatMap_cons, List.map_cons, tS, tA] at this ⊢
    simp only [this, Int.natCast_add, Int.natCast_one, cnt_app, cnt_cons, cnt_nil]; lia
  · obtain ⟨X, hX⟩ := hI.num
    have tL := hI.tL
    have hnx : ∀ f : Int → Nat, cnt f x.nums = f ((s.L + 1 : Nat) : Int) := fun f => by
      unfold Cell.nums; rw [hx1, hx2]
      simp only [vnums, cnt_cons, cnt_nil]; push_cast; lia
    have hvx : vn x = [] := by unfold vn; rw [hx2]; rfl
    have hone : St.one (s.hn + (s.stk.length + 1)) = St.one s.n := by
      unfold St.one; rw [if_neg (by lia), if_neg (by lia)]
    refine ⟨hH.trans hI.isH, hR, hW x hx2, ⟨hk, by simp only [upd, if_true]; rfl, ?_⟩, fun a b => ?_, ⟨X, fun f => ?_⟩, hI.due, fun f => ?_, hI.dok, ?_, Nat.le_succ_of_le hI.tt, ?_, ?_⟩
    · show StackOk (upd (upd s.look k (some x)) k (s.look k)) s.stk
      rw [upd_upd, upd_self]; exact hI.stk
    · cases b
    · have := hX f
      have c3 := cells3_upd (fun c => cnt f c.nums) s.look hk (some x)
      have ho : St.one (St.n { s with look := upd s.look k (some x), C := C', row := row', L := s.L + 1, ms := ms', stk := ⟨k, s.look k, tl, ta⟩ :: s.stk }) = St.one s.n := hone
      rw [ho]
      simp only [St.lc, List.flatMap_append, List.flatMap_cons, cnt_app, cnt_flatMap f Cell.nums, upto, cnt_cons, cnt_nil] at this ⊢
      rw [show (some x : Option Cell).toList = [x] from rfl, cnt_cons, cnt_nil, hnx] at c3
      lia
    · have := hI.told f
      have c3 := cells3_upd (fun c => cnt f (vn c)) s.look hk (some x)
      simp only [St.lc, List.flatMap_append, List.flatMap_cons, cnt_app, cnt_flatMap f vn] at this ⊢
      rw [show (some x : Option Cell).toList = [x] from rfl, cnt_cons, cnt_nil, hvx, cnt_nil] at c3
      lia
    · show s.L + 1 ≤ _; lia
    · show s.stk.length + 1 ≤ _; lia
    · show ms'.length ≤ _; lia
end Mine
end
section
set_option maxRecDepth 100000
set_option maxHeartbeats 4000000
namespace Mine
open PySem
variable {X : Wb} {σ τ : MS} {n k t rl g : Nat} {L : Int} {z : Nat} {w : Int} {s : St} {scr : List Int} {fr : MF} {R : List (Nat × MO)} {ms : List Nat} {svs as : List MV} {row : List (Int × MV)} {h : Bool} {v : MV} {look : Nat → Option Cell} {stk : List Ent} {is du : List Int} {C : Thg} {D : List Dead} {j : Nat}
theorem swept_ (hR : RowRep row look) (hs : stk.length < 900) (H : Led σ ((41, ownO rl h) :: (40, .list (asOf stk)) :: (rl, .dI row) :: R)) {P_ : Prop} (K_ : ∀ (σ' : MS) (g rl' : Nat) (is : List Int) (row' : List (Int × MV)), (CaM X (n + 2) (.top 646) [.loc 41] [] σ (.loc g) σ') → (RowRep row' (endL h stk look)) → ((∀ f, cnt f is = cnt f ((swpC h stk look).flatMap vn))) → (is.length ≤ 3) → (Led σ' ((g, .list (is.map .int)) :: (41, ownO rl' h) :: (40, .list (asOf stk)) :: (rl', .dI row') :: R)) → P_) : P_ := by
  cases h with
  | true =>
    refine swept_held (X := X) (n := n) H ?_
    intro σ' g e H'
    exact K_ σ' g rl [] row e (by unfold endL; rw [if_neg (by simp)]; exact hR) (fun f => by unfold swpC; rw [if_neg (by simp)]; rfl) (by simp) H'
  | false =>
    by_cases w : stk = []
    · subst w
      refine swept_out (X := X) (n := n) hR.nd (by have := hR.len; lia) hR.ok H ?_
      intro σ' g rl' e H'
      exact K_ σ' g rl' (sweptI row) [] e (by unfold endL; rw [if_pos ⟨rfl, rfl⟩]; exact rowRep_nil) (fun f => by unfold swpC; rw [if_pos ⟨rfl, rfl⟩]; exact hR.swept f) (Nat.le_trans (List.length_filterMap_le _ _) hR.len) H'
    · refine swept_aside (X := X) (n := n) (as := asOf stk) (rl := rl) (by rw [asOf_len]; lia) (fun h => w ((asOf_nil _).mp h)) H ?_
      intro σ' g e H'
      exact K_ σ' g rl [] row e (by unfold endL; rw [if_neg (fun h => w h.2)]; exact hR) (fun f => by unfold swpC; rw [if_neg (fun h => w h.2)]; rfl) (by simp) H'
theorem ext_due {e : ME} {vs us : List MV} (hF : LawF fr) (h1 : σ.obj 1 = some (.cell (some (.loc 42)))) (h2 : σ.obj 42 = some (.list vs)) (he : EvM X (n + 1) fr e σ (.loc g) τ) (h3 : τ.obj 42 = some (.list vs)) (h4 : τ.obj g = some (.list us)) (hv : vs.length < 1000) (hu : us.length < 1000) (hg : ¬ 42 = g) :
    ExM X (n + 1) (.expr (.meth (.cel "due") "extend" [e])) fr σ .next fr (τ.put 42 (.list (vs ++ us))) := by
  have f1 := hF.cel
  exact xm_expr (em_meth (em_cel (by rw [f1]; rfl) h1) (mm_extend h2) (ems_cons he ems_nil) (cm_bi (im_extend h3 h4 hv hu)))
noncomputable def stA : MSt := .asg (.sub (.cel "own") (.str "is_held")) (.bool false)
noncomputable def stB : MSt := .expr (.meth (.attr (.cel "run") "counter") "store" [.var "led", .none])
noncomputable def stC : MSt := .expr (.meth (.cel "due") "extend" [.call (.val (.top 646)) [.cel "own"]])
theorem st_A (hF : LawF fr) (H : Led σ ((5, .cell (some (.loc 41))) :: (41, ownO rl h) :: R)) {P_ : Prop} (K_ : ∀ σ', (ExM X (n + 2) stA fr σ .next fr σ') → (Led σ' ((5, .cell (some (.loc 41))) :: (41, ownO rl false) :: R)) → P_) : P_ := by
  obtain ⟨loc, cel, law⟩ := fr
  have f1 : cel = lawCs := hF.cel
  subst f1
  exact run_st X (n + 2) stA ⟨loc, lawCs, law⟩ H _ _ _ (by one_place) (by exact fun e h => K_ _ e h)
theorem eval_646 (hF : LawF fr) (h1 : σ.obj 5 = some (.cell (some (.loc 41)))) (e : CaM X (n + 1) (.top 646) [.loc 41] [] σ (.loc g) τ) : EvM X (n + 1) fr (.call (.val (.top 646)) [.cel "own"]) σ (.loc g) τ := by
  have f1 := hF.cel
  exact em_call em_val (ems_cons (em_cel (by rw [f1]; rfl) h1) ems_nil) e
theorem st_C (hF : LawF fr) (hR : RowRep row look) (hs : stk.length < 900) (hd : du.length < 900) (H : Led σ ((1, .cell (some (.loc 42))) :: (5, .cell (some (.loc 41))) :: (41, ownO rl h) :: (40, .list (asOf stk)) :: (rl, .dI row) :: (42, .list (du.map .int)) :: R)) {P_ : Prop} (K_ : ∀ (σ' : MS) (rl' : Nat) (is : List Int) (row' : List (Int × MV)), (ExM X (n + 2) stC fr σ .next fr σ') → (RowRep row' (endL h stk look)) → ((∀ f, cnt f is = cnt f ((swpC h stk look).flatMap vn))) → (Led σ' ((1, .cell (some (.loc 42))) :: (5, .cell (some (.loc 41))) :: (41, ownO rl' h) :: (40, .list (asOf stk)) :: (rl', .dI row') :: (42, .list ((du ++ is).map .int)) :: R)) → P_) : P_ := by
  refine swept_ (X := X) (n := n) (h := h) (rl := rl) (R := (1, .cell (some (.loc 42))) :: (5, .cell (some (.loc 41))) :: (42, .list (du.map .int)) :: R) hR hs (H.perm (by exact permR [_, _, _, _, _, _] [_] (.c 0 (.c 1 (.c 2 (.c 3 (.c 4 (.c 5 (.s 0))))))) (.c 2 (.c 3 (.c 4 (.c 0 (.c 1 (.c 5 (.s 0))))))) rfl)) ?_
  intro σ1 g rl' is row' e hR' hi hl H1
  have hg : ¬ 42 = g := H1.ne (i := 6) (j := 0) rfl rfl (by decide)
  have e2 := ext_due (X := X) (n := n + 1) hF (H.get 0 rfl) (H.get 5 rfl) (eval_646 hF (H.get 1 rfl) e) (H1.get 6 rfl) (H1.get 0 rfl) (by rw [List.length_map]; lia) (by rw [List.length_map]; lia) hg
  rw [← List.map_append] at e2
  refine K_ _ rl' is row' e2 hR' hi ?_
  exact (H1.set 6 rfl (.list ((du ++ is).map .int))).tail.perm (permC fun f => by simp only [List.set_cons_succ, List.set_cons_zero, cnt_app, cnt_cons, cnt_nil]; lia)
theorem store_led {v : MV} (hF : LawF fr) (h6 : σ.obj 6 = some (.cell (some (.loc 22)))) (h22 : σ.obj 22 = some runO) (h19 : σ.obj 19 = some cntO) (e : CaM X (n + 1) (.top 542) [.loc 19, .loc 37, .none] [] σ v τ) : ExM X (n + 1) stB fr σ .next fr τ := by
  have f1 := hF.cel
  exact xm_expr (em_meth (em_attr (em_cel (by rw [f1]; rfl) h6) (am_get X.b.toBs h22 rfl rfl rfl)) (mm_inst X.b.toBs h19 rfl rfl) (ems_cons (em_var hF.led) (ems_cons em_none ems_nil)) e)
noncomputable def Thg.cl : Thg → Nat
  | .A _ _ => 117
  | .H _ _ _ => 136
noncomputable def Thg.rest : Thg → List (String × MV)
  | .A it _ => [("blessed", .none), ("weak", .loc 34), ("is_destroyed", .bool false), ("is_freed", .bool false), ("items", .loc it), ("tied", .none)]
  | .H tb _ _ => [("blessed", .none), ("weak", .loc 34), ("is_destroyed", .bool false), ("is_freed", .bool false), ("table", .loc tb), ("at", .int 0), ("tied", .none)]
theorem obj_ob (C : Thg) (c : Int) : C.obj c = obO C.cl 1 c C.rest := by cases C <;> rfl
theorem cl_count (C : Thg) : "count" ∈ attrTab C.cl := by cases C <;> simp only [Thg.cl, at117, at136] <;> decide
theorem rest_len (C : Thg) : C.rest.length < 90 := by cases C <;> simp [Thg.rest]
noncomputable def hN (h : Bool) : Nat := if h then 1 else 0
theorem st_B (hF : LawF fr) (hD : D.length < 300) (H : Led σ ((6, .cell (some (.loc 22))) :: (22, runO) :: (20, .dI []) :: (21, .dI []) :: (19, cntO) :: (37, scO 2 1 false 38 (if h then .loc 36 else .none)) :: (36, refO 33) :: (12, heapO L z) :: (z, .list (locs D)) :: (thingL C (hN h + j) ++ (D.flatMap (·.foot false) ++ R)))) {P_ : Prop} (K_ : ∀ σ' D', (ExM X (n + 4) stB fr σ .next fr σ') → (D' = D ++ (if h = true ∧ j = 0 then [C.dead] else [])) → (Led σ' ((6, .cell (some (.loc 22))) :: (22, runO) :: (20, .dI []) :: (21, .dI []) :: (19, cntO) :: (37, scO 2 1 false 38 (if false = true then .loc 36 else .none)) :: (36, refO 33) :: (12, heapO L z) :: (z, .list (locs D')) :: (thingL C j ++ (D'.flatMap (·.foot false) ++ R)))) → P_) : P_ := by
  cases h with
  | false =>
    have hj : hN false + j = j := by simp [hN]
    rw [hj] at H
    refine store_x0 (X := X) (n := n + 1) (s := 37) (num := 2) (c := 1) (fr := false) (wk := 38) (R := (6, .cell (some (.loc 22))) :: (22, runO) :: (36, refO 33) :: (12, heapO L z) :: (z, .list (locs D)) :: (thingL C j ++ (D.flatMap (·.foot false) ++ R))) (H.perm (by exact permR [_, _, _, _, _, _, _, _, _] [_, _, _] (.c 0 (.c 1 (.c 2 (.c 3 (.c 4 (.c 5 (.c 6 (.c 7 (.c 8 (.a (.s 0) (.a (.s 1) (.s 2)))))))))))) (.a (.c 2 (.c 3 (.c 4 (.c 5 .e)))) (.c 0 (.c 1 (.c 6 (.c 7 (.c 8 (.a (.s 0) (.a (.s 1) (.s 2))))))))) rfl)) ?_
    intro σ' e H1
    refine K_ σ' D (store_led (X := X) (n := n + 3) hF (H.get 0 rfl) (H.get 1 rfl) (H.get 4 rfl) e) (by simp) (H1.perm (by exact permR [_, _, _, _, _, _, _, _, _] [_, _, _] (.a (.c 0 (.c 1 (.c 2 (.c 3 .e)))) (.c 4 (.c 5 (.c 6 (.c 7 (.c 8 (.a (.s 0) (.a (.s 1) (.s 2))))))))) (.c 4 (.c 5 (.c 0 (.c 1 (.c 2 (.c 3 (.c 6 (.c 7 (.c 8 (.a (.s 0) (.a (.s 1) (.s 2)))))))))))) rfl))
  | true =>
    have hth : thingL C (hN true + j) = (33, obO C.cl 1 ((1 + j : Nat) : Int) C.rest) :: (34, .list []) :: C.tab :: C.cells.flatMap (·.foot 1) := by
      unfold thingL; rw [if_neg (by simp [hN]), Thg.foot, obj_ob]; rfl
    rw [hth] at H
    by_cases q : j = 0
    · subst q
      refine store_x1 (X := X) (n := n) (s := 37) (num := 2) (c := 1) (fr := false) (wk := 38) (ro := 36) (po := 33) (C' := C.cl) (pn' := 1) (rest' := C.rest) (L := L) (z := z) (zs := locs D)
        (R := (6, .cell (some (.loc 22))) :: (22, runO) :: (34, .list []) :: C.tab :: (C.cells.flatMap (·.foot 1) ++ (D.flatMap (·.foot false) ++ R))) (H.perm (by exact permR [_, _, _, _, _, _, _, _, _, _, _, _] [_, _, _] (.c 0 (.c 1 (.c 2 (.c 3 (.c 4 (.c 5 (.c 6 (.c 7 (.c 8 (.a (.c 9 (.c 10 (.c 11 (.s 0)))) (.a (.s 1) (.s 2)))))))))))) (.a (.c 2 (.c 3 (.c 4 (.c 5 (.c 6 (.c 9 (.c 7 (.c 8 .e)))))))) (.c 0 (.c 1 (.c 10 (.c 11 (.a (.s 0) (.a (.s 1) (.s 2)))))))) rfl)) (by unfold locs; rw [List.length_map]; lia) (cl_count C) (rest_len C) ?_
      intro σ' e H1
      refine K_ σ' (D ++ [C.dead]) (store_led (X := X) (n := n + 3) hF (H.get 0 rfl) (H.get 1 rfl) (H.get 4 rfl) e) (by simp) (H1.perm (permC fun f => ?_))
      have hl : locs (D ++ [C.dead]) = locs D ++ [.loc 33] := by unfold locs; rw [List.map_append, List.map_cons, List.map_nil, dead_loc]
      simp only [hl, thingL, if_true, List.flatMap_append, List.flatMap_cons, List.flatMap_nil, dead_foot, Thg.foot, obj_ob, Bool.false_eq_true, if_false, cnt_app, cnt_cons, cnt_nil]; lia
    · refine store_xN (X := X) (n := n) (s := 37) (num := 2) (c := 1) (fr := false) (wk := 38) (ro := 36) (po := 33) (C' := C.cl) (pn' := 1) (rest' := C.rest) (k := ((1 + j : Nat) : Int))
        (R := (6, .cell (some (.loc 22))) :: (22, runO) :: (12, heapO L z) :: (z, .list (locs D)) :: (34, .list []) :: C.tab :: (C.cells.flatMap (·.foot 1) ++ (D.flatMap (·.foot false) ++ R))) (H.perm (by exact permR [_, _, _, _, _, _, _, _, _, _, _, _] [_, _, _] (.c 0 (.c 1 (.c 2 (.c 3 (.c 4 (.c 5 (.c 6 (.c 7 (.c 8 (.a (.c 9 (.c 10 (.c 11 (.s 0)))) (.a (.s 1) (.s 2)))))))))))) (.a (.c 2 (.c 3 (.c 4 (.c 5 (.c 6 (.c 9 .e)))))) (.c 0 (.c 1 (.c 7 (.c 8 (.c 10 (.c 11 (.a (.s 0) (.a (.s 1) (.s 2)))))))))) rfl)) (by lia) (cl_count C) (rest_len C) ?_
      intro σ' e H1
      refine K_ σ' D (store_led (X := X) (n := n + 3) hF (H.get 0 rfl) (H.get 1 rfl) (H.get 4 rfl) e) (by simp [q]) (H1.perm (permC fun f => ?_))
      have hk : ((1 + j : Nat) : Int) - 1 = (j : Int) := by lia
      simp only [hk, thingL, if_neg q, Thg.foot, obj_ob, Bool.false_eq_true, if_false, cnt_app, cnt_cons, cnt_nil]; lia
end Mine
end
section
set_option maxHeartbeats 4000000
namespace Mine
open PySem
variable {X : Wb} {σ τ : MS} {n k t rl g : Nat} {s : St} {scr : List Int} {fr : MF} {row' : List (Int × MV)} {is : List Int}
noncomputable def deadC (h : Bool) : Thg := match h with
  | true => .H 0 [] false
  | false => .A 0 []
theorem deadC_isH (h : Bool) : (deadC h).isH = h := by cases h <;> rfl
theorem deadC_rep (h : Bool) : Rep (deadC h) noneL := by
  cases h
  · exact ⟨Nat.zero_le _, fun _ _ => rfl⟩
  · exact ⟨⟨List.Pairwise.nil, fun _ h => (List.not_mem_nil h).elim, fun _ => rfl⟩, fun _ _ => rfl⟩
noncomputable def St.dropped (s : St) (row' : List (Int × MV)) (rl' : Nat) (is : List Int) : St :=
  { s with held := false, look := endL false s.stk s.look, C := if s.stk = [] then deadC s.hh else s.C, row := row', rl := rl', D := s.D ++ (if s.held = true ∧ s.stk.length = 0 then [s.C.dead] else []), du := s.du ++ is }
theorem inv_drop (hI : Inv s t) (hR : RowRep row' (endL false s.stk s.look)) (hi : ∀ f, cnt f is = cnt f ((swpC false s.stk s.look).flatMap vn)) : Inv (s.dropped row' rl is) t := by
  obtain ⟨X, hX⟩ := hI.num
  by_cases q : s.stk = []
  · have hl : endL false s.stk s.look = noneL := by unfold endL; rw [if_pos ⟨rfl, q⟩]
    have hw : swpC false s.stk s.look = cells3 s.look := by unfold swpC; rw [if_pos ⟨rfl, q⟩]
    rw [hw] at hi
    have hlc : s.lc = cells3 s.look := by unfold St.lc; rw [q]; simp
    have hlc' : (s.dropped row' rl is).lc = [] := by unfold St.lc St.dropped; simp only [hl, q]; rfl
    have hn' : (s.dropped row' rl is).n = 0 := by unfold St.n St.hn St.dropped; simp only [q]; rfl
    have hD : (s.dropped row' rl is).D = s.D ++ (if s.held = true then [s.C.dead] else []) := by unfold St.dropped; simp [q]
    have hc : ∀ f : Int → Nat, cnt f (s.C.cells.flatMap Cell.nums) = cnt f (s.lc.flatMap Cell.nums) := fun f => by rw [hlc, cnt_flatMap, cnt_flatMap]; exact hI.rep.cells _
    have hcv : ∀ f : Int → Nat, cnt f (s.C.cells.flatMap fun c => vnums c.v) = cnt f (s.lc.flatMap vn) := fun f => by rw [hlc, cnt_flatMap, cnt_flatMap]; exact hI.rep.cells _
    have hz : s.held = false → s.lc = [] := fun h => by rw [hlc, hI.out h q]; rfl
    refine ⟨by unfold St.dropped; simp only [if_pos q]; exact deadC_isH _, by unfold St.dropped; simp only [if_pos q, hl]; exact deadC_rep _, hR, by unfold St.dropped; simp only [q]; trivial, fun _ _ => hl, ⟨X, fun f => ?_⟩, fun f => ?_, fun f => ?_, fun d hd => ?_, hI.tL, hI.tt, hI.ts, hI.tm⟩
    · have := hX f
      rw [hlc', hn', hD]
      show cnt f (St.one 0) + _ + _ + _ = cnt f (upto s.L)
      cases hh : s.held with
      | true =>
        have : s.n = 1 := by unfold St.n St.hn; rw [q, hh]; rfl
        rw [this] at hX
        have := hX f
        simp only [St.one, if_true, if_neg Nat.one_ne_zero, List.flatMap_append, List.flatMap_cons, List.flatMap_nil, dead_nums, cnt_app, cnt_cons, cnt_nil, hc] at this ⊢
        lia
      | false =>
        have : s.n = 0 := by unfold St.n St.hn; rw [q, hh]; rfl
        rw [this, hz hh] at hX
        have := hX f
        simp only [Bool.false_eq_true, if_false, List.append_nil]
        exact this
    · have := hI.due f
      rw [hD]
      show cnt f (s.du ++ is) = cnt f s.gs + _
      rw [cnt_app, hi, ← hlc]
      cases hh : s.held with
      | true =>
        simp only [if_true, List.flatMap_append, List.flatMap_cons, List.flatMap_nil, dead_all, cnt_app, cnt_nil, hcv]
        lia
      | false =>
        rw [hz hh]
        simp only [Bool.false_eq_true, if_false, List.append_nil, List.flatMap_nil, cnt_nil]
        lia
    · have := hI.told f
      rw [hlc']
      show cnt f s.ts = cnt f (s.du ++ is) + _
      rw [cnt_app, hi, ← hlc]
      simp only [List.flatMap_nil, cnt_nil]; lia
    · rw [hD] at hd
      rcases List.mem_append.mp hd with hd | hd
      · exact hI.dok d hd
      · split at hd
        · simp at hd; rw [hd]; exact hI.rep.dead
        · cases hd
  · have hl : endL false s.stk s.look = s.look := by unfold endL; rw [if_neg fun h => q h.2]
    have hw : swpC false s.stk s.look = [] := by unfold swpC; rw [if_neg fun h => q h.2]
    rw [hw] at hi
    have hi0 : ∀ f, cnt f is = 0 := fun f => hi f
    have hD : (s.dropped row' rl is).D = s.D := by unfold St.dropped; simp [q]
    have hone : St.one (s.dropped row' rl is).n = St.one s.n := by
      have : 0 < s.stk.length := List.length_pos_iff.mpr q
      unfold St.one St.n St.hn St.dropped
      rw [if_neg (by simp only; lia), if_neg (by lia)]
    have hlc : (s.dropped row' rl is).lc = s.lc := by unfold St.lc St.dropped; simp only [hl]
    refine ⟨by unfold St.dropped; simp only [if_neg q]; exact hI.isH, by unfold St.dropped; simp only [if_neg q, hl]; exact hI.rep, hR, by unfold St.dropped; simp only [hl]; exact hI.stk, fun _ h => absurd h q, ⟨X, fun f => by rw [hone, hlc, hD]; exact hX f⟩, fun f => ?_, fun f => ?_, fun d hd => hI.dok d (by rw [hD] at hd; exact hd), hI.tL, hI.tt, hI.ts, hI.tm⟩
    · rw [hD]
      show cnt f (s.du ++ is) = cnt f s.gs + _
      rw [cnt_app, hi0]; exact hI.due f
    · rw [hlc]
      show cnt f s.ts = cnt f (s.du ++ is) + _
      rw [cnt_app, hi0]; exact hI.told f
theorem drop_led (σ : MS) {D' : List Dead} (hD' : D' = s.D ++ (if s.held = true ∧ s.stk.length = 0 then [s.C.dead] else []))
    (H : Led σ (fixL s.hh ++ ((10, purseO s.a) :: (9, rowO scr) :: (12, heapO s.L s.z) :: (s.z, .list (locs D')) :: (14, .list (s.gs.map .int)) :: (15, .list (s.ts.map .int)) :: (42, .list ((s.du ++ is).map .int)) ::
    (16, .list (s.ms.map fun m : Nat => MV.int (m : Int))) :: (30, .list (svOf s.stk)) :: (40, .list (asOf s.stk)) :: (41, ownO rl false) :: (rl, .dI row') :: (37, scO 2 1 false 38 (if false = true then .loc 36 else .none)) :: (36, refO 33) ::
    (thingL s.C s.stk.length ++ (s.stk.flatMap (tS s.hh) ++ (s.stk.map tA ++ D'.flatMap (·.foot false))))))) : Led σ ((s.dropped row' rl is).led scr) := by
  subst hD'
  have : thingL (if s.stk = [] then deadC s.hh else s.C) (0 + s.stk.length) = thingL s.C s.stk.length := by
    by_cases q : s.stk = []
    · rw [q]; rfl
    · rw [if_neg q, Nat.zero_add]
  unfold St.led St.dropped St.n St.hn
  simp only [Bool.false_eq_true, if_false, this]
  simp only [Bool.false_eq_true, if_false] at H
  exact H
noncomputable def dropB : List MSt := [stA, stB, stC]
noncomputable def endB : List MSt := [stB, stA, stC]
theorem op_drop (hF : LawF fr) (hh : s.held = true) (ht : t ≤ 12) (hI : Inv s t) (H : Led σ (s.led scr)) {P_ : Prop} (K_ : ∀ σ' s', (ExsM X (n + 4) dropB fr σ .next fr σ') → (Led σ' (s'.led scr)) → (Inv s' t) → (s'.a = s.a) → (s'.hh = s.hh) → P_) : P_ := by
  have d1 := hI.dLen
  have d2 := hI.duLen
  have d3 := hI.ts
  let R1 : List (Nat × MO) := [(1, .cell (some (.loc 42))), (2, .cell (some (.loc 43))), (3, cGone), (4, .cell (some (.bool s.hh))), (7, .cell (some (.loc 33))), (8, .cell (some (.loc 15))),
      (11, limO), (18, fGone), (43, fElem), (44, fPut), (0, cdO), (10, purseO s.a), (9, rowO scr), (14, .list (s.gs.map .int)), (15, .list (s.ts.map .int)), (42, .list (s.du.map .int)),
      (16, .list (s.ms.map fun m : Nat => MV.int (m : Int))), (30, .list (svOf s.stk)), (40, .list (asOf s.stk)), (s.rl, .dI s.row)]
  refine st_A (X := X) (n := n + 2) (rl := s.rl) (h := s.held) (R := R1 ++ ((6, .cell (some (.loc 22))) :: (22, runO) :: (20, .dI []) :: (21, .dI []) :: (19, cntO) :: (37, scO 2 1 false 38 (if s.held then .loc 36 else .none)) :: (36, refO 33) :: (12, heapO s.L s.z) :: (s.z, .list (locs s.D)) :: (thingL s.C s.n ++ (s.D.flatMap (·.foot false) ++ (s.stk.flatMap (tS s.hh) ++ s.stk.map tA))))) hF
    (H.perm (by exact permR [_, _, _, _, _, _, _, _, _, _, _, _, _, _, _, _, _, _, _, _, _, _, _, _, _, _, _, _, _, _, _] [_, _, _, _] (.a (.c 0 (.c 1 (.c 2 (.c 3 (.c 4 (.c 5 (.c 6 (.c 7 (.c 8 (.c 9 (.c 10 (.c 11 (.c 12 (.c 13 (.c 14 (.c 15 (.c 16 .e))))))))))))))))) (.c 17 (.c 18 (.c 19 (.c 20 (.c 21 (.c 22 (.c 23 (.c 24 (.c 25 (.c 26 (.c 27 (.c 28 (.c 29 (.c 30 (.a (.s 0) (.a (.s 1) (.a (.s 2) (.s 3))))))))))))))))))) (.c 4 (.c 27 (.a (.c 0 (.c 1 (.c 2 (.c 3 (.c 6 (.c 7 (.c 8 (.c 9 (.c 14 (.c 15 (.c 16 (.c 17 (.c 18 (.c 21 (.c 22 (.c 23 (.c 24 (.c 25 (.c 26 (.c 28 .e)))))))))))))))))))) (.c 5 (.c 13 (.c 11 (.c 12 (.c 10 (.c 29 (.c 30 (.c 19 (.c 20 (.a (.s 0) (.a (.s 3) (.a (.s 1) (.s 2)))))))))))))))) rfl)) ?_
  intro σ1 e1 H1
  refine st_B (X := X) (n := n) (h := s.held) (j := s.stk.length) (C := s.C) (L := (s.L : Int)) (z := s.z) (D := s.D) (R := R1 ++ ((5, .cell (some (.loc 41))) :: (41, ownO s.rl false) :: (s.stk.flatMap (tS s.hh) ++ s.stk.map tA))) hF (by lia)
    (H1.perm (by rw [St.n, show s.hn = hN s.held from rfl]; exact permR [_, _, _, _, _, _, _, _, _, _, _, _, _, _, _, _, _, _, _, _, _, _, _, _, _, _, _, _, _, _, _] [_, _, _, _] (.c 0 (.c 1 (.a (.c 2 (.c 3 (.c 4 (.c 5 (.c 6 (.c 7 (.c 8 (.c 9 (.c 10 (.c 11 (.c 12 (.c 13 (.c 14 (.c 15 (.c 16 (.c 17 (.c 18 (.c 19 (.c 20 (.c 21 .e)))))))))))))))))))) (.c 22 (.c 23 (.c 24 (.c 25 (.c 26 (.c 27 (.c 28 (.c 29 (.c 30 (.a (.s 0) (.a (.s 1) (.a (.s 2) (.s 3)))))))))))))))) (.c 22 (.c 23 (.c 24 (.c 25 (.c 26 (.c 27 (.c 28 (.c 29 (.c 30 (.a (.s 0) (.a (.s 1) (.a (.c 2 (.c 3 (.c 4 (.c 5 (.c 6 (.c 7 (.c 8 (.c 9 (.c 10 (.c 11 (.c 12 (.c 13 (.c 14 (.c 15 (.c 16 (.c 17 (.c 18 (.c 19 (.c 20 (.c 21 .e)))))))))))))))))))) (.c 0 (.c 1 (.a (.s 2) (.s 3)))))))))))))))) rfl)) ?_
  intro σ2 D' e2 hD' H2
  refine st_C (X := X) (n := n + 2) (rl := s.rl) (h := false) (du := s.du) (stk := s.stk)
    (R := [(2, .cell (some (.loc 43))), (3, cGone), (4, .cell (some (.bool s.hh))), (7, .cell (some (.loc 33))), (8, .cell (some (.loc 15))),
      (11, limO), (18, fGone), (43, fElem), (44, fPut), (0, cdO), (10, purseO s.a), (9, rowO scr), (14, .list (s.gs.map .int)), (15, .list (s.ts.map .int)),
      (16, .list (s.ms.map fun m : Nat => MV.int (m : Int))), (30, .list (svOf s.stk)), (6, .cell (some (.loc 22))), (22, runO), (20, .dI []), (21, .dI []), (19, cntO), (37, scO 2 1 false 38 (if false = true then .loc 36 else .none)), (36, refO 33), (12, heapO s.L s.z), (s.z, .list (locs D'))] ++ (thingL s.C s.stk.length ++ (D'.flatMap (·.foot false) ++ (s.stk.flatMap (tS s.hh) ++ s.stk.map tA)))) hF hI.row (by lia) (by lia)
    (H2.perm (by exact permR [_, _, _, _, _, _, _, _, _, _, _, _, _, _, _, _, _, _, _, _, _, _, _, _, _, _, _, _, _, _, _] [_, _, _, _] (.c 0 (.c 1 (.c 2 (.c 3 (.c 4 (.c 5 (.c 6 (.c 7 (.c 8 (.a (.s 0) (.a (.s 1) (.a (.c 9 (.c 10 (.c 11 (.c 12 (.c 13 (.c 14 (.c 15 (.c 16 (.c 17 (.c 18 (.c 19 (.c 20 (.c 21 (.c 22 (.c 23 (.c 24 (.c 25 (.c 26 (.c 27 (.c 28 .e)))))))))))))))))))) (.c 29 (.c 30 (.a (.s 2) (.s 3)))))))))))))))) (.c 9 (.c 29 (.c 30 (.c 27 (.c 28 (.c 24 (.a (.c 10 (.c 11 (.c 12 (.c 13 (.c 14 (.c 15 (.c 16 (.c 17 (.c 18 (.c 19 (.c 20 (.c 21 (.c 22 (.c 23 (.c 25 (.c 26 (.c 0 (.c 1 (.c 2 (.c 3 (.c 4 (.c 5 (.c 6 (.c 7 (.c 8 .e))))))))))))))))))))))))) (.a (.s 0) (.a (.s 1) (.a (.s 2) (.s 3))))))))))) rfl)) ?_
  intro σ3 rl' is row' e3 hR hi H3
  refine K_ σ3 (s.dropped row' rl' is) (xms_cons e1 (xms_cons e2 (xms_one e3))) ?_ (inv_drop hI hR hi) rfl rfl
  exact drop_led σ3 hD' (H3.perm (by exact permR [_, _, _, _, _, _, _, _, _, _, _, _, _, _, _, _, _, _, _, _, _, _, _, _, _, _, _, _, _, _, _] [_, _, _, _] (.c 0 (.c 1 (.c 2 (.c 3 (.c 4 (.c 5 (.a (.c 6 (.c 7 (.c 8 (.c 9 (.c 10 (.c 11 (.c 12 (.c 13 (.c 14 (.c 15 (.c 16 (.c 17 (.c 18 (.c 19 (.c 20 (.c 21 (.c 22 (.c 23 (.c 24 (.c 25 (.c 26 (.c 27 (.c 28 (.c 29 (.c 30 .e))))))))))))))))))))))))) (.a (.s 0) (.a (.s 1) (.a (.s 2) (.s 3))))))))))) (.a (.c 0 (.c 6 (.c 7 (.c 8 (.c 1 (.c 22 (.c 9 (.c 10 (.c 11 (.c 12 (.c 26 (.c 24 (.c 25 (.c 23 (.c 13 (.c 14 (.c 15 .e))))))))))))))))) (.c 16 (.c 17 (.c 29 (.c 30 (.c 18 (.c 19 (.c 5 (.c 20 (.c 21 (.c 3 (.c 2 (.c 4 (.c 27 (.c 28 (.a (.s 0) (.a (.s 2) (.a (.s 3) (.s 1))))))))))))))))))) rfl))
theorem op_end (hF : LawF fr) (ht : t ≤ 12) (hI : Inv s t) (H : Led σ (s.led scr)) {P_ : Prop} (K_ : ∀ σ' s', (ExsM X (n + 4) endB fr σ .next fr σ') → (Led σ' (s'.led scr)) → (Inv s' t) → (s'.held = false) → (s'.stk = s.stk) → P_) : P_ := by
  have d1 := hI.dLen
  have d2 := hI.duLen
  have d3 := hI.ts
  let R1 : List (Nat × MO) := [(1, .cell (some (.loc 42))), (2, .cell (some (.loc 43))), (3, cGone), (4, .cell (some (.bool s.hh))), (7, .cell (some (.loc 33))), (8, .cell (some (.loc 15))),
      (11, limO), (18, fGone), (43, fElem), (44, fPut), (0, cdO), (10, purseO s.a), (9, rowO scr), (14, .list (s.gs.map .int)), (15, .list (s.ts.map .int)), (42, .list (s.du.map .int)),
      (16, .list (s.ms.map fun m : Nat => MV.int (m : Int))), (30, .list (svOf s.stk)), (40, .list (asOf s.stk)), (s.rl, .dI s.row)]
  refine st_B (X := X) (n := n) (h := s.held) (j := s.stk.length) (C := s.C) (L := (s.L : Int)) (z := s.z) (D := s.D) (R := R1 ++ ((5, .cell (some (.loc 41))) :: (41, ownO s.rl s.held) :: (s.stk.flatMap (tS s.hh) ++ s.stk.map tA))) hF (by lia)
    (H.perm (by rw [St.led, St.n, show s.hn = hN s.held from rfl]; exact permR [_, _, _, _, _, _, _, _, _, _, _, _, _, _, _, _, _, _, _, _, _, _, _, _, _, _, _, _, _, _, _] [_, _, _, _] (.a (.c 0 (.c 1 (.c 2 (.c 3 (.c 4 (.c 5 (.c 6 (.c 7 (.c 8 (.c 9 (.c 10 (.c 11 (.c 12 (.c 13 (.c 14 (.c 15 (.c 16 .e))))))))))))))))) (.c 17 (.c 18 (.c 19 (.c 20 (.c 21 (.c 22 (.c 23 (.c 24 (.c 25 (.c 26 (.c 27 (.c 28 (.c 29 (.c 30 (.a (.s 0) (.a (.s 1) (.a (.s 2) (.s 3))))))))))))))))))) (.c 5 (.c 13 (.c 11 (.c 12 (.c 10 (.c 29 (.c 30 (.c 19 (.c 20 (.a (.s 0) (.a (.s 3) (.a (.c 0 (.c 1 (.c 2 (.c 3 (.c 6 (.c 7 (.c 8 (.c 9 (.c 14 (.c 15 (.c 16 (.c 17 (.c 18 (.c 21 (.c 22 (.c 23 (.c 24 (.c 25 (.c 26 (.c 28 .e)))))))))))))))))))) (.c 4 (.c 27 (.a (.s 1) (.s 2)))))))))))))))) rfl)) ?_
  intro σ2 D' e2 hD' H2
  refine st_A (X := X) (n := n + 2) (rl := s.rl) (h := s.held) (R := R1 ++ ((6, .cell (some (.loc 22))) :: (22, runO) :: (20, .dI []) :: (21, .dI []) :: (19, cntO) :: (37, scO 2 1 false 38 (if false = true then .loc 36 else .none)) :: (36, refO 33) :: (12, heapO s.L s.z) :: (s.z, .list (locs D')) :: (thingL s.C s.stk.length ++ (D'.flatMap (·.foot false) ++ (s.stk.flatMap (tS s.hh) ++ s.stk.map tA))))) hF
    (H2.perm (by exact permR [_, _, _, _, _, _, _, _, _, _, _, _, _, _, _, _, _, _, _, _, _, _, _, _, _, _, _, _, _, _, _] [_, _, _, _] (.c 0 (.c 1 (.c 2 (.c 3 (.c 4 (.c 5 (.c 6 (.c 7 (.c 8 (.a (.s 0) (.a (.s 1) (.a (.c 9 (.c 10 (.c 11 (.c 12 (.c 13 (.c 14 (.c 15 (.c 16 (.c 17 (.c 18 (.c 19 (.c 20 (.c 21 (.c 22 (.c 23 (.c 24 (.c 25 (.c 26 (.c 27 (.c 28 .e)))))))))))))))))))) (.c 29 (.c 30 (.a (.s 2) (.s 3)))))))))))))))) (.c 29 (.c 30 (.a (.c 9 (.c 10 (.c 11 (.c 12 (.c 13 (.c 14 (.c 15 (.c 16 (.c 17 (.c 18 (.c 19 (.c 20 (.c 21 (.c 22 (.c 23 (.c 24 (.c 25 (.c 26 (.c 27 (.c 28 .e)))))))))))))))))))) (.c 0 (.c 1 (.c 2 (.c 3 (.c 4 (.c 5 (.c 6 (.c 7 (.c 8 (.a (.s 0) (.a (.s 1) (.a (.s 2) (.s 3)))))))))))))))) rfl)) ?_
  intro σ1 e1 H1
  refine st_C (X := X) (n := n + 2) (rl := s.rl) (h := false) (du := s.du) (stk := s.stk)
    (R := [(2, .cell (some (.loc 43))), (3, cGone), (4, .cell (some (.bool s.hh))), (7, .cell (some (.loc 33))), (8, .cell (some (.loc 15))),
      (11, limO), (18, fGone), (43, fElem), (44, fPut), (0, cdO), (10, purseO s.a), (9, rowO scr), (14, .list (s.gs.map .int)), (15, .list (s.ts.map .int)),
      (16, .list (s.ms.map fun m : Nat => MV.int (m : Int))), (30, .list (svOf s.stk)), (6, .cell (some (.loc 22))), (22, runO), (20, .dI []), (21, .dI []), (19, cntO), (37, scO 2 1 false 38 (if false = true then .loc 36 else .none)), (36, refO 33), (12, heapO s.L s.z), (s.z, .list (locs D'))] ++ (thingL s.C s.stk.length ++ (D'.flatMap (·.foot false) ++ (s.stk.flatMap (tS s.hh) ++ s.stk.map tA)))) hF hI.row (by lia) (by lia)
    (H1.perm (by exact permR [_, _, _, _, _, _, _, _, _, _, _, _, _, _, _, _, _, _, _, _, _, _, _, _, _, _, _, _, _, _, _] [_, _, _, _] (.c 0 (.c 1 (.a (.c 2 (.c 3 (.c 4 (.c 5 (.c 6 (.c 7 (.c 8 (.c 9 (.c 10 (.c 11 (.c 12 (.c 13 (.c 14 (.c 15 (.c 16 (.c 17 (.c 18 (.c 19 (.c 20 (.c 21 .e)))))))))))))))))))) (.c 22 (.c 23 (.c 24 (.c 25 (.c 26 (.c 27 (.c 28 (.c 29 (.c 30 (.a (.s 0) (.a (.s 1) (.a (.s 2) (.s 3)))))))))))))))) (.c 2 (.c 0 (.c 1 (.c 20 (.c 21 (.c 17 (.a (.c 3 (.c 4 (.c 5 (.c 6 (.c 7 (.c 8 (.c 9 (.c 10 (.c 11 (.c 12 (.c 13 (.c 14 (.c 15 (.c 16 (.c 18 (.c 19 (.c 22 (.c 23 (.c 24 (.c 25 (.c 26 (.c 27 (.c 28 (.c 29 (.c 30 .e))))))))))))))))))))))))) (.a (.s 0) (.a (.s 1) (.a (.s 2) (.s 3))))))))))) rfl)) ?_
  intro σ3 rl' is row' e3 hR hi H3
  refine K_ σ3 (s.dropped row' rl' is) (xms_cons e2 (xms_cons e1 (xms_one e3))) ?_ (inv_drop hI hR hi) rfl rfl
  exact drop_led σ3 hD' (H3.perm (by exact permR [_, _, _, _, _, _, _, _, _, _, _, _, _, _, _, _, _, _, _, _, _, _, _, _, _, _, _, _, _, _, _] [_, _, _, _] (.c 0 (.c 1 (.c 2 (.c 3 (.c 4 (.c 5 (.a (.c 6 (.c 7 (.c 8 (.c 9 (.c 10 (.c 11 (.c 12 (.c 13 (.c 14 (.c 15 (.c 16 (.c 17 (.c 18 (.c 19 (.c 20 (.c 21 (.c 22 (.c 23 (.c 24 (.c 25 (.c 26 (.c 27 (.c 28 (.c 29 (.c 30 .e))))))))))))))))))))))))) (.a (.s 0) (.a (.s 1) (.a (.s 2) (.s 3))))))))))) (.a (.c 0 (.c 6 (.c 7 (.c 8 (.c 1 (.c 22 (.c 9 (.c 10 (.c 11 (.c 12 (.c 26 (.c 24 (.c 25 (.c 23 (.c 13 (.c 14 (.c 15 .e))))))))))))))))) (.c 16 (.c 17 (.c 29 (.c 30 (.c 18 (.c 19 (.c 5 (.c 20 (.c 21 (.c 3 (.c 2 (.c 4 (.c 27 (.c 28 (.a (.s 0) (.a (.s 2) (.a (.s 3) (.s 1))))))))))))))))))) rfl))
end Mine
end
section
set_option maxHeartbeats 4000000
namespace Mine
open PySem
variable {X : Wb} {σ τ : MS} {n k t rl g m : Nat} {s : St} {scr : List Int} {fr : MF} {row' : List (Int × MV)} {is : List Int} {C' : Thg} {p q : List Ent} {ms' : List Nat}
noncomputable def olds (p : List Ent) : List Cell := p.flatMap fun e => e.old.toList
theorem pop_cells (f : Cell → Nat) : ∀ (p : List Ent) (look : Nat → Option Cell) (q : List Ent), StackOk look (p ++ q) → cnt f (cells3 look) + cnt f (olds p) = cnt f (popC look p) + cnt f (cells3 (undoL look p))
  | [], _, _, _ => by simp [olds, popC, undoL, cnt]
  | e :: p, look, q, h => by
    have ih := pop_cells f p (upd look e.k e.old) q h.2.2
    have c := cells3_upd f look h.1 e.old
    simp only [olds, popC, undoL, List.flatMap_cons, cnt_app] at ih ⊢
    lia
theorem stackOk_undo : ∀ (p : List Ent) (look : Nat → Option Cell) (q : List Ent), StackOk look (p ++ q) → StackOk (undoL look p) q
  | [], _, _, h => h
  | e :: p, look, q, h => stackOk_undo p _ q h.2.2
noncomputable def St.left (s : St) (p q : List Ent) (C' : Thg) (row' : List (Int × MV)) (rl' : Nat) (is : List Int) (ms' : List Nat) : St :=
  { s with look := endL s.held q (undoL s.look p), C := if s.held = false ∧ q = [] then deadC s.hh else C', row := row', rl := rl', stk := q, D := s.D ++ ((popC s.look p).map Dead.S ++ endD s.hn p q C'), du := s.du ++ is, ms := ms' }
theorem cnt_mapS (f : Int → Nat) (l : List Cell) : cnt f ((l.map Dead.S).flatMap Dead.nums) = cnt f (l.flatMap Cell.nums) := by rw [List.flatMap_map]; rfl
theorem cnt_mapSa (f : Int → Nat) (l : List Cell) : cnt f ((l.map Dead.S).flatMap Dead.all) = cnt f (l.flatMap vn) := by rw [List.flatMap_map]; rfl
theorem inv_left (hI : Inv s t) (hst : s.stk = p ++ q) (hH : C'.isH = s.C.isH) (hC : Rep C' (undoL s.look p)) (hR : RowRep row' (endL s.held q (undoL s.look p))) (hi : ∀ f, cnt f is = cnt f ((popC s.look p).flatMap vn) + cnt f ((swpC s.held q (undoL s.look p)).flatMap vn)) (hm : ms'.length ≤ t) :
    Inv (s.left p q C' row' rl is ms') t := by
  obtain ⟨X, hX⟩ := hI.num
  have hS := hI.stk
  rw [hst] at hS
  have hpc := fun f => pop_cells f p s.look q hS
  have hlc : ∀ f : Cell → Nat, cnt f s.lc = cnt f (cells3 s.look) + (cnt f (olds p) + cnt f (olds q)) := fun f => by unfold St.lc olds; rw [hst, cnt_app, List.flatMap_append, cnt_app]
  have hsn : s.n = s.hn + (p.length + q.length) := by unfold St.n; rw [hst, List.length_append]
  have hcc := hC.cells
  have hn' : (s.left p q C' row' rl is ms').n = s.hn + q.length := rfl
  have hD : (s.left p q C' row' rl is ms').D = s.D ++ ((popC s.look p).map Dead.S ++ endD s.hn p q C') := rfl
  have hts := hI.ts
  rw [hst, List.length_append] at hts
  by_cases w : s.held = false ∧ q = []
  · have hl : endL s.held q (undoL s.look p) = noneL := if_pos w
    have hw : swpC s.held q (undoL s.look p) = cells3 (undoL s.look p) := if_pos w
    rw [hw] at hi
    have hlc' : (s.left p q C' row' rl is ms').lc = [] := by show cells3 (endL s.held q (undoL s.look p)) ++ q.flatMap (fun e => e.old.toList) = []; rw [hl, w.2]; rfl
    have hh0 : s.hn = 0 := by unfold St.hn; rw [w.1]; rfl
    have hol : olds q = [] := by rw [w.2]; rfl
    have hq0 : q.length = 0 := by rw [w.2]; rfl
    have hz : p = [] → ∀ f : Cell → Nat, cnt f (cells3 (undoL s.look p)) = 0 := fun h f => by
      rw [h]; show cnt f (cells3 s.look) = 0
      rw [hI.out w.1 (by rw [hst, h, w.2]; rfl)]; rfl
    have hE : endD s.hn p q C' = if p = [] then [] else [C'.dead] := by
      unfold endD
      by_cases a : p = []
      · rw [if_pos a, if_neg fun h => h.1 a]
      · rw [if_neg a, if_pos ⟨a, by lia⟩]
    refine ⟨by unfold St.left; simp only [if_pos w]; exact deadC_isH _, by unfold St.left; simp only [if_pos w, hl]; exact deadC_rep _, hR, by unfold St.left; simp only [w.2]; trivial, fun _ _ => hl, ⟨X, fun f => ?_⟩, fun f => ?_, fun f => ?_, fun d hd => ?_, hI.tL, hI.tt, by show q.length ≤ t; lia, hm⟩
    · have h1 := hX f
      have h2 := hpc fun c => cnt f c.nums
      have h3 := hlc fun c => cnt f c.nums
      have h4 := hcc fun c => cnt f c.nums
      rw [hlc', hn', hD, hE]
      show _ = cnt f (upto s.L)
      rw [hsn] at h1
      rw [hol, cnt_nil] at h3
      by_cases a : p = []
      · have h5 := hz a fun c => cnt f c.nums
        have h6 : olds p = [] := by rw [a]; rfl
        have h7 : popC s.look p = [] := by rw [a]; rfl
        rw [h6, h7] at h2
        rw [h7]
        rw [if_pos a]
        have h8 : s.hn + (p.length + q.length) = 0 := by rw [a, hq0, hh0]; rfl
        rw [h8] at h1
        rw [hh0, hq0]
        simp only [cnt_flatMap f Cell.nums, cnt_nil, List.map_nil, List.append_nil, List.flatMap_nil, Nat.add_zero] at h1 h2 ⊢
        rw [h6] at h3
        simp only [cnt_nil] at h3
        lia
      · rw [if_neg a]
        have h8 : St.one (s.hn + (p.length + q.length)) = [1] := by
          have : 0 < p.length := List.length_pos_iff.mpr a
          unfold St.one; rw [if_neg (by lia)]
        have h9 : St.one (s.hn + q.length) = [] := by unfold St.one; rw [if_pos (by lia)]
        rw [h8] at h1
        rw [h9]
        simp only [cnt_flatMap f Cell.nums, List.flatMap_append, List.flatMap_cons, List.flatMap_nil, cnt_mapS, dead_nums, cnt_app, cnt_cons, cnt_nil] at h1 ⊢
        lia
    · have h1 := hI.due f
      have h4 := hcc fun c => cnt f (vn c)
      rw [hD, hE]
      show cnt f (s.du ++ is) = cnt f s.gs + _
      rw [cnt_app, hi]
      by_cases a : p = []
      · have h5 := hz a fun c => cnt f (vn c)
        rw [if_pos a]
        simp only [cnt_flatMap f vn, List.flatMap_append, List.flatMap_nil, cnt_mapSa, cnt_app, cnt_nil] at h1 ⊢
        lia
      · rw [if_neg a]
        have h6 : cnt f (C'.cells.flatMap fun c => vnums c.v) = cnt f (C'.cells.flatMap vn) := rfl
        simp only [cnt_flatMap f vn, List.flatMap_append, List.flatMap_cons, List.flatMap_nil, cnt_mapSa, dead_all, h6, cnt_app, cnt_nil] at h1 ⊢
        lia
    · have h1 := hI.told f
      have h2 := hpc fun c => cnt f (vn c)
      have h3 := hlc fun c => cnt f (vn c)
      rw [hlc']
      show cnt f s.ts = cnt f (s.du ++ is) + _
      rw [cnt_app, hi]
      rw [hol, cnt_nil] at h3
      simp only [cnt_flatMap f vn, List.flatMap_nil, cnt_nil] at h1 ⊢
      lia
    · rw [hD, hE] at hd
      rcases List.mem_append.mp hd with hd | hd
      · exact hI.dok d hd
      · rcases List.mem_append.mp hd with hd | hd
        · obtain ⟨c, _, rfl⟩ := List.mem_map.mp hd; trivial
        · split at hd
          · cases hd
          · simp at hd; rw [hd]; exact hC.dead
  · have hl : endL s.held q (undoL s.look p) = undoL s.look p := if_neg w
    have hw : swpC s.held q (undoL s.look p) = [] := if_neg w
    rw [hw] at hi
    have hpos : 0 < s.hn + q.length := by
      unfold St.hn
      cases hh : s.held with
      | true => simp; lia
      | false =>
        have : q ≠ [] := fun h => w ⟨hh, h⟩
        have := List.length_pos_iff.mpr this
        lia
    have hE : endD s.hn p q C' = [] := if_neg fun h => by lia
    have hlc' : ∀ f : Cell → Nat, cnt f (s.left p q C' row' rl is ms').lc = cnt f (cells3 (undoL s.look p)) + cnt f (olds q) := fun f => by unfold St.lc St.left olds; simp only [hl, cnt_app]
    have hone : St.one (s.hn + q.length) = [1] := by unfold St.one; rw [if_neg (by lia)]
    have hone2 : St.one (s.hn + (p.length + q.length)) = [1] := by unfold St.one; rw [if_neg (by lia)]
    refine ⟨by unfold St.left; simp only [if_neg w]; exact hH.trans hI.isH, by unfold St.left; simp only [if_neg w, hl]; exact hC, hR, by unfold St.left; simp only [hl]; exact stackOk_undo p _ q hS, fun a b => absurd ⟨a, b⟩ w, ⟨X, fun f => ?_⟩, fun f => ?_, fun f => ?_, fun d hd => ?_, hI.tL, hI.tt, by show q.length ≤ t; lia, hm⟩
    · have h1 := hX f
      have h2 := hpc fun c => cnt f c.nums
      have h3 := hlc fun c => cnt f c.nums
      have h5 := hlc' fun c => cnt f c.nums
      rw [hn', hD, hE, hone]
      rw [hsn, hone2] at h1
      show _ = cnt f (upto s.L)
      simp only [cnt_flatMap f Cell.nums, List.flatMap_append, List.flatMap_nil, cnt_mapS, cnt_app, cnt_nil] at h1 ⊢
      lia
    · have h1 := hI.due f
      rw [hD, hE]
      show cnt f (s.du ++ is) = cnt f s.gs + _
      rw [cnt_app, hi]
      simp only [List.flatMap_append, List.flatMap_nil, cnt_mapSa, cnt_app, cnt_nil] at h1 ⊢
      lia
    · have h1 := hI.told f
      have h2 := hpc fun c => cnt f (vn c)
      have h3 := hlc fun c => cnt f (vn c)
      have h5 := hlc' fun c => cnt f (vn c)
      show cnt f s.ts = cnt f (s.du ++ is) + _
      rw [cnt_app, hi]
      simp only [cnt_flatMap f vn, List.flatMap_nil, cnt_nil] at h1 ⊢
      lia
    · rw [hD, hE, List.append_nil] at hd
      rcases List.mem_append.mp hd with hd | hd
      · exact hI.dok d hd
      · obtain ⟨c, _, rfl⟩ := List.mem_map.mp hd; trivial
end Mine
end
section
set_option maxHeartbeats 4000000
namespace Mine
open PySem
local macro_rules | `(tactic| leaf_len) => ixsOf 46
variable {X : Wb} {σ τ : MS} {n k t rl g m : Nat} {s : St} {scr : List Int} {fr : MF} {row' : List (Int × MV)} {is : List Int} {C' : Thg} {p q : List Ent} {ms' : List Nat} {e1 e2 : ME}
noncomputable def levB (e1 e2 : ME) : List MSt := [.expr (.meth (.cel "due") "extend" [.call (.val (.top 653)) [.cel "own", e1]]), .expr (.call (.val (.top 443)) [.cel "run", e2])]
theorem eval_653 (hF : LawF fr) (h1 : σ.obj 5 = some (.cell (some (.loc 41)))) (he : EvM X (n + 1) fr e1 σ (.int m) σ) (e : CaM X (n + 1) (.top 653) [.loc 41, .int m] [] σ (.loc g) τ) : EvM X (n + 1) fr (.call (.val (.top 653)) [.cel "own", e1]) σ (.loc g) τ := by
  have f1 := hF.cel
  exact em_call em_val (ems_cons (em_cel (by rw [f1]; rfl) h1) (ems_cons he ems_nil)) e
theorem exec_443 {υ : MS} (hF : LawF fr) (h1 : σ.obj 6 = some (.cell (some (.loc 22)))) (he : EvM X (n + 1) fr e2 σ (.int m) τ) (e : CaM X (n + 1) (.top 443) [.loc 22, .int m] [] τ .none υ) : ExM X (n + 1) (.expr (.call (.val (.top 443)) [.cel "run", e2])) fr σ .next fr υ := by
  have f1 := hF.cel
  exact xm_expr (em_call em_val (ems_cons (em_cel (by rw [f1]; rfl) h1) (ems_cons he ems_nil)) e)
theorem op_leave (hF : LawF fr) (ht : t ≤ 12) (hI : Inv s t) (hm : ms'.length ≤ s.ms.length) (he1 : ∀ σ : MS, σ.obj 16 = some (.list (msV s.ms)) → EvM X (n + 7) fr e1 σ (.int m) σ)
    (he2 : ∀ σ : MS, σ.obj 16 = some (.list (msV s.ms)) → EvM X (n + 7) fr e2 σ (.int m) (σ.put 16 (.list (msV ms')))) (H : Led σ (s.led scr)) {P_ : Prop} (K_ : ∀ σ' s', (ExsM X (n + 7) (levB e1 e2) fr σ .next fr σ') → (Led σ' (s'.led scr)) → (Inv s' t) → (s'.a = s.a) → (s'.hh = s.hh) → (s'.held = s.held) → (s'.stk = s.stk.drop (s.stk.length - m)) → P_) : P_ := by
  have d1 := hI.dLen
  have d2 := hI.duLen
  have d3 := hI.ts
  have d4 := hI.tm
  let p := s.stk.take (s.stk.length - m)
  let q := s.stk.drop (s.stk.length - m)
  have hpq : s.stk = p ++ q := (List.take_append_drop _ _).symm
  have hpl : p.length = s.stk.length - m := by simp [p]
  have hql : q.length = s.stk.length - (s.stk.length - m) := by simp [q]
  have hq1 : q.length ≤ m := by lia
  have hq2 : p ≠ [] → q.length = m := fun h => by
    have := List.length_pos_iff.mpr h
    lia
  have hS := hI.stk
  rw [hpq] at hS
  have hout : s.held = false → p ++ q = [] → s.look = noneL := fun a b => hI.out a (hpq.trans b)
  refine left_ (X := X) (n := n + 4) (h := s.held) (rl := s.rl) (p := p) (q := q) (m := m) (R := [(1, .cell (some (.loc 42))), (2, .cell (some (.loc 43))), (3, cGone), (4, .cell (some (.bool s.hh))), (5, .cell (some (.loc 41))), (6, .cell (some (.loc 22))), (7, .cell (some (.loc 33))), (8, .cell (some (.loc 15))),
      (11, limO), (18, fGone), (19, cntO), (20, .dI []), (21, .dI []), (22, runO), (43, fElem), (44, fPut), (0, cdO), (10, purseO s.a), (9, rowO scr), (12, heapO s.L s.z), (s.z, .list (locs s.D)), (14, .list (s.gs.map .int)), (15, .list (s.ts.map .int)), (42, .list (s.du.map .int)),
      (16, .list (msV s.ms)), (30, .list (svOf (p ++ q))), (37, scO 2 1 false 38 (if s.held then .loc 36 else .none)), (36, refO 33)] ++ (thingL s.C (s.hn + (p ++ q).length) ++ ((p ++ q).flatMap (tS s.C.isH) ++ s.D.flatMap (·.foot false)))) hS hI.row hout hq1 hq2 (by lia)
    (H.perm (by rw [hI.isH, ← hpq, ← St.n]; exact permR [_, _, _, _, _, _, _, _, _, _, _, _, _, _, _, _, _, _, _, _, _, _, _, _, _, _, _, _, _, _, _] [_, _, _, _] (.a (.c 0 (.c 1 (.c 2 (.c 3 (.c 4 (.c 5 (.c 6 (.c 7 (.c 8 (.c 9 (.c 10 (.c 11 (.c 12 (.c 13 (.c 14 (.c 15 (.c 16 .e))))))))))))))))) (.c 17 (.c 18 (.c 19 (.c 20 (.c 21 (.c 22 (.c 23 (.c 24 (.c 25 (.c 26 (.c 27 (.c 28 (.c 29 (.c 30 (.a (.s 0) (.a (.s 1) (.a (.s 2) (.s 3))))))))))))))))))) (.c 27 (.c 26 (.c 28 (.a (.s 2) (.a (.c 0 (.c 1 (.c 2 (.c 3 (.c 4 (.c 5 (.c 6 (.c 7 (.c 8 (.c 9 (.c 10 (.c 11 (.c 12 (.c 13 (.c 14 (.c 15 (.c 16 (.c 17 (.c 18 (.c 19 (.c 20 (.c 21 (.c 22 (.c 23 (.c 24 (.c 25 (.c 29 (.c 30 .e)))))))))))))))))))))))))))) (.a (.s 0) (.a (.s 1) (.s 3)))))))) rfl)) ?_
  intro σ1 g row' rl' is c1 hR hi H1
  have H1p : Led σ1 ((g, .list (is.map .int)) :: ((42, .list (s.du.map .int)) :: ([(1, .cell (some (.loc 42))), (2, .cell (some (.loc 43))), (3, cGone), (4, .cell (some (.bool s.hh))), (5, .cell (some (.loc 41))), (6, .cell (some (.loc 22))), (7, .cell (some (.loc 33))), (8, .cell (some (.loc 15))),
      (11, limO), (18, fGone), (19, cntO), (20, .dI []), (21, .dI []), (22, runO), (43, fElem), (44, fPut), (0, cdO), (10, purseO s.a), (9, rowO scr), (12, heapO s.L s.z), (s.z, .list (locs s.D)), (14, .list (s.gs.map .int)), (15, .list (s.ts.map .int)),
      (16, .list (msV s.ms)), (30, .list (svOf (p ++ q))), (37, scO 2 1 false 38 (if s.held then .loc 36 else .none)), (36, refO 33), (41, ownO rl' s.held), (40, .list (asOf q)), (rl', .dI row')] ++ (thingL s.C (s.hn + (p ++ q).length) ++ ((p ++ q).flatMap (tS s.C.isH) ++ (s.D.flatMap (·.foot false) ++ q.map tA)))))) :=
    H1.perm (by exact permR [_, _, _, _, _, _, _, _, _, _, _, _, _, _, _, _, _, _, _, _, _, _, _, _, _, _, _, _, _, _, _, _] [_, _, _, _] (.c 0 (.c 1 (.c 2 (.c 3 (.a (.s 0) (.a (.c 4 (.c 5 (.c 6 (.c 7 (.c 8 (.c 9 (.c 10 (.c 11 (.c 12 (.c 13 (.c 14 (.c 15 (.c 16 (.c 17 (.c 18 (.c 19 (.c 20 (.c 21 (.c 22 (.c 23 (.c 24 (.c 25 (.c 26 (.c 27 (.c 28 (.c 29 (.c 30 (.c 31 .e)))))))))))))))))))))))))))) (.a (.s 1) (.a (.s 2) (.s 3))))))))) (.c 0 (.c 27 (.a (.c 4 (.c 5 (.c 6 (.c 7 (.c 8 (.c 9 (.c 10 (.c 11 (.c 12 (.c 13 (.c 14 (.c 15 (.c 16 (.c 17 (.c 18 (.c 19 (.c 20 (.c 21 (.c 22 (.c 23 (.c 24 (.c 25 (.c 26 (.c 28 (.c 29 (.c 30 (.c 31 (.c 1 (.c 2 (.c 3 .e)))))))))))))))))))))))))))))) (.a (.s 1) (.a (.s 2) (.a (.s 3) (.s 0))))))) rfl)
  have H2 := H1p.tail
  have hg : ¬ 42 = g := H1p.ne (i := 1) (j := 0) rfl rfl (by decide)
  have hisl : is.length < 1000 := by
    have a := hI.told fun _ => 1
    have b := hi fun _ => 1
    have c := pop_cells (fun c => cnt (fun _ => 1) (vn c)) p s.look q hS
    have dd : cnt (fun c => cnt (fun _ => 1) (vn c)) s.lc = cnt (fun c => cnt (fun _ => 1) (vn c)) (cells3 s.look) + (cnt (fun c => cnt (fun _ => 1) (vn c)) (olds p) + cnt (fun c => cnt (fun _ => 1) (vn c)) (olds q)) := by unfold St.lc olds; rw [hpq, cnt_app, List.flatMap_append, cnt_app]
    have e : cnt (fun c => cnt (fun _ => 1) (vn c)) (swpC s.held q (undoL s.look p)) ≤ cnt (fun c => cnt (fun _ => 1) (vn c)) (cells3 (undoL s.look p)) := by
      unfold swpC; split
      · exact Nat.le_refl _
      · exact Nat.zero_le _
    have h1 := hI.tt
    simp only [cnt_flatMap] at a b
    rw [cnt_len] at a b
    rw [cnt_len] at a
    lia
  have e1' := ext_due (X := X) (n := n + 6) hF (H.get _ (by leaf_len)) (H.get _ (by leaf_len)) (eval_653 hF (H.get _ (by leaf_len)) (he1 σ (H.get _ (by leaf_len))) c1) (H1p.get 1 rfl) (H1p.get 0 rfl) (by rw [List.length_map]; lia) (by rw [List.length_map]; exact hisl) hg
  rw [← List.map_append] at e1'
  have H3 := H2.set 0 rfl (.list ((s.du ++ is).map .int))
  have H4 : Led ((σ1.put 42 (.list ((s.du ++ is).map .int))).put 16 (.list (msV ms'))) ((16, .list (msV ms')) :: (42, .list ((s.du ++ is).map .int)) :: ([(1, .cell (some (.loc 42))), (2, .cell (some (.loc 43))), (3, cGone), (4, .cell (some (.bool s.hh))), (5, .cell (some (.loc 41))), (6, .cell (some (.loc 22))), (7, .cell (some (.loc 33))), (8, .cell (some (.loc 15))),
      (11, limO), (18, fGone), (19, cntO), (20, .dI []), (21, .dI []), (22, runO), (43, fElem), (44, fPut), (0, cdO), (10, purseO s.a), (9, rowO scr), (12, heapO s.L s.z), (s.z, .list (locs s.D)), (14, .list (s.gs.map .int)), (15, .list (s.ts.map .int)),
      (30, .list (svOf (p ++ q))), (37, scO 2 1 false 38 (if s.held then .loc 36 else .none)), (36, refO 33), (41, ownO rl' s.held), (40, .list (asOf q)), (rl', .dI row')] ++ (thingL s.C (s.hn + (p ++ q).length) ++ ((p ++ q).flatMap (tS s.C.isH) ++ (s.D.flatMap (·.foot false) ++ q.map tA))))) :=
    ((H3.perm (L' := (16, .list (msV s.ms)) :: (42, .list ((s.du ++ is).map .int)) :: ([(1, .cell (some (.loc 42))), (2, .cell (some (.loc 43))), (3, cGone), (4, .cell (some (.bool s.hh))), (5, .cell (some (.loc 41))), (6, .cell (some (.loc 22))), (7, .cell (some (.loc 33))), (8, .cell (some (.loc 15))),
      (11, limO), (18, fGone), (19, cntO), (20, .dI []), (21, .dI []), (22, runO), (43, fElem), (44, fPut), (0, cdO), (10, purseO s.a), (9, rowO scr), (12, heapO s.L s.z), (s.z, .list (locs s.D)), (14, .list (s.gs.map .int)), (15, .list (s.ts.map .int)),
      (30, .list (svOf (p ++ q))), (37, scO 2 1 false 38 (if s.held then .loc 36 else .none)), (36, refO 33), (41, ownO rl' s.held), (40, .list (asOf q)), (rl', .dI row')] ++ (thingL s.C (s.hn + (p ++ q).length) ++ ((p ++ q).flatMap (tS s.C.isH) ++ (s.D.flatMap (·.foot false) ++ q.map tA))))) (permC fun f => by simp only [List.set_cons_zero, cnt_app, cnt_cons, cnt_nil]; lia)).set 0 rfl (.list (msV ms')))
  refine leave_ (X := X) (n := n) (h := s.hn) (L := (s.L : Int)) (z := s.z) (C := s.C) (D := s.D) (p := p) (q := q) (m := m)
    (R := [(16, .list (msV ms')), (42, .list ((s.du ++ is).map .int)), (1, .cell (some (.loc 42))), (2, .cell (some (.loc 43))), (3, cGone), (4, .cell (some (.bool s.hh))), (5, .cell (some (.loc 41))), (6, .cell (some (.loc 22))), (7, .cell (some (.loc 33))), (8, .cell (some (.loc 15))),
      (11, limO), (18, fGone), (20, .dI []), (21, .dI []), (43, fElem), (44, fPut), (0, cdO), (10, purseO s.a), (9, rowO scr), (14, .list (s.gs.map .int)), (15, .list (s.ts.map .int)),
      (37, scO 2 1 false 38 (if s.held then .loc 36 else .none)), (36, refO 33), (41, ownO rl' s.held), (40, .list (asOf q)), (rl', .dI row')] ++ q.map tA) hS hI.rep hq1 hq2 (by lia) (by lia)
    (H4.perm (by exact permR [_, _, _, _, _, _, _, _, _, _, _, _, _, _, _, _, _, _, _, _, _, _, _, _, _, _, _, _, _, _, _] [_, _, _, _] (.c 0 (.c 1 (.a (.c 2 (.c 3 (.c 4 (.c 5 (.c 6 (.c 7 (.c 8 (.c 9 (.c 10 (.c 11 (.c 12 (.c 13 (.c 14 (.c 15 (.c 16 (.c 17 (.c 18 (.c 19 (.c 20 (.c 21 (.c 22 (.c 23 (.c 24 (.c 25 (.c 26 (.c 27 (.c 28 (.c 29 (.c 30 .e))))))))))))))))))))))))))))) (.a (.s 0) (.a (.s 1) (.a (.s 2) (.s 3))))))) (.c 15 (.c 12 (.c 21 (.c 25 (.c 22 (.a (.s 0) (.a (.s 1) (.a (.s 2) (.a (.c 0 (.c 1 (.c 2 (.c 3 (.c 4 (.c 5 (.c 6 (.c 7 (.c 8 (.c 9 (.c 10 (.c 11 (.c 13 (.c 14 (.c 16 (.c 17 (.c 18 (.c 19 (.c 20 (.c 23 (.c 24 (.c 26 (.c 27 (.c 28 (.c 29 (.c 30 .e)))))))))))))))))))))))))) (.s 3)))))))))) rfl)) ?_
  intro σ2 C' D' c2 hH hC hD' H5
  have e2' := exec_443 (X := X) (n := n + 6) hF (H3.get _ (by leaf_len)) (he2 _ (H3.get _ (by leaf_len))) c2
  refine K_ σ2 (s.left p q C' row' rl' is ms') (xms_cons e1' (xms_one e2')) ?_ (inv_left hI hpq hH hC hR hi (by lia)) rfl rfl rfl rfl
  refine H5.perm (permC fun f => ?_)
  subst hD'
  have hth : thingL (if s.held = false ∧ q = [] then deadC s.hh else C') (s.hn + q.length) = thingL C' (s.hn + q.length) := by
    by_cases w : s.held = false ∧ q = []
    · have : s.hn + q.length = 0 := by unfold St.hn; rw [w.1, w.2]; rfl
      rw [this]; rfl
    · rw [if_neg w]
  have hhn : (s.left p q C' row' rl' is ms').n = s.hn + q.length := rfl
  have hled : (s.left p q C' row' rl' is ms').led scr = fixL s.hh ++ ((10, purseO s.a) :: (9, rowO scr) :: (12, heapO s.L s.z) :: (s.z, .list (locs (s.D ++ ((popC s.look p).map Dead.S ++ endD s.hn p q C')))) :: (14, .list (s.gs.map .int)) :: (15, .list (s.ts.map .int)) :: (42, .list ((s.du ++ is).map .int)) ::
    (16, .list (msV ms')) :: (30, .list (svOf q)) :: (40, .list (asOf q)) :: (41, ownO rl' s.held) :: (rl', .dI row') :: (37, scO 2 1 false 38 (if s.held then .loc 36 else .none)) :: (36, refO 33) ::
    (thingL C' (s.hn + q.length) ++ (q.flatMap (tS s.hh) ++ (q.map tA ++ (s.D ++ ((popC s.look p).map Dead.S ++ endD s.hn p q C')).flatMap (·.foot false))))) := by
    rw [← hth]; rfl
  rw [hled]
  simp only [fixL, hI.isH, cnt_app, cnt_cons, cnt_nil]
  lia
end Mine
end
section
set_option maxHeartbeats 4000000
namespace Mine
open PySem
local macro_rules | `(tactic| leaf_len) => ixsOf 46
variable {X : Wb} {σ τ : MS} {n k t rl g m : Nat} {s : St} {scr : List Int} {fr : MF} {a b gs du : List Int} {w fs : Int} {bb : Bool} {R : List (Nat × MO)}
theorem insertI_comm (x y : Int) : ∀ l, insertI x (insertI y l) = insertI y (insertI x l)
  | [] => by
    unfold insertI insertI
    by_cases h : x ≤ y
    · by_cases h' : y ≤ x
      · have : x = y := by lia
        subst this; rfl
      · simp [insertI, h, h']
    · have h' : y ≤ x := by lia
      simp [insertI, h, h']
  | z :: l => by
    have ih := insertI_comm x y l
    by_cases h1 : y ≤ z
    · by_cases h2 : x ≤ z
      · by_cases h3 : x ≤ y
        · by_cases h4 : y ≤ x
          · have : x = y := by lia
            subst this; rfl
          · simp [insertI, h1, h2, h3, h4]
        · have h4 : y ≤ x := by lia
          simp [insertI, h1, h2, h3, h4]
      · have h3 : ¬ x ≤ y := by lia
        simp [insertI, h1, h2, h3]
    · by_cases h2 : x ≤ z
      · have h3 : ¬ y ≤ x := by lia
        simp [insertI, h1, h2, h3]
      · simp [insertI, h1, h2, ih]
theorem sortI_permP {a b : List Int} (h : a.Perm b) : sortI a = sortI b := by
  induction h with
  | nil => rfl
  | cons x _ ih => rw [sortI, sortI, ih]
  | swap x y l => rw [sortI, sortI, sortI, sortI, insertI_comm]
  | trans _ _ p q => rw [p, q]
noncomputable def chk : MSt := .ite
      (.cmp
        (.ne)
        (.call (.val (.bi "sorted")) [.cel "gone"])
        (.call (.val (.bi "sorted")) [.cel "due"]))
      [.ret (.bool false)]
      []
theorem st_chk (hF : LawF fr) (hp : gs.Perm du) (hl : gs.length < 64) (H : Led σ ((3, .cell (some (.loc 14))) :: (1, .cell (some (.loc 42))) :: (14, .list (gs.map .int)) :: (42, .list (du.map .int)) :: R)) {P_ : Prop} (K_ : ∀ σ', (ExM X (n + 1) chk fr σ .next fr σ') → (Led σ' ((3, .cell (some (.loc 14))) :: (1, .cell (some (.loc 42))) :: (14, .list (gs.map .int)) :: (42, .list (du.map .int)) :: R)) → P_) : P_ := by
  have f1 := hF.cel
  have hl' := hp.length_eq
  have H1 := H.new (.list ((sortI gs).map .int))
  have H2 := H1.new (.list ((sortI du).map .int))
  have g : (!decide (sortI gs = sortI du)) = false := by rw [sortI_permP hp, decide_eq_true rfl]; rfl
  exact K_ _ (xm_ite (p := false) (tm_cmp (em_call em_val (ems_cons (em_cel (by rw [f1]; rfl) (H.get 0 rfl)) ems_nil) (cm_bi (im_sorted (H.get 2 rfl) hl))) (em_call em_val (ems_cons (em_cel (by rw [f1]; rfl) (H1.get 2 rfl)) ems_nil) (cm_bi (im_sorted (H1.get 4 rfl) (by lia)))) (g ▸ km_neI (H2.get 1 rfl) (H2.get 0 rfl))) xms_nil) H2.tail.tail
theorem inv_a (hI : Inv s t) (a : Nat) : Inv { s with a := a } t := ⟨hI.isH, hI.rep, hI.row, hI.stk, hI.out, hI.num, hI.due, hI.told, hI.dok, hI.tL, hI.tt, hI.ts, hI.tm⟩
theorem op_coin (hf : 0 < fs) (hr : scr.length ≤ 50) (ha : s.a < 100) (H : Led σ (s.led scr)) {P_ : Prop} (K_ : ∀ σ' r, (CaM X (n + 2) (.top 634) [.loc 10, .int fs] [] σ (.int r) σ') → (0 ≤ r) → (r < fs) → (Led σ' (St.led { s with a := s.a + 1 } scr)) → P_) : P_ := by
  refine coin_ (X := X) (n := n) (R := fixL s.hh ++ ((12, heapO s.L s.z) :: (s.z, .list (locs s.D)) :: (14, .list (s.gs.map .int)) :: (15, .list (s.ts.map .int)) :: (42, .list (s.du.map .int)) ::
    (16, .list (s.ms.map fun m : Nat => MV.int (m : Int))) :: (30, .list (svOf s.stk)) :: (40, .list (asOf s.stk)) :: (41, ownO s.rl s.held) :: (s.rl, .dI s.row) :: (37, scO 2 1 false 38 (if s.held then .loc 36 else .none)) :: (36, refO 33) ::
    (thingL s.C s.n ++ (s.stk.flatMap (tS s.hh) ++ (s.stk.map tA ++ s.D.flatMap (·.foot false)))))) hf hr ha (H.perm (by exact permR [_, _, _, _, _, _, _, _, _, _, _, _, _, _] [_, _, _, _, _] (.a (.s 0) (.c 0 (.c 1 (.c 2 (.c 3 (.c 4 (.c 5 (.c 6 (.c 7 (.c 8 (.c 9 (.c 10 (.c 11 (.c 12 (.c 13 (.a (.s 1) (.a (.s 2) (.a (.s 3) (.s 4))))))))))))))))))) (.a (.c 0 (.c 1 .e)) (.a (.s 0) (.c 2 (.c 3 (.c 4 (.c 5 (.c 6 (.c 7 (.c 8 (.c 9 (.c 10 (.c 11 (.c 12 (.c 13 (.a (.s 1) (.a (.s 2) (.a (.s 3) (.s 4)))))))))))))))))) rfl)) ?_
  intro σ' r e h1 h2 H1 _
  exact K_ σ' r e h1 h2 (H1.perm (by exact permR [_, _, _, _, _, _, _, _, _, _, _, _, _, _] [_, _, _, _, _] (.a (.c 0 (.c 1 .e)) (.a (.s 0) (.c 2 (.c 3 (.c 4 (.c 5 (.c 6 (.c 7 (.c 8 (.c 9 (.c 10 (.c 11 (.c 12 (.c 13 (.a (.s 1) (.a (.s 2) (.a (.s 3) (.s 4)))))))))))))))))) (.a (.s 0) (.c 0 (.c 1 (.c 2 (.c 3 (.c 4 (.c 5 (.c 6 (.c 7 (.c 8 (.c 9 (.c 10 (.c 11 (.c 12 (.c 13 (.a (.s 1) (.a (.s 2) (.a (.s 3) (.s 4))))))))))))))))))) rfl))
noncomputable def sw1 : MSt := .asgSw
      ["way", "key"]
      (.tup
        [.call (.val (.top 634)) [.var "purse", .int 6],
         .call (.val (.top 634)) [.var "purse", .int 3]])
theorem st_sw (hF : LawF fr) (hr : scr.length ≤ 50) (ha : s.a < 98) (H : Led σ (s.led scr)) {P_ : Prop} (K_ : ∀ σ' w k, (ExM X (n + 2) sw1 fr σ .next ⟨setL "way" (.int w) (setL "key" (.int ((k : Nat) : Int)) fr.loc), fr.cel, fr.law⟩ σ') → (k < 3) → (0 ≤ w) → (w < 6) → (Led σ' (St.led { s with a := s.a + 2 } scr)) → P_) : P_ := by
  have f1 := hF.purse
  refine op_coin (X := X) (n := n) (fs := 6) (by decide) hr (by lia) H ?_
  intro σ1 w e1 w1 w2 H1
  refine op_coin (X := X) (n := n) (fs := 3) (by decide) hr (by show s.a + 1 < 100; lia) H1 ?_
  intro σ2 r e2 r1 r2 H2
  refine K_ (σ2.new (.tup [.int w, .int r])) w r.toNat ?_ (by lia) w1 w2 (H2.newL _)
  rw [Int.toNat_of_nonneg r1]
  exact xm_asgSw (xs := ["way", "key"]) (em_tup (ems_cons (em_call em_val (ems_cons (em_var f1) (ems_cons em_int ems_nil)) e1) (ems_cons (em_call em_val (ems_cons (em_var f1) (ems_cons em_int ems_nil)) e2) ems_nil)) (Nat.le_of_ble_eq_true rfl)) (by rw [obj_new, if_pos rfl]) rfl
noncomputable def ith : MSt := .asg
      (.var "is_there")
      (.or
        (.sub (.cel "own") (.str "is_held"))
        (.cmp (.ne) (.sub (.cel "own") (.str "aside")) (.list [])))
theorem st_ith (hF : LawF fr) (hs : s.stk.length < 900) (H : Led σ (s.led scr)) {P_ : Prop} (K_ : ∀ σ', (ExM X (n + 2) ith fr σ .next ⟨setL "is_there" (.bool (decide (0 < s.n))) fr.loc, fr.cel, fr.law⟩ σ') → (Led σ' (s.led scr)) → P_) : P_ := by
  have f1 := hF.cel
  have h5 : σ.obj 5 = some (.cell (some (.loc 41))) := H.get _ (by leaf_len)
  have h41 : σ.obj 41 = some (ownO s.rl s.held) := H.get _ (by leaf_len)
  have h40 : σ.obj 40 = some (.list (asOf s.stk)) := H.get _ (by leaf_len)
  have b40 : 40 < σ.next := H.bound _ (by leaf_len)
  have n1 : ¬ 40 = σ.next := by lia
  have hl : (asOf s.stk).length < 1000 := by rw [asOf_len]; lia
  have c5 : getL' "own" fr.cel = some 5 := by rw [f1]; rfl
  have e1 : EvM X (n + 2) fr (.sub (.cel "own") (.str "is_held")) σ (.bool s.held) σ := em_sub (em_cel c5 h5) em_str (rm_key (dkS X.w) h41 (find_at (j := 2) rfl (by kernel_rfl)))
  have e2 : EvM X (n + 2) fr (.sub (.cel "own") (.str "aside")) σ (.loc 40) σ := em_sub (em_cel c5 h5) em_str (rm_key (dkS X.w) h41 (find_at (j := 1) rfl (by kernel_rfl)))
  have hd : s.held = false → (!(asOf s.stk).isEmpty) = decide (0 < s.n) := fun hh => by
    have hn : s.n = s.stk.length := by unfold St.n St.hn; rw [hh]; simp
    rw [hn]; cases hq : s.stk with
    | nil => rfl
    | cons e r => rw [asOf_cons, isE]; simp
  cases hh : s.held with
  | true =>
    try rw [hh] at K_
    rw [hh] at e1
    have : 0 < s.n := by unfold St.n St.hn; rw [hh]; simp; lia
    exact K_ σ (xm_asg rfl (em_or e1 (fun h => by cases h) (fun _ => ⟨by rw [decide_eq_true this], rfl⟩)) sm_var) H
  | false =>
    try rw [hh] at K_
    rw [hh] at e1
    exact K_ (σ.new (.list [])) (xm_asg rfl (em_or e1 (fun _ => hd hh ▸ em_cmp e2 (em_list ems_nil (Nat.le_of_ble_eq_true rfl)) (km_nen (by rw [obj_new, if_neg n1]; exact h40) (by rw [obj_new, if_pos rfl]))) (fun h => by cases h)) sm_var) (H.newL _)
end Mine
end
section
set_option maxHeartbeats 4000000
namespace Mine
open PySem
local macro_rules | `(tactic| leaf_len) => ixsOf 46
variable {X : Wb} {σ τ : MS} {n k t rl g m : Nat} {s : St} {scr : List Int} {fr : MF} {a b gs du : List Int} {w fs : Int} {bb : Bool} {R : List (Nat × MO)} {ms : List Nat}
noncomputable def brT1 : ME := .and (.cmp (.lt) (.var "way") (.int 2)) (.var "is_there")
noncomputable def brT2 : ME := .and (.cmp (.eq) (.var "way") (.int 2)) (.var "is_there")
noncomputable def brT3 : ME := .and (.cmp (.eq) (.var "way") (.int 3)) (.sub (.cel "own") (.str "is_held"))
noncomputable def brT4 : ME := .and (.cmp (.gt) (.var "way") (.int 3)) (.cmp (.ne) (.var "marks") (.list []))
noncomputable def putS : MSt := .expr (.call (.var "put") [.var "key"])
noncomputable def levE1 : ME := .sub (.var "marks") (.int (-1))
noncomputable def levE2 : ME := .meth (.var "marks") "pop" []
noncomputable def br : MSt := .ite brT1 locB [.ite brT2 [putS] [.ite brT3 dropB [.ite brT4 (levB levE1 levE2) []]]]
noncomputable def setSt : MSt := .expr (.meth (.attr (.cel "run") "counter") "settle" [.int 0])
noncomputable def turnB : List MSt := [sw1, ith, br, setSt, chk]
theorem tst1 (hw : getL' "way" fr.loc = some (.int w)) (hb : getL' "is_there" fr.loc = some (.bool bb)) : TeM X n fr brT1 σ (decide (w < 2) && bb) σ :=
  tm_and (tm_cmp (em_var hw) em_int (km_int (y := decide (w < 2)) rfl)) (fun h => by rw [h, Bool.true_and]; exact tm_of (em_var hb) rfl) fun h => ⟨by rw [h]; rfl, rfl⟩
theorem tst2 (hw : getL' "way" fr.loc = some (.int w)) (hb : getL' "is_there" fr.loc = some (.bool bb)) : TeM X n fr brT2 σ (decide (w = 2) && bb) σ :=
  tm_and (tm_cmp (em_var hw) em_int (km_int (y := decide (w = 2)) rfl)) (fun h => by rw [h, Bool.true_and]; exact tm_of (em_var hb) rfl) fun h => ⟨by rw [h]; rfl, rfl⟩
theorem tst3 (hF : LawF fr) (hw : getL' "way" fr.loc = some (.int w)) (h5 : σ.obj 5 = some (.cell (some (.loc 41)))) (h41 : σ.obj 41 = some (ownO rl bb)) : TeM X n fr brT3 σ (decide (w = 3) && bb) σ :=
  have f1 := hF.cel
  tm_and (tm_cmp (em_var hw) em_int (km_int (y := decide (w = 3)) rfl)) (fun h => by rw [h, Bool.true_and]; exact tm_of (em_sub (em_cel (by rw [f1]; rfl) h5) em_str (rm_key (dkS X.w) h41 (find_at (j := 2) rfl (by kernel_rfl)))) rfl) fun h => ⟨by rw [h]; rfl, rfl⟩
theorem tst4 (hF : LawF fr) (hw : getL' "way" fr.loc = some (.int w)) (h : w > 3) (h16 : σ.obj 16 = some (.list (msV ms))) (hb : 16 < σ.next) : TeM X n fr brT4 σ (!ms.isEmpty) (σ.new (.list [])) := by
  have n1 : ¬ 16 = σ.next := by lia
  have he : (msV ms).isEmpty = ms.isEmpty := by cases ms <;> rfl
  exact tm_andT (tm_cmp (em_var hw) em_int (km_int (congrArg some (decide_eq_true h)))) (tm_cmp (em_var hF.marks) (em_list ems_nil (Nat.le_of_ble_eq_true rfl)) (he ▸ km_nen (by rw [obj_new, if_neg n1]; exact h16) (by rw [obj_new, if_pos rfl])))
theorem tst5 (hw : getL' "way" fr.loc = some (.int w)) (h : ¬ w > 3) : TeM X n fr brT4 σ false σ := tm_andF (tm_cmp (em_var hw) em_int (km_int (congrArg some (decide_eq_false h))))
theorem inv_mono (hI : Inv s t) : Inv s (t + 1) := ⟨hI.isH, hI.rep, hI.row, hI.stk, hI.out, hI.num, hI.due, hI.told, hI.dok, by have := hI.tL; lia, by have := hI.tt; lia, by have := hI.ts; lia, by have := hI.tm; lia⟩
theorem st_put (hF : LawF fr) (hkey : getL' "key" fr.loc = some (.int k)) {v : MV} (e : CaM X (n + 1) (.loc 44) [.int k] [] σ v τ) : ExM X (n + 1) putS fr σ .next fr τ := by
  exact xm_expr (em_call (em_var hF.put) (ems_cons (em_var hkey) ems_nil) e)
theorem lev_1 {ms0 : List Nat} (hF : LawF fr) (hm : ms0.length < 900) (h : σ.obj 16 = some (.list (msV (ms0 ++ [m])))) : EvM X n fr levE1 σ (.int m) σ := by
  rw [← msV_app] at h
  exact em_sub (em_var hF.marks) em_int (rm_last h (by unfold msV; rw [List.length_append, List.length_map, List.length_singleton]; lia) List.getLast?_concat)
theorem lev_2 {ms0 : List Nat} (hF : LawF fr) (hm : ms0.length < 900) (h : σ.obj 16 = some (.list (msV (ms0 ++ [m])))) : EvM X n fr levE2 σ (.int m) (σ.put 16 (.list (msV ms0))) := by
  rw [← msV_app] at h
  exact em_meth (em_var hF.marks) (mm_pop h) ems_nil (cm_bi (im_pop h (by unfold msV; rw [List.length_map]; lia)))
theorem st_br (hF : LawF fr) (hw : getL' "way" fr.loc = some (.int w)) (hkey : getL' "key" fr.loc = some (.int k)) (hb : getL' "is_there" fr.loc = some (.bool (decide (0 < s.n)))) (hk : k < 3) (ht : t ≤ 11) (hI : Inv s t) (H : Led σ (s.led scr)) {P_ : Prop} (K_ : ∀ σ' s', (ExM X 9 br fr σ .next fr σ') → (Led σ' (s'.led scr)) → (Inv s' (t + 1)) → (s'.a = s.a) → (s'.hh = s.hh) → P_) : P_ := by
  have h5 : σ.obj 5 = some (.cell (some (.loc 41))) := H.get _ (by leaf_len)
  have h41 : σ.obj 41 = some (ownO s.rl s.held) := H.get _ (by leaf_len)
  have h16 : σ.obj 16 = some (.list (msV s.ms)) := H.get _ (by leaf_len)
  have b16 : 16 < σ.next := H.bound _ (by leaf_len)
  have hm := hI.tm
  have t1 := tst1 (X := X) (n := 9) (σ := σ) hw hb
  have t2 := tst2 (X := X) (n := 9) (σ := σ) hw hb
  have t3 := tst3 (X := X) (n := 9) hF hw h5 h41
  have no : ∀ {τ s'}, ExsM X 9 [.ite brT4 (levB levE1 levE2) []] fr σ .next fr τ → Led τ (St.led s' scr) → Inv s' (t + 1) → s'.a = s.a → s'.hh = s.hh → (decide (w < 2) && decide (0 < s.n)) = false → (decide (w = 2) && decide (0 < s.n)) = false → (decide (w = 3) && s.held) = false →
      P_ := fun {τ s'} e h1 h2 h3 h4 c1 c2 c3 =>
    K_ τ s' (xm_ite (c1 ▸ t1) (xms_one (xm_ite (c2 ▸ t2) (xms_one (xm_ite (c3 ▸ t3) e))))) h1 h2 h3 h4
  by_cases c1 : (decide (w < 2) && decide (0 < s.n)) = true
  · rw [c1] at t1
    refine op_local (X := X) (n := 2) hk hF hw hkey (by simp at c1; exact c1.2) ht hI H ?_
    intro σ' s' e H' hI' _ ha hh _
    exact K_ σ' s' (xm_ite t1 e) H' hI' ha hh
  · rw [Bool.not_eq_true] at c1
    by_cases c2 : (decide (w = 2) && decide (0 < s.n)) = true
    · rw [c1] at t1
      rw [c2] at t2
      refine op_put (X := X) (n := 1) hk (by simp at c2; exact c2.2) ht hI H ?_
      intro σ' s' e H' hI' _ _ _ ha hh
      exact K_ σ' s' (xm_ite t1 (xms_one (xm_ite t2 (xms_one (st_put (X := X) (n := 8) hF hkey e))))) H' hI' ha hh
    · rw [Bool.not_eq_true] at c2
      by_cases c3 : (decide (w = 3) && s.held) = true
      · rw [c1] at t1
        rw [c2] at t2
        rw [c3] at t3
        refine op_drop (X := X) (n := 5) hF (by simp at c3; exact c3.2) (by lia) hI H ?_
        intro σ' s' e H' hI' ha hh
        exact K_ σ' s' (xm_ite t1 (xms_one (xm_ite t2 (xms_one (xm_ite t3 e))))) H' (inv_mono hI') ha hh
      · rw [Bool.not_eq_true] at c3
        by_cases c4 : w > 3
        · have t4 := tst4 (X := X) (n := 9) (ms := s.ms) hF hw c4 h16 b16
          have H1 := H.newL (.list [])
          rcases List.eq_nil_or_concat s.ms with q | ⟨ms0, m, q⟩
          · rw [q] at t4
            exact no (s' := s) (xms_one (xm_ite t4 xms_nil)) H1 (inv_mono hI) rfl rfl c1 c2 c3
          · rw [List.concat_eq_append] at q
            have q1 : s.ms.isEmpty = false := by rw [q]; exact isE _ _
            rw [q1] at t4
            have q2 : ms0.length + 1 = s.ms.length := by rw [q]; simp
            refine op_leave (X := X) (n := 2) (m := m) (ms' := ms0) (e1 := levE1) (e2 := levE2) hF (by lia) hI (by lia) (fun σ h => lev_1 (ms0 := ms0) hF (by lia) (by rw [q] at h; exact h)) (fun σ h => lev_2 (ms0 := ms0) hF (by lia) (by rw [q] at h; exact h)) H1 ?_
            intro σ' s' e H' hI' ha hh _ _
            exact no (xms_one (xm_ite t4 e)) H' (inv_mono hI') ha hh c1 c2 c3
        · exact no (s' := s) (xms_one (xm_ite (tst5 hw c4) xms_nil)) H (inv_mono hI) rfl rfl c1 c2 c3
theorem st_settle (hF : LawF fr) (h6 : σ.obj 6 = some (.cell (some (.loc 22)))) (h22 : σ.obj 22 = some runO) (h19 : σ.obj 19 = some cntO) (e : CaM X (n + 1) (.top 563) [.loc 19, .int 0] [] σ .none τ) : ExM X (n + 1) setSt fr σ .next fr τ := by
  have f1 := hF.cel
  exact xm_expr (em_meth (em_attr (em_cel (by rw [f1]; rfl) h6) (am_get X.b.toBs h22 rfl rfl rfl)) (mm_inst X.b.toBs h19 rfl rfl) (ems_cons em_int ems_nil) e)
theorem settled (hF : LawF fr) (ht : t ≤ 12) (hI : Inv s t) (H : Led σ (s.led scr)) {P_ : Prop} (K_ : ∀ σ' s', (ExM X 9 setSt fr σ .next fr σ') → (Led σ' (s'.led scr)) → (Inv s' t) → (s'.D = []) → (s'.hh = s.hh) → (s'.held = s.held) → (s'.stk = s.stk) → (s'.a = s.a) → P_) : P_ := by
  refine op_settle (X := X) (n := 4) ht hI H ?_
  intro σ' s' e H' hI' h1 h2 h3 h4 _ h5
  exact K_ σ' s' (st_settle (X := X) (n := 8) hF (H.get _ (by leaf_len)) (H.get _ (by leaf_len)) (H.get _ (by leaf_len)) e) H' hI' h1 h2 h3 h4 h5
theorem due_perm (hI : Inv s t) (hD : s.D = []) : s.gs.Perm s.du := permC fun f => by
  have := hI.due f
  rw [hD] at this
  simp only [List.flatMap_nil, cnt_nil] at this
  lia
theorem turn_ (hF : LawF fr) (hr : scr.length ≤ 50) (ha : s.a < 98) (ht : t ≤ 11) (hI : Inv s t) (H : Led σ (s.led scr)) {P_ : Prop} (K_ : ∀ fr' σ' s', (ExsM X 9 turnB fr σ .next fr' σ') → (LawF fr') → (Led σ' (s'.led scr)) → (Inv s' (t + 1)) → (s'.D = []) → (s'.a = s.a + 2) → (s'.hh = s.hh) → P_) : P_ := by
  refine st_sw (X := X) (n := 7) hF hr ha H ?_
  intro σ1 w k e1 hk w1 w2 H1
  have hF1 : LawF ⟨setL "way" (.int w) (setL "key" (.int ((k : Nat) : Int)) fr.loc), fr.cel, fr.law⟩ := (hF.set (x := "key") (.int (k : Int)) (by decide) (by decide) (by decide) (by decide)).set (x := "way") (.int w) (by decide) (by decide) (by decide) (by decide)
  have hI1 := inv_a hI (s.a + 2)
  have hs := hI.ts
  refine st_ith (X := X) (n := 7) hF1 (by show s.stk.length < 900; lia) H1 ?_
  intro σ2 e2 H2
  have hF2 := hF1.set (x := "is_there") (.bool (decide (0 < St.n { s with a := s.a + 2 }))) (by decide) (by decide) (by decide) (by decide)
  refine st_br (X := X) (w := w) (k := k) hF2 (by simp [getL_setL]) (by simp [getL_setL]) (by simp [getL_setL]) hk ht hI1 H2 ?_
  intro σ3 s3 e3 H3 hI3 ha3 hh3
  refine settled (X := X) hF2 (by lia) hI3 H3 ?_
  intro σ4 s4 e4 H4 hI4 hD4 hh4 _ _ ha4
  have hg := hI4.gsLen
  refine st_chk (X := X) (n := 8) (R := [(2, .cell (some (.loc 43))), (4, .cell (some (.bool s4.hh))), (5, .cell (some (.loc 41))), (6, .cell (some (.loc 22))), (7, .cell (some (.loc 33))), (8, .cell (some (.loc 15))),
      (11, limO), (18, fGone), (19, cntO), (20, .dI []), (21, .dI []), (22, runO), (43, fElem), (44, fPut), (0, cdO), (10, purseO s4.a), (9, rowO scr), (12, heapO s4.L s4.z), (s4.z, .list (locs s4.D)), (15, .list (s4.ts.map .int)),
      (16, .list (s4.ms.map fun m : Nat => MV.int (m : Int))), (30, .list (svOf s4.stk)), (40, .list (asOf s4.stk)), (41, ownO s4.rl s4.held), (s4.rl, .dI s4.row), (37, scO 2 1 false 38 (if s4.held then .loc 36 else .none)), (36, refO 33)] ++ (thingL s4.C s4.n ++ (s4.stk.flatMap (tS s4.hh) ++ (s4.stk.map tA ++ s4.D.flatMap (·.foot false))))) hF2 (due_perm hI4 hD4) (by lia)
    (H4.perm (by exact permR [_, _, _, _, _, _, _, _, _, _, _, _, _, _, _, _, _, _, _, _, _, _, _, _, _, _, _, _, _, _, _] [_, _, _, _] (.a (.c 0 (.c 1 (.c 2 (.c 3 (.c 4 (.c 5 (.c 6 (.c 7 (.c 8 (.c 9 (.c 10 (.c 11 (.c 12 (.c 13 (.c 14 (.c 15 (.c 16 .e))))))))))))))))) (.c 17 (.c 18 (.c 19 (.c 20 (.c 21 (.c 22 (.c 23 (.c 24 (.c 25 (.c 26 (.c 27 (.c 28 (.c 29 (.c 30 (.a (.s 0) (.a (.s 1) (.a (.s 2) (.s 3))))))))))))))))))) (.c 2 (.c 0 (.c 21 (.c 23 (.a (.c 1 (.c 3 (.c 4 (.c 5 (.c 6 (.c 7 (.c 8 (.c 9 (.c 10 (.c 11 (.c 12 (.c 13 (.c 14 (.c 15 (.c 16 (.c 17 (.c 18 (.c 19 (.c 20 (.c 22 (.c 24 (.c 25 (.c 26 (.c 27 (.c 28 (.c 29 (.c 30 .e))))))))))))))))))))))))))) (.a (.s 0) (.a (.s 1) (.a (.s 2) (.s 3))))))))) rfl)) ?_
  intro σ5 e5 H5
  refine K_ _ σ5 s4 (xms_cons e1 (xms_cons e2 (xms_cons e3 (xms_cons e4 (xms_one e5))))) hF2 (H5.perm (by exact permR [_, _, _, _, _, _, _, _, _, _, _, _, _, _, _, _, _, _, _, _, _, _, _, _, _, _, _, _, _, _, _] [_, _, _, _] (.c 0 (.c 1 (.c 2 (.c 3 (.a (.c 4 (.c 5 (.c 6 (.c 7 (.c 8 (.c 9 (.c 10 (.c 11 (.c 12 (.c 13 (.c 14 (.c 15 (.c 16 (.c 17 (.c 18 (.c 19 (.c 20 (.c 21 (.c 22 (.c 23 (.c 24 (.c 25 (.c 26 (.c 27 (.c 28 (.c 29 (.c 30 .e))))))))))))))))))))))))))) (.a (.s 0) (.a (.s 1) (.a (.s 2) (.s 3))))))))) (.a (.c 1 (.c 4 (.c 0 (.c 5 (.c 6 (.c 7 (.c 8 (.c 9 (.c 10 (.c 11 (.c 12 (.c 13 (.c 14 (.c 15 (.c 16 (.c 17 (.c 18 .e))))))))))))))))) (.c 19 (.c 20 (.c 21 (.c 22 (.c 2 (.c 23 (.c 3 (.c 24 (.c 25 (.c 26 (.c 27 (.c 28 (.c 29 (.c 30 (.a (.s 0) (.a (.s 1) (.a (.s 2) (.s 3))))))))))))))))))) rfl)) hI4 hD4 (by rw [ha4, ha3]) (by rw [hh4, hh3])
end Mine
end
section
set_option maxHeartbeats 4000000
namespace Mine
open PySem
section
variable {X : Wb} {N : Nat} {fr fr1 : MF} {s s1 : LS} {fl : MFl}
theorem e_lim (d : ExsL X N b620 ⟨[("self", .loc s.σ.next), ("width", .int 64), ("depth", .int 50), ("steps", .int 1000000), ("text", .int 100000), ("items", .int 4)], [], false⟩ (s.new (.inst 623 [])) fl fr1 s1) (e : outOf fl = .none) : EvL X (N + 2) fr (.callk (.val (.top 623)) "items" (.int 4)) s (.loc s.σ.next) s1 :=
  ⟨fun H => em_callk em_val em_int (cm_new rfl (e ▸ fm_620 (d.ev (Led.new H _)))), fun H => d.H (Led.new H _)⟩
theorem e_lam {k l c i : Nat} {fv : List String} {ps : List (Nat × Nat)} {cs : List (String × Nat)} (g : s.L[i]? = some (0, .codes ps)) (hm : ps.contains (l, c) = false) (hw : fr.law = true) (hcs : mCels fr fv = some cs) : EvL X N fr (.lam k l c fv) s (.loc s.σ.next) ((s.put i 0 (.codes ((l, c) :: ps))).new (.fn k cs)) :=
  ⟨fun H => em_lam (H.get _ g) hm hw hcs, fun H => Led.new (Led.set H i g _) _⟩
end
local macro_rules | `(tactic| pv_eval) => altsOf "e_lim:ir e_lam:lkrr"
variable {X : Wb} {σ τ : MS} {R : List (Nat × MO)} {n a : Nat} {row : List Int} {fs : Int} {fr : MF} {b : Bool}
noncomputable def stIs : MSt := .asg (.cel "is_hash") (.cmp (.eq) (.call (.val (.top 634)) [.var "purse", .int 2]) (.int 1))
noncomputable def frA : MF := ⟨[("purse", .loc 10), ("heap", .loc 12)], lawCs, true⟩
noncomputable def frB : MF := ⟨[("purse", .loc 10), ("heap", .loc 12), ("marks", .loc 16)], lawCs, true⟩
noncomputable def frC : MF := ⟨[("purse", .loc 10), ("heap", .loc 12), ("marks", .loc 16), ("led", .loc 37), ("put", .loc 44)], lawCs, true⟩
noncomputable def la1 : MSt := .asg (.var "heap") (.call (.val (.top 257)) [.callk (.val (.top 623)) "items" (.int 4)])
noncomputable def la2 : MSt := .asgT [.cel "gone", .cel "told", .var "marks"] (.tup [.list [], .list [], .list []])
noncomputable def la3 : MSt := .asg (.cel "run") (.call (.val (.top 601)) [.var "heap", .call (.val (.top 580)) [.var "heap", .lam 0 463 34 ["gone"]], .none, .attr (.var "heap") "limits"])
noncomputable def la5 : MSt := .asg (.cel "thing") (.ife (.cel "is_hash") (.meth (.var "heap") "new_hash" []) (.meth (.var "heap") "new_array" []))
noncomputable def la6 : MSt := .asg (.var "led") (.meth (.attr (.cel "run") "counter") "fresh" [.call (.val (.top 194)) [.cel "thing"]])
noncomputable def la7 : MSt := .asg (.cel "own") (.dict ["row", "aside", "is_held"] [.dict [] [], .list [], .bool true])
noncomputable def la8 : MSt := .asg (.cel "due") (.list [])
noncomputable def la9 : MSt := .defn (.cel "elem") 1 470 4 ["is_hash", "run", "thing"]
noncomputable def la10 : MSt := .defn (.var "put") 2 473 4 ["due", "elem", "own", "run", "told"]
noncomputable def c0 (b : Bool) : Thg := match b with
  | true => .H 35 [] false
  | false => .A 35 []
noncomputable def frD : MF := ⟨[("purse", .loc 10), ("heap", .loc 12), ("marks", .loc 16), ("led", .loc 37)], lawCs, true⟩
theorem la1_ (hn : σ.next = 11) (H : Led σ R) {P_ : Prop} (K_ : ∀ σ', (ExM X 9 la1 initF σ .next frA σ') → (σ'.next = 14) → (Led σ' ([(11, limO), (12, heapO 0 13), (13, .list [])] ++ R)) → P_) : P_ := by
  obtain ⟨ob, nx⟩ := σ
  cases hn
  exact run_st X 9 la1 initF H _ _ _ (by one_place) (by exact fun e h => K_ _ e rfl (h.pick [2, 1, 0] 3 (by decide) rfl rfl rfl))
theorem la2_ (hn : σ.next = 14) (H : Led σ ([(3, .cell none), (8, .cell none)] ++ R)) {P_ : Prop} (K_ : ∀ σ', (ExM X 9 la2 frA σ .next frB σ') → (σ'.next = 18) → (Led σ' ([(14, .list []), (15, .list []), (16, .list []), (3, cGone), (8, .cell (some (.loc 15)))] ++ R)) → P_) : P_ := by
  obtain ⟨ob, nx⟩ := σ
  cases hn
  refine run_ev X 9 (.tup [.list [], .list [], .list []]) frA H _ _ (by pv_eval) ?_
  intro e h
  have h1 := h.set 4 rfl (.cell (some (.loc 14)))
  have h2 := h1.set 5 rfl (.cell (some (.loc 15)))
  exact K_ _ (xm_asgT e (h.get 0 rfl) (.cons (sm_cel rfl (h.get 4 rfl)) (.cons (sm_cel rfl (h1.get 5 rfl)) (.cons sm_var .nil)))) rfl (h2.pick [3, 2, 1, 4, 5] 6 (by decide) rfl rfl rfl)
structure LedN (σ : MS) (k : Nat) (L : List (Nat × MO)) : Prop where
  H : Led σ L
  n : σ.next = k
section
variable {P : Prop} {p k : Nat} {fs : List (String × MV)} {x : String} {e : ME} {v : MV}
theorem fld (hs : getL' "self" fr.loc = some (.loc p)) (h : LedN τ k ((p, .inst 601 fs) :: R)) (hc : (attrTab 601).contains x = true) (hl : fs.length < 100) (hx : noKey x fs = true) (he : notCompM e = true) (D : EvM X n fr e σ v τ) (K : ∀ σ', ExM X n (.asg (.attr (.var "self") x) e) fr σ .next fr σ' → LedN σ' k ((p, .inst 601 (fs ++ [(x, v)])) :: R) → P) : P :=
  K _ (xm_asg he D (sm_attr (em_var hs) (am_set X.b.toBs (h.H.get 0 rfl) hc hl (setL_no hx)))) ⟨h.H.set 0 rfl _, h.n⟩
theorem fld_new (o : MO) (h : LedN σ k ((p, .inst 601 fs) :: R)) : LedN (σ.new o) (k + 1) ((p, .inst 601 fs) :: R) ∧ LedN (σ.new o) (k + 1) ((p, .inst 601 fs) :: (k, o) :: R) :=
  ⟨⟨h.H.newL o, congrArg Nat.succ h.n⟩, (h.n ▸ h.H.new o).pick [1, 0] 2 (by decide) rfl rfl rfl, congrArg Nat.succ h.n⟩
theorem fld_d (hs : getL' "self" fr.loc = some (.loc p)) (h : LedN σ k ((p, .inst 601 fs) :: R)) (hc : (attrTab 601).contains x = true) (hl : fs.length < 100) (hx : noKey x fs = true) (K : ∀ σ', ExM X n (.asg (.attr (.var "self") x) (.dict [] [])) fr σ .next fr σ' → LedN σ' (k + 1) ((p, .inst 601 (fs ++ [(x, .loc k)])) :: R) → P) : P :=
  fld hs (fld_new (.dI []) h).1 hc hl hx rfl (h.n ▸ em_dict0) K
theorem fld_k (hs : getL' "self" fr.loc = some (.loc p)) (h : LedN σ k ((p, .inst 601 fs) :: R)) (hc : (attrTab 601).contains x = true) (hl : fs.length < 100) (hx : noKey x fs = true) (K : ∀ σ', ExM X n (.asg (.attr (.var "self") x) (.list [])) fr σ .next fr σ' → LedN σ' (k + 1) ((p, .inst 601 (fs ++ [(x, .loc k)])) :: (k, .list []) :: R) → P) : P :=
  fld hs (fld_new (.list []) h).2 hc hl hx rfl (h.n ▸ em_list ems_nil (Nat.le_of_ble_eq_true rfl)) K
theorem fld_l (hs : getL' "self" fr.loc = some (.loc p)) (h : LedN σ k ((p, .inst 601 fs) :: R)) (hc : (attrTab 601).contains x = true) (hl : fs.length < 100) (hx : noKey x fs = true) (K : ∀ σ', ExM X n (.asg (.attr (.var "self") x) (.list [])) fr σ .next fr σ' → LedN σ' (k + 1) ((p, .inst 601 (fs ++ [(x, .loc k)])) :: R) → P) : P :=
  fld hs (fld_new (.list []) h).1 hc hl hx rfl (h.n ▸ em_list ems_nil (Nat.le_of_ble_eq_true rfl)) K
end
noncomputable def fr598 : MF := ⟨[("self", .loc 22), ("heap", .loc 12), ("counter", .loc 19), ("stash", .none), ("limits", .loc 11)], [], false⟩
theorem run_init (h : LedN σ 23 ((22, .inst 601 []) :: R)) {P_ : Prop} (K_ : ∀ σ', (FnM X (n + 1) 598 [.loc 22, .loc 12, .loc 19, .none, .loc 11] [] σ .none σ') → (LedN σ' 33 ((22, runO) :: (30, .list []) :: R)) → P_) : P_ := by
  refine fld (X := X) (n := n) (fr := fr598) (x := "heap") (e := .var "heap") (v := .loc 12) rfl h rfl (Nat.le_of_ble_eq_true rfl) (by kernel_rfl) rfl (em_var rfl) fun σ1 e1 h => ?_
  refine fld (X := X) (n := n) (fr := fr598) (x := "counter") (e := .var "counter") (v := .loc 19) rfl h rfl (Nat.le_of_ble_eq_true rfl) (by kernel_rfl) rfl (em_var rfl) fun σ2 e2 h => ?_
  refine fld (X := X) (n := n) (fr := fr598) (x := "stash") (e := .var "stash") (v := .none) rfl h rfl (Nat.le_of_ble_eq_true rfl) (by kernel_rfl) rfl (em_var rfl) fun σ3 e3 h => ?_
  refine fld (X := X) (n := n) (fr := fr598) (x := "limits") (e := .var "limits") (v := .loc 11) rfl h rfl (Nat.le_of_ble_eq_true rfl) (by kernel_rfl) rfl (em_var rfl) fun σ4 e4 h => ?_
  refine fld_d (X := X) (n := n) (fr := fr598) (x := "nodes") rfl h rfl (Nat.le_of_ble_eq_true rfl) (by kernel_rfl) fun σ5 e5 h => ?_
  refine fld_d (X := X) (n := n) (fr := fr598) (x := "lvs") rfl h rfl (Nat.le_of_ble_eq_true rfl) (by kernel_rfl) fun σ6 e6 h => ?_
  refine fld_d (X := X) (n := n) (fr := fr598) (x := "statements") rfl h rfl (Nat.le_of_ble_eq_true rfl) (by kernel_rfl) fun σ7 e7 h => ?_
  refine fld_d (X := X) (n := n) (fr := fr598) (x := "funcs") rfl h rfl (Nat.le_of_ble_eq_true rfl) (by kernel_rfl) fun σ8 e8 h => ?_
  refine fld_d (X := X) (n := n) (fr := fr598) (x := "operators") rfl h rfl (Nat.le_of_ble_eq_true rfl) (by kernel_rfl) fun σ9 e9 h => ?_
  refine fld_l (X := X) (n := n) (fr := fr598) (x := "out") rfl h rfl (Nat.le_of_ble_eq_true rfl) (by kernel_rfl) fun σ10 e10 h => ?_
  refine fld_l (X := X) (n := n) (fr := fr598) (x := "err") rfl h rfl (Nat.le_of_ble_eq_true rfl) (by kernel_rfl) fun σ11 e11 h => ?_
  refine fld_k (X := X) (n := n) (fr := fr598) (x := "saves") rfl h rfl (Nat.le_of_ble_eq_true rfl) (by kernel_rfl) fun σ12 e12 h => ?_
  refine fld_l (X := X) (n := n) (fr := fr598) (x := "frames") rfl h rfl (Nat.le_of_ble_eq_true rfl) (by kernel_rfl) fun σ13 e13 h => ?_
  refine fld (X := X) (n := n) (fr := fr598) (x := "match") rfl h rfl (Nat.le_of_ble_eq_true rfl) (by kernel_rfl) rfl em_none fun σ14 e14 h => ?_
  refine fld_d (X := X) (n := n) (fr := fr598) (x := "patterns") rfl h rfl (Nat.le_of_ble_eq_true rfl) (by kernel_rfl) fun σ15 e15 h => ?_
  refine fld (X := X) (n := n) (fr := fr598) (x := "steps") rfl h rfl (Nat.le_of_ble_eq_true rfl) (by kernel_rfl) rfl (em_int (i := 0)) fun σ16 e16 h => ?_
  refine fld (X := X) (n := n) (fr := fr598) (x := "methods") rfl h rfl (Nat.le_of_ble_eq_true rfl) (by kernel_rfl) rfl em_none fun σ17 e17 h => ?_
  refine fld (X := X) (n := n) (fr := fr598) (x := "call_code") rfl h rfl (Nat.le_of_ble_eq_true rfl) (by kernel_rfl) rfl em_none fun σ18 e18 h => ?_
  refine fld (X := X) (n := n) (fr := fr598) (x := "compile_text") rfl h rfl (Nat.le_of_ble_eq_true rfl) (by kernel_rfl) rfl em_none fun σ19 e19 h => ?_
  exact K_ σ19 (fm_fn rfl rfl rfl rfl (fl := .next) (show ExsM X n b598 fr598 _ _ _ _ from xms_cons e1 (xms_cons e2 (xms_cons e3 (xms_cons e4 (xms_cons e5 (xms_cons e6 (xms_cons e7 (xms_cons e8 (xms_cons e9 (xms_cons e10 (xms_cons e11 (xms_cons e12 (xms_cons e13 (xms_cons e14 (xms_cons e15 (xms_cons e16 (xms_cons e17 (xms_cons e18 (xms_one e19)))))))))))))))))))) h
theorem la3_ (hn : σ.next = 18) (H : Led σ ([(0, .codes []), (6, .cell none), (12, heapO 0 13)] ++ R)) {P_ : Prop} (K_ : ∀ σ', (ExM X 9 la3 frB σ .next frB σ') → (σ'.next = 33) → (Led σ' ([(0, .codes [(463, 34)]), (6, .cell (some (.loc 22))), (18, fGone), (19, cntO), (20, .dI []), (21, .dI []), (22, runO), (30, .list []), (12, heapO 0 13)] ++ R)) → P_) : P_ := by
  obtain ⟨ob, nx⟩ := σ
  cases hn
  refine run_ev X 9 (.call (.val (.top 580)) [.var "heap", .lam 0 463 34 ["gone"]]) frB H _ _ (by pv_eval) ?_
  intro e h
  have h2 := h.new (.inst 601 [])
  refine run_init (X := X) (n := 7) ⟨h2, rfl⟩ ?_
  intro σ1 e1 h1
  have h3 := h1.H.set 7 rfl (.cell (some (.loc 22)))
  exact K_ _ (xm_asg rfl (em_call em_val (ems_cons (em_var rfl) (ems_cons e (ems_cons em_none (ems_cons (em_attr (em_var rfl) (am_get X.b.toBs (h.get 6 rfl) rfl rfl rfl)) ems_nil)))) (cm_new rfl e1)) (sm_cel rfl (h1.H.get 7 rfl))) h1.n (h3.pick [6, 7, 5, 4, 3, 2, 0, 1, 8] 9 (by decide) rfl rfl rfl)
theorem is_ (hn : σ.next = 33) (hr : row.length ≤ 50) (H : Led σ ([(10, purseO 0), (9, rowO row), (4, .cell none)] ++ R)) {P_ : Prop} (K_ : ∀ σ' b, (ExM X 9 stIs frB σ .next frB σ') → (σ'.next = 33) → (Led σ' ([(10, purseO 1), (9, rowO row), (4, .cell (some (.bool b)))] ++ R)) → P_) : P_ := by
  refine coin_ (X := X) (n := 7) (a := 0) (fs := 2) (by decide) hr (by decide) H ?_
  intro σ1 r e _ _ H1 hn1
  exact K_ _ (r == 1) (xm_asg rfl (em_cmp (em_call em_val (ems_cons (em_var rfl) (ems_cons em_int ems_nil)) e) em_int (km_int (y := r == 1) rfl)) (sm_cel rfl (H1.get 2 rfl))) (hn1.trans hn) (H1.set 2 rfl _)
theorem la5_ (hn : σ.next = 33) (H : Led σ ([(4, .cell (some (.bool b))), (7, .cell none), (12, heapO 0 13)] ++ R)) {P_ : Prop} (K_ : ∀ σ', (ExM X 9 la5 frB σ .next frB σ') → (σ'.next = 36) → (Led σ' ([(33, (c0 b).obj 0), (34, .list []), (c0 b).tab, (4, .cell (some (.bool b))), (7, .cell (some (.loc 33))), (12, heapO 1 13)] ++ R)) → P_) : P_ := by
  obtain ⟨ob, nx⟩ := σ
  cases hn
  cases b
  · exact run_st X 9 la5 frB H _ _ _ (by one_place) (by exact fun e h => K_ _ e rfl (h.pick [2, 1, 0, 3, 4, 5] 6 (by decide) rfl rfl rfl))
  · exact run_st X 9 la5 frB H _ _ _ (by one_place) (by exact fun e h => K_ _ e rfl (h.pick [2, 1, 0, 3, 4, 5] 6 (by decide) rfl rfl rfl))
theorem la6_ (hn : σ.next = 36) (H : Led σ ([(6, .cell (some (.loc 22))), (7, .cell (some (.loc 33))), (12, heapO 1 13), (19, cntO), (22, runO), (33, (c0 b).obj 0)] ++ R)) {P_ : Prop} (K_ : ∀ σ', (ExM X 9 la6 frB σ .next frD σ') → (σ'.next = 39) → (Led σ' ([(36, refO 33), (37, scO 2 1 false 38 (.loc 36)), (6, .cell (some (.loc 22))), (7, .cell (some (.loc 33))), (12, heapO 2 13), (19, cntO), (22, runO), (33, (c0 b).obj 1)] ++ R)) → P_) : P_ := by
  obtain ⟨ob, nx⟩ := σ
  cases hn
  cases b
  · exact run_st X 9 la6 frB H _ _ _ (by one_place) (by exact fun e h => K_ _ e rfl (h.pick [2, 1, 3, 4, 5, 6, 7, 8] 9 (by decide) rfl rfl rfl))
  · exact run_st X 9 la6 frB H _ _ _ (by one_place) (by exact fun e h => K_ _ e rfl (h.pick [2, 1, 3, 4, 5, 6, 7, 8] 9 (by decide) rfl rfl rfl))
theorem la7_ (hn : σ.next = 39) (H : Led σ ([(5, .cell none)] ++ R)) {P_ : Prop} (K_ : ∀ σ', (ExM X 9 la7 frD σ .next frD σ') → (σ'.next = 42) → (Led σ' ([(5, .cell (some (.loc 41))), (39, .dI []), (40, .list []), (41, ownO 39 true)] ++ R)) → P_) : P_ := by
  obtain ⟨ob, nx⟩ := σ
  cases hn
  have h := ((H.new (.dI [])).new (.list [])).new (ownO 39 true)
  have h2 := h.set 3 rfl (.cell (some (.loc 41)))
  exact K_ _ (xm_asg rfl (em_dict (.cons em_dict0 (.cons (em_list ems_nil (Nat.le_of_ble_eq_true rfl)) (.cons em_bool .nil))) rfl rfl (by decide) (by decide)) (sm_cel rfl (h.get 3 rfl))) rfl (h2.pick [3, 2, 1, 0] 4 (by decide) rfl rfl rfl)
theorem la8_ (hn : σ.next = 42) (H : Led σ ([(1, .cell none)] ++ R)) {P_ : Prop} (K_ : ∀ σ', (ExM X 9 la8 frD σ .next frD σ') → (σ'.next = 43) → (Led σ' ([(1, .cell (some (.loc 42))), (42, .list [])] ++ R)) → P_) : P_ := by
  obtain ⟨ob, nx⟩ := σ
  cases hn
  have h := H.new (.list [])
  exact K_ _ (xm_asg rfl (em_list ems_nil (Nat.le_of_ble_eq_true rfl)) (sm_cel rfl (h.get 1 rfl))) rfl ((h.set 1 rfl (.cell (some (.loc 42)))).pick [1, 0] 2 (by decide) rfl rfl rfl)
theorem la9_ (hn : σ.next = 43) (H : Led σ ([(0, .codes [(463, 34)]), (2, .cell none)] ++ R)) {P_ : Prop} (K_ : ∀ σ', (ExM X 9 la9 frD σ .next frD σ') → (σ'.next = 44) → (Led σ' ([(0, .codes [(470, 4), (463, 34)]), (2, .cell (some (.loc 43))), (43, fElem)] ++ R)) → P_) : P_ := by
  obtain ⟨ob, nx⟩ := σ
  cases hn
  have h := (H.set 0 rfl (.codes [(470, 4), (463, 34)])).new fElem
  exact K_ _ (xm_defC (H.get 0 rfl) (by decide) rfl rfl rfl (h.get 2 rfl)) rfl ((h.set 2 rfl (.cell (some (.loc 43)))).pick [1, 2, 0] 3 (by decide) rfl rfl rfl)
theorem la10_ (hn : σ.next = 44) (H : Led σ ([(0, .codes [(470, 4), (463, 34)])] ++ R)) {P_ : Prop} (K_ : ∀ σ', (ExM X 9 la10 frD σ .next frC σ') → (Led σ' ([(0, cdO), (44, fPut)] ++ R)) → P_) : P_ := by
  obtain ⟨ob, nx⟩ := σ
  cases hn
  have h := (H.set 0 rfl cdO).new fPut
  exact K_ _ (xm_defV (H.get 0 rfl) (by decide) rfl rfl) (h.pick [1, 0] 2 (by decide) rfl rfl rfl)
end Mine
end
section
set_option maxHeartbeats 4000000
namespace Mine
open PySem
variable {X : Wb} {σ τ : MS} {R : List (Nat × MO)} {n a : Nat} {row : List Int} {fs : Int} {fr : MF} {b : Bool}
noncomputable def s0 (b : Bool) : St := ⟨b, true, noneL, [], c0 b, [], 2, 13, 39, [], [], [], [], [], 1⟩
noncomputable def ledI (row : List Int) : List (Nat × MO) := [(0, .codes []), (1, .cell none), (2, .cell none), (3, .cell none), (4, .cell none), (5, .cell none), (6, .cell none), (7, .cell none), (8, .cell none), (9, rowO row), (10, purseO 0)]
theorem ledI_ (row : List Int) : Led (initS row) (ledI row) where
  at_ := fun p hp => by
    have h : ((ledI row).map fun p => (initS row).obj p.1) = (ledI row).map fun p => some p.2 := rfl
    exact List.map_inj_left.mp h p hp
  nd := by show [0, 1, 2, 3, 4, 5, 6, 7, 8, 9, 10].Nodup; decide
  lt := fun p hp => (by decide : ∀ k ∈ [0, 1, 2, 3, 4, 5, 6, 7, 8, 9, 10], k < 11) p.1 (List.mem_map_of_mem (f := (·.1)) hp)
noncomputable def pre : List MSt := [la1, la2, la3, stIs, la5, la6, la7, la8, la9, la10]
theorem pre_ (hr : row.length ≤ 50) {P_ : Prop} (K_ : ∀ σ' b, (ExsM X 9 pre initF (initS row) .next frC σ') → (Led σ' ((s0 b).led row)) → P_) : P_ := by
  refine la1_ (X := X) (σ := initS row) rfl (ledI_ row) ?_
  intro σ1 e1 n1 H1
  refine la2_ (X := X) (R := [(0, .codes []), (1, .cell none), (2, .cell none), (4, .cell none), (5, .cell none), (6, .cell none), (7, .cell none), (9, rowO row), (10, purseO 0), (11, limO), (12, heapO 0 13), (13, .list [])]) n1
    (H1.perm (permC fun f => by simp only [ledI, cnt_app, cnt_cons, cnt_nil]; lia)) ?_
  intro σ2 e2 n2 H2
  refine la3_ (X := X) (R := [(1, .cell none), (2, .cell none), (4, .cell none), (5, .cell none), (7, .cell none), (9, rowO row), (10, purseO 0), (11, limO), (13, .list []), (14, .list []), (15, .list []), (16, .list []), (3, cGone), (8, .cell (some (.loc 15)))]) n2
    (H2.perm (by exact permR [_, _, _, _, _, _, _, _, _, _, _, _, _, _, _, _, _] [] (.a (.c 0 (.c 1 (.c 2 (.c 3 (.c 4 .e))))) (.c 5 (.c 6 (.c 7 (.c 8 (.c 9 (.c 10 (.c 11 (.c 12 (.c 13 (.c 14 (.c 15 (.c 16 .e))))))))))))) (.a (.c 5 (.c 10 (.c 15 .e))) (.c 6 (.c 7 (.c 8 (.c 9 (.c 11 (.c 12 (.c 13 (.c 14 (.c 16 (.c 0 (.c 1 (.c 2 (.c 3 (.c 4 .e))))))))))))))) rfl)) ?_
  intro σ3 e3 n3 H3
  refine is_ (X := X) (R := [(1, .cell none), (2, .cell none), (5, .cell none), (7, .cell none), (11, limO), (13, .list []), (14, .list []), (15, .list []), (16, .list []), (3, cGone), (8, .cell (some (.loc 15))), (0, .codes [(463, 34)]), (6, .cell (some (.loc 22))), (18, fGone), (19, cntO), (20, .dI []), (21, .dI []), (22, runO), (30, .list []), (12, heapO 0 13)]) n3 hr
    (H3.perm (by exact permR [_, _, _, _, _, _, _, _, _, _, _, _, _, _, _, _, _, _, _, _, _, _, _] [] (.a (.c 0 (.c 1 (.c 2 (.c 3 (.c 4 (.c 5 (.c 6 (.c 7 (.c 8 .e))))))))) (.c 9 (.c 10 (.c 11 (.c 12 (.c 13 (.c 14 (.c 15 (.c 16 (.c 17 (.c 18 (.c 19 (.c 20 (.c 21 (.c 22 .e))))))))))))))) (.a (.c 15 (.c 14 (.c 11 .e))) (.c 9 (.c 10 (.c 12 (.c 13 (.c 16 (.c 17 (.c 18 (.c 19 (.c 20 (.c 21 (.c 22 (.c 0 (.c 1 (.c 2 (.c 3 (.c 4 (.c 5 (.c 6 (.c 7 (.c 8 .e))))))))))))))))))))) rfl)) ?_
  intro σ4 b e4 n4 H4
  refine la5_ (X := X) (b := b) (R := [(1, .cell none), (2, .cell none), (5, .cell none), (11, limO), (13, .list []), (14, .list []), (15, .list []), (16, .list []), (3, cGone), (8, .cell (some (.loc 15))), (0, .codes [(463, 34)]), (6, .cell (some (.loc 22))), (18, fGone), (19, cntO), (20, .dI []), (21, .dI []), (22, runO), (30, .list []), (10, purseO 1), (9, rowO row)]) n4
    (H4.perm (by exact permR [_, _, _, _, _, _, _, _, _, _, _, _, _, _, _, _, _, _, _, _, _, _, _] [] (.a (.c 0 (.c 1 (.c 2 .e))) (.c 3 (.c 4 (.c 5 (.c 6 (.c 7 (.c 8 (.c 9 (.c 10 (.c 11 (.c 12 (.c 13 (.c 14 (.c 15 (.c 16 (.c 17 (.c 18 (.c 19 (.c 20 (.c 21 (.c 22 .e))))))))))))))))))))) (.a (.c 2 (.c 6 (.c 22 .e))) (.c 3 (.c 4 (.c 5 (.c 7 (.c 8 (.c 9 (.c 10 (.c 11 (.c 12 (.c 13 (.c 14 (.c 15 (.c 16 (.c 17 (.c 18 (.c 19 (.c 20 (.c 21 (.c 0 (.c 1 .e))))))))))))))))))))) rfl)) ?_
  intro σ5 e5 n5 H5
  refine la6_ (X := X) (b := b) (R := [(1, .cell none), (2, .cell none), (5, .cell none), (11, limO), (13, .list []), (14, .list []), (15, .list []), (16, .list []), (3, cGone), (8, .cell (some (.loc 15))), (0, .codes [(463, 34)]), (18, fGone), (20, .dI []), (21, .dI []), (30, .list []), (10, purseO 1), (9, rowO row), (34, .list []), (c0 b).tab, (4, .cell (some (.bool b)))]) n5
    (H5.perm (by exact permR [_, _, _, _, _, _, _, _, _, _, _, _, _, _, _, _, _, _, _, _, _, _, _, _, _, _] [] (.a (.c 0 (.c 1 (.c 2 (.c 3 (.c 4 (.c 5 .e)))))) (.c 6 (.c 7 (.c 8 (.c 9 (.c 10 (.c 11 (.c 12 (.c 13 (.c 14 (.c 15 (.c 16 (.c 17 (.c 18 (.c 19 (.c 20 (.c 21 (.c 22 (.c 23 (.c 24 (.c 25 .e))))))))))))))))))))) (.a (.c 17 (.c 4 (.c 5 (.c 19 (.c 22 (.c 0 .e)))))) (.c 6 (.c 7 (.c 8 (.c 9 (.c 10 (.c 11 (.c 12 (.c 13 (.c 14 (.c 15 (.c 16 (.c 18 (.c 20 (.c 21 (.c 23 (.c 24 (.c 25 (.c 1 (.c 2 (.c 3 .e))))))))))))))))))))) rfl)) ?_
  intro σ6 e6 n6 H6
  refine la7_ (X := X) (R := [(1, .cell none), (2, .cell none), (11, limO), (13, .list []), (14, .list []), (15, .list []), (16, .list []), (3, cGone), (8, .cell (some (.loc 15))), (0, .codes [(463, 34)]), (18, fGone), (20, .dI []), (21, .dI []), (30, .list []), (10, purseO 1), (9, rowO row), (34, .list []), (c0 b).tab, (4, .cell (some (.bool b))),
    (36, refO 33), (37, scO 2 1 false 38 (.loc 36)), (6, .cell (some (.loc 22))), (7, .cell (some (.loc 33))), (12, heapO 2 13), (19, cntO), (22, runO), (33, (c0 b).obj 1)]) n6
    (H6.perm (by exact permR [_, _, _, _, _, _, _, _, _, _, _, _, _, _, _, _, _, _, _, _, _, _, _, _, _, _, _, _] [] (.a (.c 0 (.c 1 (.c 2 (.c 3 (.c 4 (.c 5 (.c 6 (.c 7 .e)))))))) (.c 8 (.c 9 (.c 10 (.c 11 (.c 12 (.c 13 (.c 14 (.c 15 (.c 16 (.c 17 (.c 18 (.c 19 (.c 20 (.c 21 (.c 22 (.c 23 (.c 24 (.c 25 (.c 26 (.c 27 .e))))))))))))))))))))) (.a (.c 10 .e) (.c 8 (.c 9 (.c 11 (.c 12 (.c 13 (.c 14 (.c 15 (.c 16 (.c 17 (.c 18 (.c 19 (.c 20 (.c 21 (.c 22 (.c 23 (.c 24 (.c 25 (.c 26 (.c 27 (.c 0 (.c 1 (.c 2 (.c 3 (.c 4 (.c 5 (.c 6 (.c 7 .e)))))))))))))))))))))))))))) rfl)) ?_
  intro σ7 e7 n7 H7
  let R7 : List (Nat × MO) := [(11, limO), (13, .list []), (14, .list []), (15, .list []), (16, .list []), (3, cGone), (8, .cell (some (.loc 15))), (18, fGone), (20, .dI []), (21, .dI []), (30, .list []), (10, purseO 1), (9, rowO row), (34, .list []), (c0 b).tab, (4, .cell (some (.bool b))),
    (36, refO 33), (37, scO 2 1 false 38 (.loc 36)), (6, .cell (some (.loc 22))), (7, .cell (some (.loc 33))), (12, heapO 2 13), (19, cntO), (22, runO), (33, (c0 b).obj 1), (5, .cell (some (.loc 41))), (39, .dI []), (40, .list []), (41, ownO 39 true)]
  refine la8_ (X := X) (R := (2, .cell none) :: (0, .codes [(463, 34)]) :: R7) n7 (H7.perm (by exact permR [_, _, _, _, _, _, _, _, _, _, _, _, _, _, _, _, _, _, _, _, _, _, _, _, _, _, _, _, _, _, _] [] (.a (.c 0 (.c 1 (.c 2 (.c 3 .e)))) (.c 4 (.c 5 (.c 6 (.c 7 (.c 8 (.c 9 (.c 10 (.c 11 (.c 12 (.c 13 (.c 14 (.c 15 (.c 16 (.c 17 (.c 18 (.c 19 (.c 20 (.c 21 (.c 22 (.c 23 (.c 24 (.c 25 (.c 26 (.c 27 (.c 28 (.c 29 (.c 30 .e)))))))))))))))))))))))))))) (.a (.c 4 .e) (.c 5 (.c 13 (.c 6 (.c 7 (.c 8 (.c 9 (.c 10 (.c 11 (.c 12 (.c 14 (.c 15 (.c 16 (.c 17 (.c 18 (.c 19 (.c 20 (.c 21 (.c 22 (.c 23 (.c 24 (.c 25 (.c 26 (.c 27 (.c 28 (.c 29 (.c 30 (.c 0 (.c 1 (.c 2 (.c 3 .e))))))))))))))))))))))))))))))) rfl)) ?_
  intro σ8 e8 n8 H8
  refine la9_ (X := X) (R := (1, .cell (some (.loc 42))) :: (42, .list []) :: R7) n8 (H8.perm (by exact permR [_, _, _, _, _, _, _, _, _, _, _, _, _, _, _, _, _, _, _, _, _, _, _, _, _, _, _, _, _, _, _, _] [] (.a (.c 0 (.c 1 .e)) (.c 2 (.c 3 (.c 4 (.c 5 (.c 6 (.c 7 (.c 8 (.c 9 (.c 10 (.c 11 (.c 12 (.c 13 (.c 14 (.c 15 (.c 16 (.c 17 (.c 18 (.c 19 (.c 20 (.c 21 (.c 22 (.c 23 (.c 24 (.c 25 (.c 26 (.c 27 (.c 28 (.c 29 (.c 30 (.c 31 .e))))))))))))))))))))))))))))))) (.a (.c 3 (.c 2 .e)) (.c 0 (.c 1 (.c 4 (.c 5 (.c 6 (.c 7 (.c 8 (.c 9 (.c 10 (.c 11 (.c 12 (.c 13 (.c 14 (.c 15 (.c 16 (.c 17 (.c 18 (.c 19 (.c 20 (.c 21 (.c 22 (.c 23 (.c 24 (.c 25 (.c 26 (.c 27 (.c 28 (.c 29 (.c 30 (.c 31 .e))))))))))))))))))))))))))))))) rfl)) ?_
  intro σ9 e9 n9 H9
  refine la10_ (X := X) (R := (2, .cell (some (.loc 43))) :: (43, fElem) :: (1, .cell (some (.loc 42))) :: (42, .list []) :: R7) n9 (H9.perm (by exact permR [_, _, _, _, _, _, _, _, _, _, _, _, _, _, _, _, _, _, _, _, _, _, _, _, _, _, _, _, _, _, _, _, _] [] (.a (.c 0 (.c 1 (.c 2 .e))) (.c 3 (.c 4 (.c 5 (.c 6 (.c 7 (.c 8 (.c 9 (.c 10 (.c 11 (.c 12 (.c 13 (.c 14 (.c 15 (.c 16 (.c 17 (.c 18 (.c 19 (.c 20 (.c 21 (.c 22 (.c 23 (.c 24 (.c 25 (.c 26 (.c 27 (.c 28 (.c 29 (.c 30 (.c 31 (.c 32 .e))))))))))))))))))))))))))))))) (.a (.c 0 .e) (.c 1 (.c 2 (.c 3 (.c 4 (.c 5 (.c 6 (.c 7 (.c 8 (.c 9 (.c 10 (.c 11 (.c 12 (.c 13 (.c 14 (.c 15 (.c 16 (.c 17 (.c 18 (.c 19 (.c 20 (.c 21 (.c 22 (.c 23 (.c 24 (.c 25 (.c 26 (.c 27 (.c 28 (.c 29 (.c 30 (.c 31 (.c 32 .e))))))))))))))))))))))))))))))))) rfl)) ?_
  intro σ10 e10 H10
  refine K_ σ10 b (xms_cons e1 (xms_cons e2 (xms_cons e3 (xms_cons e4 (xms_cons e5 (xms_cons e6 (xms_cons e7 (xms_cons e8 (xms_cons e9 (xms_one e10)))))))))) (H10.perm (permC fun f => ?_))
  have hl : (s0 b).led row = fixL b ++ ((10, purseO 1) :: (9, rowO row) :: (12, heapO 2 13) :: (13, .list []) :: (14, .list []) :: (15, .list []) :: (42, .list []) :: (16, .list []) :: (30, .list []) :: (40, .list []) :: (41, ownO 39 true) :: (39, .dI []) :: (37, scO 2 1 false 38 (.loc 36)) :: (36, refO 33) :: (33, (c0 b).obj 1) :: (34, .list []) :: (c0 b).tab :: []) := by cases b <;> rfl
  rw [hl]
  simp only [R7, fixL, cnt_app, cnt_cons, cnt_nil]; lia
theorem inv0 (b : Bool) : Inv (s0 b) 0 where
  isH := by cases b <;> rfl
  rep := by
    cases b
    · exact ⟨Nat.zero_le _, fun _ _ => rfl⟩
    · exact ⟨⟨List.Pairwise.nil, fun _ h => (List.not_mem_nil h).elim, fun _ => rfl⟩, fun _ _ => rfl⟩
  row := rowRep_nil
  stk := trivial
  out := fun h => by cases h
  num := ⟨[2], fun f => by
    show cnt f [1] + cnt f [] + cnt f [] + cnt f [2] = cnt f [1, 2]
    simp [cnt]⟩
  due := fun f => rfl
  told := fun f => rfl
  dok := fun d h => (List.not_mem_nil h).elim
  tL := Nat.le_refl 2
  tt := Nat.le_refl 0
  ts := Nat.le_refl 0
  tm := Nat.le_refl 0
theorem lawF0 : LawF frC := ⟨rfl, rfl, rfl, rfl, rfl⟩
noncomputable def purB : MSt := .forR "key" (.call (.val (.top 634)) [.var "purse", .int 4]) [putS]
noncomputable def turns : MSt := .forR "_" (.bin (.add) (.int 1) (.call (.val (.top 634)) [.var "purse", .int 8])) turnB
noncomputable def retS : MSt := .ret
   (.and
     (.cmp2
       (.eq)
       (.eq)
       (.call (.val (.bi "sorted")) [.cel "gone"])
       (.call (.val (.bi "sorted")) [.cel "due"])
       (.call (.val (.bi "sorted")) [.cel "told"]))
     (.cmp (.eq) (.attr (.cel "run") "saves") (.list [])))
theorem law_split : bLaw = pre ++ (purB :: turns :: (levB (.int 0) (.int 0) ++ (endB ++ [setSt, retS]))) := by rfl
end Mine
end
section
set_option maxHeartbeats 4000000
namespace Mine
open PySem
variable {X : Wb} {σ τ : MS} {R : List (Nat × MO)} {n a t : Nat} {row scr gs du ts : List Int} {fs : Int} {fr : MF} {b : Bool} {s : St}
theorem put_loop : ∀ (l : List Nat) (fr : MF) (σ : MS) (s : St) (t : Nat), (∀ k ∈ l, k < 3) → LawF fr → 0 < s.n → t + l.length ≤ 12 → Inv s t → Led σ (s.led scr) → ∀ (P_ : Prop), (∀ fr' σ' s', (FoM X 9 "key" [putS] (fun _ => True) (l.map fun i : Nat => MV.int (i : Int)) fr σ .next fr' σ') → (LawF fr') → (Led σ' (s'.led scr)) → (Inv s' (t + l.length)) → (s'.a = s.a) → P_) → P_
  | [], fr, σ, s, t, hk, hF, hn, ht, hI, H, _, K_ => K_ fr σ s (.nil trivial) hF H hI rfl
  | k :: l, fr, σ, s, t, hk, hF, hn, ht, hI, H, _, K_ => by
    rw [List.length_cons] at ht
    refine op_put (X := X) (n := 1) (hk k (.head _)) hn (by lia) hI H ?_
    intro σ1 s1 e H1 hI1 h1 h2 _ ha _
    have hF1 : LawF ⟨setL "key" (.int ((k : Int))) fr.loc, fr.cel, fr.law⟩ := hF.set (x := "key") (.int ((k : Int))) (by decide) (by decide) (by decide) (by decide)
    have e1 : ExM X 9 putS ⟨setL "key" (.int ((k : Int))) fr.loc, fr.cel, fr.law⟩ σ .next ⟨setL "key" (.int ((k : Int))) fr.loc, fr.cel, fr.law⟩ σ1 := st_put (X := X) (n := 8) hF1 (by simp [getL_setL]) e
    refine put_loop l _ σ1 s1 (t + 1) (fun j h => hk j (.tail _ h)) hF1 (by unfold St.n St.hn at hn ⊢; rw [h1, h2]; exact hn) (by lia) hI1 H1 _ ?_
    intro fr' σ' s' e2 hF' H' hI' ha'
    exact K_ fr' σ' s' (.cons trivial (xms_one e1) e2) hF' H' (by rw [List.length_cons, show t + (l.length + 1) = t + 1 + l.length by lia]; exact hI') (ha'.trans ha)
theorem turn_loop (hr : scr.length ≤ 50) : ∀ (l : List Nat) (fr : MF) (σ : MS) (s : St) (t : Nat), LawF fr → t + l.length ≤ 12 → s.a + 2 * l.length < 98 → Inv s t → Led σ (s.led scr) → ∀ (P_ : Prop), (∀ fr' σ' s', (FoM X 9 "_" turnB (fun _ => True) (l.map fun i : Nat => MV.int (i : Int)) fr σ .next fr' σ') → (LawF fr') → (Led σ' (s'.led scr)) → (Inv s' (t + l.length)) → P_) → P_
  | [], fr, σ, s, t, hF, ht, ha, hI, H, _, K_ => K_ fr σ s (.nil trivial) hF H hI
  | k :: l, fr, σ, s, t, hF, ht, ha, hI, H, _, K_ => by
    rw [List.length_cons] at ht ha
    have hF1 : LawF ⟨setL "_" (.int (k : Int)) fr.loc, fr.cel, fr.law⟩ := hF.set (x := "_") (.int (k : Int)) (by decide) (by decide) (by decide) (by decide)
    refine turn_ (X := X) hF1 hr (by lia) (by lia) hI H ?_
    intro fr1 σ1 s1 e1 hF2 H1 hI1 _ ha1 _
    refine turn_loop hr l fr1 σ1 s1 (t + 1) hF2 (by lia) (by lia) hI1 H1 _ ?_
    intro fr' σ' s' e2 hF' H' hI'
    exact K_ fr' σ' s' (.cons trivial e1 e2) hF' H' (by rw [List.length_cons, show t + (l.length + 1) = t + 1 + l.length by lia]; exact hI')
theorem st_purB (hF : LawF fr) (hr : scr.length ≤ 50) (ha : s.a < 50) (hn : 0 < s.n) (hI : Inv s 0) (H : Led σ (s.led scr)) {P_ : Prop} (K_ : ∀ fr' σ' s' t, (ExM X 9 purB fr σ .next fr' σ') → (LawF fr') → (Led σ' (s'.led scr)) → (Inv s' t) → (t ≤ 3) → (s'.a = s.a + 1) → P_) : P_ := by
  have f1 := hF.purse
  refine op_coin (X := X) (n := 7) (fs := 4) (by decide) hr (by lia) H ?_
  intro σ1 r e1 r1 r2 H1
  obtain ⟨N, rfl⟩ := Int.eq_ofNat_of_zero_le r1
  refine put_loop (X := X) (List.range N) fr σ1 { s with a := s.a + 1 } 0 (fun k h => by rw [List.mem_range] at h; lia) hF hn (by rw [List.length_range]; lia) (inv_a hI _) H1 _ ?_
  intro fr' σ' s' e2 hF' H' hI' ha'
  rw [List.length_range] at hI'
  exact K_ fr' σ' s' _ (xm_forR (em_call em_val (ems_cons (em_var f1) (ems_cons em_int ems_nil)) e1) (by lia) e2) hF' H' hI' (by lia) ha'
theorem st_turns (hF : LawF fr) (hr : scr.length ≤ 50) (ha : s.a < 50) (ht : t ≤ 3) (hI : Inv s t) (H : Led σ (s.led scr)) {P_ : Prop} (K_ : ∀ fr' σ' s' t', (ExM X 9 turns fr σ .next fr' σ') → (LawF fr') → (Led σ' (s'.led scr)) → (Inv s' t') → (t' ≤ 11) → P_) : P_ := by
  have f1 := hF.purse
  refine op_coin (X := X) (n := 7) (fs := 8) (by decide) hr (by lia) H ?_
  intro σ1 r e1 r1 r2 H1
  obtain ⟨N, rfl⟩ := Int.eq_ofNat_of_zero_le r1
  have hl : (List.range (1 + N)).length = 1 + N := List.length_range
  refine turn_loop (X := X) hr (List.range (1 + N)) fr σ1 { s with a := s.a + 1 } t hF (by rw [hl]; lia) (by rw [hl]; show s.a + 1 + _ < _; lia) (inv_a hI _) H1 _ ?_
  intro fr' σ' s' e2 hF' H' hI'
  rw [hl] at hI'
  have he : EvM X 9 fr (.bin (.add) (.int 1) (.call (.val (.top 634)) [.var "purse", .int 8])) σ (.int ((1 + N : Nat) : Int)) σ1 := (show (1 : Int) + (N : Int) = ((1 + N : Nat) : Int) by lia) ▸ em_bin em_int (em_call em_val (ems_cons (em_var f1) (ems_cons em_int ems_nil)) e1) om_add
  exact K_ fr' σ' s' _ (xm_forR he (by lia) e2) hF' H' hI' (by lia)
theorem st_ret (hF : LawF fr) (hp : gs.Perm du) (hq : ts.Perm du) (hl : gs.length < 64) (H : Led σ ((3, .cell (some (.loc 14))) :: (1, .cell (some (.loc 42))) :: (8, .cell (some (.loc 15))) :: (6, .cell (some (.loc 22))) :: (22, runO) :: (30, .list []) :: (14, .list (gs.map .int)) :: (42, .list (du.map .int)) :: (15, .list (ts.map .int)) :: (0, cdO) :: R)) {P_ : Prop} (K_ : ∀ σ', (ExM X 9 retS fr σ (.ret (.bool true)) fr σ') → (σ'.obj 0 = some cdO) → P_) : P_ := by
  have f1 := hF.cel
  have hl' := hp.length_eq
  have hl2 := hq.length_eq
  have H1 := H.new (.list ((sortI gs).map .int))
  have H2 := H1.new (.list ((sortI du).map .int))
  have H3 := H2.new (.list ((sortI ts).map .int))
  have H4 := H3.new (.list [])
  have c1 : EvM X 9 fr (.cmp2 (.eq) (.eq) (.call (.val (.bi "sorted")) [.cel "gone"]) (.call (.val (.bi "sorted")) [.cel "due"]) (.call (.val (.bi "sorted")) [.cel "told"])) σ (.bool true) (((σ.new (.list ((sortI gs).map .int))).new (.list ((sortI du).map .int))).new (.list ((sortI ts).map .int))) :=
    em_cmp2 (em_call em_val (ems_cons (em_cel (by rw [f1]; rfl) (H.get 0 rfl)) ems_nil) (cm_bi (im_sorted (H.get 6 rfl) hl))) (em_call em_val (ems_cons (em_cel (by rw [f1]; rfl) (H1.get 2 rfl)) ems_nil) (cm_bi (im_sorted (H1.get 8 rfl) (by lia))))
      (decide_eq_true (sortI_permP hp) ▸ km_eqI (H2.get 1 rfl) (H2.get 0 rfl)) (fun _ => em_call em_val (ems_cons (em_cel (by rw [f1]; rfl) (H2.get 4 rfl)) ems_nil) (cm_bi (im_sorted (H2.get 10 rfl) (by lia))))
      (fun _ => decide_eq_true (sortI_permP hq.symm) ▸ km_eqI (H3.get 1 rfl) (H3.get 0 rfl)) (fun h => by cases h)
  exact K_ _ (xm_ret (em_and c1 (fun _ => em_cmp (em_attr (em_cel (by rw [f1]; rfl) (H3.get 6 rfl)) (am_get X.b.toBs (H3.get 7 rfl) rfl rfl rfl)) (em_list ems_nil (Nat.le_of_ble_eq_true rfl)) (km_eqn (H4.get 9 rfl) (H4.get 0 rfl))) (fun h => by cases h))) (H4.get 13 rfl)
end Mine
end
section
set_option maxHeartbeats 4000000
namespace Mine
open PySem
theorem pureOk_holds : PureOk := fun X row hr => by
  refine pre_ (X := X) hr ?_
  intro σ0 b e0 H0
  refine st_purB (X := X) (s := s0 b) lawF0 hr (by show 1 < 50; decide) (by show 0 < 1; decide) (inv0 b) H0 ?_
  intro fr1 σ1 s1 t1 e1 hF1 H1 hI1 ht1 ha1
  refine st_turns (X := X) hF1 hr (by rw [ha1]; show 1 + 1 < 50; decide) ht1 hI1 H1 ?_
  intro fr2 σ2 s2 t2 e2 hF2 H2 hI2 ht2
  refine op_leave (X := X) (n := 2) (m := 0) (ms' := s2.ms) (e1 := .int 0) (e2 := .int 0) hF2 (by lia) hI2 (Nat.le_refl _) (fun σ h => em_int) (fun σ h => by rw [put_self h]; exact em_int) H2 ?_
  intro σ3 s3 e3 H3 hI3 _ _ _ hst3
  have e3 : ExsM X 9 (levB (.int 0) (.int 0)) fr2 σ2 .next fr2 σ3 := e3
  have hs3 : s3.stk = [] := by rw [hst3]; simp
  refine op_end (X := X) (n := 5) hF2 (by lia) hI3 H3 ?_
  intro σ4 s4 e4 H4 hI4 hh4 hs4
  have e4 : ExsM X 9 endB fr2 σ3 .next fr2 σ4 := e4
  refine settled (X := X) hF2 (by lia) hI4 H4 ?_
  intro σ5 s5 e5 H5 hI5 hD5 _ hh5 hs5 _
  have hst5 : s5.stk = [] := hs5.trans (hs4.trans hs3)
  have look5 : s5.look = noneL := hI5.out (hh5.trans hh4) hst5
  have lc5 : s5.lc = [] := by unfold St.lc; rw [look5, hst5]; rfl
  have hq : s5.ts.Perm s5.du := permC fun f => by
    have := hI5.told f
    rw [lc5] at this
    simp only [List.flatMap_nil, cnt_nil] at this
    lia
  have hg := hI5.gsLen
  have hsv : svOf s5.stk = [] := by rw [hst5]; rfl
  refine st_ret (X := X) (ts := s5.ts) (du := s5.du) (gs := s5.gs) (R := [(2, .cell (some (.loc 43))), (4, .cell (some (.bool s5.hh))), (5, .cell (some (.loc 41))), (7, .cell (some (.loc 33))),
      (11, limO), (18, fGone), (19, cntO), (20, .dI []), (21, .dI []), (43, fElem), (44, fPut), (10, purseO s5.a), (9, rowO row), (12, heapO s5.L s5.z), (s5.z, .list (locs s5.D)),
      (16, .list (s5.ms.map fun m : Nat => MV.int (m : Int))), (40, .list (asOf s5.stk)), (41, ownO s5.rl s5.held), (s5.rl, .dI s5.row), (37, scO 2 1 false 38 (if s5.held then .loc 36 else .none)), (36, refO 33)] ++ (thingL s5.C s5.n ++ (s5.stk.flatMap (tS s5.hh) ++ (s5.stk.map tA ++ s5.D.flatMap (·.foot false))))) hF2 (due_perm hI5 hD5) hq (by lia)
    (H5.perm (permC fun f => by simp only [St.led, fixL, cGone, hsv, cnt_app, cnt_cons, cnt_nil]; lia)) ?_
  intro σ6 e6 h6
  exact ⟨fr2, σ6, _, law_split ▸ xms_app e0 (xms_cons e1 (xms_cons e2 (xms_app e3 (xms_app e4 (xms_cons e5 (xms_one e6)))))), h6⟩
end Mine
end
theorem PySem.Challenge.cw_qz0101_01_holds : PySem.Challenge.rw_qz0101_01.Holds :=
  Mine.hdF (Mine.walk_law Mine.pureOk_holds)
