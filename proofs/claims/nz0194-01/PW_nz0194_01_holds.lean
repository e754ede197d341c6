import PyProof.Rows.All
import Wide.All
import OpenK.AllK
import Wide.FinOn
import Lean
import PySem.Challenge.RW_nz0194_01
set_option Elab.async false
set_option linter.unusedVariables false
set_option compiler.extract_closed false
local macro_rules | `(tactic| k_ne) => `(tactic| (refine PySem.W.neN ?_; (try dsimp only); first | assumption | (refine Ne.symm ?_; assumption) | omega))

section
open PySem PySem.W PyProof.Rows
set_option maxRecDepth 100000
set_option maxHeartbeats 8000000
namespace Mine
noncomputable abbrev prg : Program := PySem.Challenge.rw_nz0194_01.row.toRowW.1
noncomputable abbrev bd : List Stmt := behindTheImports prg
def nth (l : List Stmt) (i : Nat) : Stmt := l.getD i (.Pass ⟨0, 0, 0, 0⟩)
def fA : Stmt → Arguments
  | .FunctionDef _ a .. => a
  | _ => ⟨[], [], none, [], [], none, []⟩
def fB : Stmt → FuncBody
  | .FunctionDef _ _ b .. => .stmts b
  | _ => .stmts []
def fS : Stmt → Scope
  | .FunctionDef _ _ _ _ _ _ s .. => s
  | _ => ⟨.function, [], false, false, []⟩
def cB : Stmt → List Stmt
  | .ClassDef _ _ _ b .. => b
  | _ => []
noncomputable abbrev f_0 : Stmt := nth bd 0
noncomputable abbrev f_10 : Stmt := nth bd 10
noncomputable abbrev f_12 : Stmt := nth bd 12
noncomputable abbrev f_13 : Stmt := nth bd 13
noncomputable abbrev f_17 : Stmt := nth bd 17
noncomputable abbrev f_18 : Stmt := nth bd 18
noncomputable abbrev f_19 : Stmt := nth bd 19
noncomputable abbrev f_20 : Stmt := nth bd 20
noncomputable abbrev f_21 : Stmt := nth bd 21
noncomputable abbrev f_22 : Stmt := nth bd 22
noncomputable abbrev f_23 : Stmt := nth bd 23
noncomputable abbrev f_24 : Stmt := nth bd 24
noncomputable abbrev f_25 : Stmt := nth bd 25
noncomputable abbrev f_26 : Stmt := nth bd 26
noncomputable abbrev f_27 : Stmt := nth bd 27
noncomputable abbrev f_28 : Stmt := nth bd 28
noncomputable abbrev f_2_0 : Stmt := nth (cB (nth bd 2)) 0
noncomputable abbrev f_30 : Stmt := nth bd 30
noncomputable abbrev f_31 : Stmt := nth bd 31
noncomputable abbrev f_32 : Stmt := nth bd 32
noncomputable abbrev f_33 : Stmt := nth bd 33
noncomputable abbrev f_34 : Stmt := nth bd 34
noncomputable abbrev f_35 : Stmt := nth bd 35
noncomputable abbrev f_37_0 : Stmt := nth (cB (nth bd 37)) 0
noncomputable abbrev f_37_1 : Stmt := nth (cB (nth bd 37)) 1
noncomputable abbrev f_37_10 : Stmt := nth (cB (nth bd 37)) 10
noncomputable abbrev f_37_11 : Stmt := nth (cB (nth bd 37)) 11
noncomputable abbrev f_37_2 : Stmt := nth (cB (nth bd 37)) 2
noncomputable abbrev f_37_3 : Stmt := nth (cB (nth bd 37)) 3
noncomputable abbrev f_37_4 : Stmt := nth (cB (nth bd 37)) 4
noncomputable abbrev f_37_5 : Stmt := nth (cB (nth bd 37)) 5
noncomputable abbrev f_37_6 : Stmt := nth (cB (nth bd 37)) 6
noncomputable abbrev f_37_7 : Stmt := nth (cB (nth bd 37)) 7
noncomputable abbrev f_37_8 : Stmt := nth (cB (nth bd 37)) 8
noncomputable abbrev f_37_9 : Stmt := nth (cB (nth bd 37)) 9
noncomputable abbrev f_39_0 : Stmt := nth (cB (nth bd 39)) 0
noncomputable abbrev f_3_0 : Stmt := nth (cB (nth bd 3)) 0
noncomputable abbrev f_41_0 : Stmt := nth (cB (nth bd 41)) 0
noncomputable abbrev f_43_0 : Stmt := nth (cB (nth bd 43)) 0
noncomputable abbrev f_43_1 : Stmt := nth (cB (nth bd 43)) 1
noncomputable abbrev f_43_2 : Stmt := nth (cB (nth bd 43)) 2
noncomputable abbrev f_43_3 : Stmt := nth (cB (nth bd 43)) 3
noncomputable abbrev f_43_4 : Stmt := nth (cB (nth bd 43)) 4
noncomputable abbrev f_43_5 : Stmt := nth (cB (nth bd 43)) 5
noncomputable abbrev f_43_6 : Stmt := nth (cB (nth bd 43)) 6
noncomputable abbrev f_47 : Stmt := nth bd 47
noncomputable abbrev f_48 : Stmt := nth bd 48
noncomputable abbrev f_49 : Stmt := nth bd 49
noncomputable abbrev f_4_0 : Stmt := nth (cB (nth bd 4)) 0
noncomputable abbrev f_50 : Stmt := nth bd 50
noncomputable abbrev f_51 : Stmt := nth bd 51
noncomputable abbrev f_52 : Stmt := nth bd 52
noncomputable abbrev f_53 : Stmt := nth bd 53
noncomputable abbrev f_5_0 : Stmt := nth (cB (nth bd 5)) 0
noncomputable abbrev f_6_0 : Stmt := nth (cB (nth bd 6)) 0
noncomputable abbrev f_6_1 : Stmt := nth (cB (nth bd 6)) 1
noncomputable abbrev f_6_2 : Stmt := nth (cB (nth bd 6)) 2
noncomputable abbrev f_6_3 : Stmt := nth (cB (nth bd 6)) 3
noncomputable abbrev f_6_4 : Stmt := nth (cB (nth bd 6)) 4
noncomputable abbrev f_6_5 : Stmt := nth (cB (nth bd 6)) 5
noncomputable abbrev f_6_6 : Stmt := nth (cB (nth bd 6)) 6
noncomputable abbrev f_8 : Stmt := nth bd 8
noncomputable abbrev e0 (P : Params) : DictEntry := .mk (PyData.keyHash P "__name__") (.str "__name__" 165) (.str "perlcore.limits" 807)
noncomputable abbrev e1 (P : Params) : DictEntry := .mk (PyData.keyHash P "__doc__") (.str "__doc__" 166) .none
noncomputable abbrev e2 (P : Params) : DictEntry := .mk (PyData.keyHash P "__package__") (.str "__package__" 167) .none
noncomputable abbrev e3 (P : Params) : DictEntry := .mk (PyData.keyHash P "__loader__") (.str "__loader__" 168) (.builtin "__main__.__loader__#opaque")
noncomputable abbrev e4 (P : Params) : DictEntry := .mk (PyData.keyHash P "__spec__") (.str "__spec__" 169) .none
noncomputable abbrev e5 (P : Params) : DictEntry := .mk (PyData.keyHash P "__annotations__") (.str "__annotations__" 170) (.ref 6)
noncomputable abbrev e6 (P : Params) : DictEntry := .mk (PyData.keyHash P "__builtins__") (.str "__builtins__" 171) (.ref 4)
noncomputable abbrev e7 (P : Params) : DictEntry := .mk (PyData.keyHash P "__file__") (.str "__file__" 173) (.str "/claim/cut.py" 172)
noncomputable abbrev e8 (P : Params) : DictEntry := .mk (PyData.keyHash P "__cached__") (.str "__cached__" 174) .none
noncomputable abbrev e9 (P : Params) : DictEntry := .mk (PyData.keyHash P "_wall") (.str "_wall" 193) (.ref 21)
noncomputable abbrev e10 (P : Params) : DictEntry := .mk (PyData.keyHash P "Thing") (.str "Thing" 229) (.ref 38)
noncomputable abbrev e11 (P : Params) : DictEntry := .mk (PyData.keyHash P "Scalar") (.str "Scalar" 256) (.ref 59)
noncomputable abbrev e12 (P : Params) : DictEntry := .mk (PyData.keyHash P "Glob") (.str "Glob" 286) (.ref 78)
noncomputable abbrev e13 (P : Params) : DictEntry := .mk (PyData.keyHash P "Ref") (.str "Ref" 317) (.ref 98)
noncomputable abbrev e14 (P : Params) : DictEntry := .mk (PyData.keyHash P "Heap") (.str "Heap" 394) (.ref 161)
noncomputable abbrev e15 (P : Params) : DictEntry := .mk (PyData.keyHash P "value_of") (.str "value_of" 403) (.ref 172)
noncomputable abbrev e16 (P : Params) : DictEntry := .mk (PyData.keyHash P "drop_member") (.str "drop_member" 414) (.ref 179)
noncomputable abbrev e17 (P : Params) : DictEntry := .mk (PyData.keyHash P "key_place") (.str "key_place" 426) (.ref 186)
noncomputable abbrev e18 (P : Params) : DictEntry := .mk (PyData.keyHash P "delete_key") (.str "delete_key" 435) (.ref 193)
noncomputable abbrev e19 (P : Params) : DictEntry := .mk (PyData.keyHash P "SPECIAL_TEXTS") (.str "SPECIAL_TEXTS" 448) (.ref 199)
noncomputable abbrev e20 (P : Params) : DictEntry := .mk (PyData.keyHash P "MATCH_SIGNS") (.str "MATCH_SIGNS" 453) (.ref 200)
noncomputable abbrev e21 (P : Params) : DictEntry := .mk (PyData.keyHash P "set_specials") (.str "set_specials" 462) (.ref 207)
noncomputable abbrev e22 (P : Params) : DictEntry := .mk (PyData.keyHash P "save_match") (.str "save_match" 469) (.ref 214)
noncomputable abbrev e23 (P : Params) : DictEntry := .mk (PyData.keyHash P "let_go_of") (.str "let_go_of" 477) (.ref 221)
noncomputable abbrev e24 (P : Params) : DictEntry := .mk (PyData.keyHash P "undo_scalar") (.str "undo_scalar" 485) (.ref 228)
noncomputable abbrev e25 (P : Params) : DictEntry := .mk (PyData.keyHash P "undo_array") (.str "undo_array" 493) (.ref 235)
noncomputable abbrev e26 (P : Params) : DictEntry := .mk (PyData.keyHash P "undo_hash") (.str "undo_hash" 501) (.ref 242)
noncomputable abbrev e27 (P : Params) : DictEntry := .mk (PyData.keyHash P "undo_code") (.str "undo_code" 509) (.ref 249)
noncomputable abbrev e28 (P : Params) : DictEntry := .mk (PyData.keyHash P "undo_elem") (.str "undo_elem" 522) (.ref 256)
noncomputable abbrev e29 (P : Params) : DictEntry := .mk (PyData.keyHash P "undo_helem") (.str "undo_helem" 534) (.ref 263)
noncomputable abbrev e30 (P : Params) : DictEntry := .mk (PyData.keyHash P "undo_pad") (.str "undo_pad" 542) (.ref 270)
noncomputable abbrev e31 (P : Params) : DictEntry := .mk (PyData.keyHash P "undo_slot") (.str "undo_slot" 550) (.ref 277)
noncomputable abbrev e32 (P : Params) : DictEntry := .mk (PyData.keyHash P "undo_match") (.str "undo_match" 558) (.ref 284)
noncomputable abbrev e33 (P : Params) : DictEntry := .mk (PyData.keyHash P "UNDOERS") (.str "UNDOERS" 577) (.ref 285)
noncomputable abbrev e34 (P : Params) : DictEntry := .mk (PyData.keyHash P "leave") (.str "leave" 586) (.ref 292)
noncomputable abbrev e35 (P : Params) : DictEntry := .mk (PyData.keyHash P "is_match_name") (.str "is_match_name" 594) (.ref 299)
noncomputable abbrev e36 (P : Params) : DictEntry := .mk (PyData.keyHash P "group_text") (.str "group_text" 604) (.ref 306)
noncomputable abbrev e37 (P : Params) : DictEntry := .mk (PyData.keyHash P "last_group") (.str "last_group" 612) (.ref 313)
noncomputable abbrev e38 (P : Params) : DictEntry := .mk (PyData.keyHash P "figures_value") (.str "figures_value" 621) (.ref 320)
noncomputable abbrev e39 (P : Params) : DictEntry := .mk (PyData.keyHash P "match_value") (.str "match_value" 631) (.ref 327)
noncomputable abbrev e40 (P : Params) : DictEntry := .mk (PyData.keyHash P "Counter") (.str "Counter" 753) (.ref 419)
noncomputable abbrev e41 (P : Params) : DictEntry := .mk (PyData.keyHash P "Run") (.str "Run" 806) (.ref 440)
noncomputable abbrev e42 (P : Params) : DictEntry := .mk (PyData.keyHash P "__module__") (.str "__module__" 866) (.str "perlcore.stash" 857)
noncomputable abbrev e43 (P : Params) : DictEntry := .mk (PyData.keyHash P "__qualname__") (.str "__qualname__" 868) (.str "Stash" 867)
noncomputable abbrev e44 (P : Params) : DictEntry := .mk (PyData.keyHash P "__firstlineno__") (.str "__firstlineno__" 870) (.int 274 869)
noncomputable abbrev e45 (P : Params) : DictEntry := .mk (PyData.keyHash P "__init__") (.str "__init__" 878) (.ref 480)
noncomputable abbrev e46 (P : Params) : DictEntry := .mk (PyData.keyHash P "glob_of") (.str "glob_of" 886) (.ref 487)
noncomputable abbrev e47 (P : Params) : DictEntry := .mk (PyData.keyHash P "scalar_of") (.str "scalar_of" 895) (.ref 494)
noncomputable abbrev e48 (P : Params) : DictEntry := .mk (PyData.keyHash P "array_of") (.str "array_of" 903) (.ref 501)
noncomputable abbrev e49 (P : Params) : DictEntry := .mk (PyData.keyHash P "hash_of") (.str "hash_of" 911) (.ref 508)
noncomputable abbrev e50 (P : Params) : DictEntry := .mk (PyData.keyHash P "code_of") (.str "code_of" 919) (.ref 515)
noncomputable abbrev e51 (P : Params) : DictEntry := .mk (PyData.keyHash P "find_array") (.str "find_array" 927) (.ref 522)
noncomputable abbrev e52 (P : Params) : DictEntry := .mk (PyData.keyHash P "__static_attributes__") (.str "__static_attributes__" 931) (.ref 523)
noncomputable abbrev e53 (P : Params) : DictEntry := .mk (PyData.keyHash P "__module__") (.str "__module__" 264) (.str "perlcore.values" 194)
noncomputable abbrev e54 (P : Params) : DictEntry := .mk (PyData.keyHash P "__qualname__") (.str "__qualname__" 266) (.str "Glob" 265)
noncomputable abbrev e55 (P : Params) : DictEntry := .mk (PyData.keyHash P "__firstlineno__") (.str "__firstlineno__" 268) (.int 20 267)
noncomputable abbrev e56 (P : Params) : DictEntry := .mk (PyData.keyHash P "__init__") (.str "__init__" 277) (.ref 75)
noncomputable abbrev e57 (P : Params) : DictEntry := .mk (PyData.keyHash P "__static_attributes__") (.str "__static_attributes__" 283) (.ref 76)
noncomputable abbrev e58 (P : Params) : DictEntry := .mk (PyData.keyHash P "__name__") (.str "__name__" 165) (.str "perlcore.values" 194)
noncomputable abbrev e59 (P : Params) : DictEntry := .mk (PyData.keyHash P "__module__") (.str "__module__" 816) (.str "perlcore.limits" 807)
noncomputable abbrev e60 (P : Params) : DictEntry := .mk (PyData.keyHash P "__qualname__") (.str "__qualname__" 818) (.str "Limits" 817)
noncomputable abbrev e61 (P : Params) : DictEntry := .mk (PyData.keyHash P "__firstlineno__") (.str "__firstlineno__" 820) (.int 265 819)
noncomputable abbrev e62 (P : Params) : DictEntry := .mk (PyData.keyHash P "__init__") (.str "__init__" 843) (.ref 459)
noncomputable abbrev e63 (P : Params) : DictEntry := .mk (PyData.keyHash P "__static_attributes__") (.str "__static_attributes__" 849) (.ref 460)
noncomputable abbrev e64 (P : Params) : DictEntry := .mk (PyData.keyHash P "__module__") (.str "__module__" 237) (.str "perlcore.values" 194)
noncomputable abbrev e65 (P : Params) : DictEntry := .mk (PyData.keyHash P "__firstlineno__") (.str "__firstlineno__" 241) (.int 14 240)
noncomputable abbrev e66 (P : Params) : DictEntry := .mk (PyData.keyHash P "__init__") (.str "__init__" 250) (.ref 56)
noncomputable abbrev e67 (P : Params) : DictEntry := .mk (PyData.keyHash P "__static_attributes__") (.str "__static_attributes__" 253) (.ref 57)
noncomputable abbrev e68 (P : Params) : DictEntry := .mk (PyData.keyHash P "__doc__") (.str "__doc__" 254) .none
noncomputable abbrev e69 (P : Params) : DictEntry := .mk (PyData.keyHash P "__name__") (.str "__name__" 165) (.str "perlcore.stash" 857)
noncomputable abbrev e70 (P : Params) : DictEntry := .mk (PyData.keyHash P "Limits") (.str "Limits" 856) (.ref 462)
noncomputable abbrev e71 (P : Params) : DictEntry := .mk (PyData.keyHash P "scalar") (.str "scalar" 559) (.ref 228)
noncomputable abbrev e72 (P : Params) : DictEntry := .mk (PyData.keyHash P "array") (.str "array" 560) (.ref 235)
noncomputable abbrev e73 (P : Params) : DictEntry := .mk (PyData.keyHash P "hash") (.str "hash" 561) (.ref 242)
noncomputable abbrev e74 (P : Params) : DictEntry := .mk (PyData.keyHash P "code") (.str "code" 562) (.ref 249)
noncomputable abbrev e75 (P : Params) : DictEntry := .mk (PyData.keyHash P "elem") (.str "elem" 563) (.ref 256)
noncomputable abbrev e76 (P : Params) : DictEntry := .mk (PyData.keyHash P "helem") (.str "helem" 564) (.ref 263)
noncomputable abbrev e77 (P : Params) : DictEntry := .mk (PyData.keyHash P "pad") (.str "pad" 565) (.ref 270)
noncomputable abbrev e78 (P : Params) : DictEntry := .mk (PyData.keyHash P "slot") (.str "slot" 566) (.ref 277)
noncomputable abbrev e79 (P : Params) : DictEntry := .mk (PyData.keyHash P "match") (.str "match" 567) (.ref 284)
noncomputable abbrev e80 (P : Params) : DictEntry := .mk (PyData.keyHash P "__qualname__") (.str "__qualname__" 239) (.str "Scalar" 238)
noncomputable abbrev e81 (P : Params) : DictEntry := .mk (PyData.keyHash P "__module__") (.str "__module__" 763) (.str "perlcore.frames" 754)
noncomputable abbrev e82 (P : Params) : DictEntry := .mk (PyData.keyHash P "__qualname__") (.str "__qualname__" 765) (.str "Run" 764)
noncomputable abbrev e83 (P : Params) : DictEntry := .mk (PyData.keyHash P "__firstlineno__") (.str "__firstlineno__" 767) (.int 241 766)
noncomputable abbrev e84 (P : Params) : DictEntry := .mk (PyData.keyHash P "__init__") (.str "__init__" 778) (.ref 437)
noncomputable abbrev e85 (P : Params) : DictEntry := .mk (PyData.keyHash P "__static_attributes__") (.str "__static_attributes__" 799) (.ref 438)
noncomputable abbrev e86 (P : Params) : DictEntry := .mk (PyData.keyHash P "__module__") (.str "__module__" 325) (.str "perlcore.values" 194)
noncomputable abbrev e87 (P : Params) : DictEntry := .mk (PyData.keyHash P "__qualname__") (.str "__qualname__" 327) (.str "Heap" 326)
noncomputable abbrev e88 (P : Params) : DictEntry := .mk (PyData.keyHash P "__firstlineno__") (.str "__firstlineno__" 329) (.int 34 328)
noncomputable abbrev e89 (P : Params) : DictEntry := .mk (PyData.keyHash P "__init__") (.str "__init__" 337) (.ref 116)
noncomputable abbrev e90 (P : Params) : DictEntry := .mk (PyData.keyHash P "next_number") (.str "next_number" 344) (.ref 123)
noncomputable abbrev e91 (P : Params) : DictEntry := .mk (PyData.keyHash P "new_scalar") (.str "new_scalar" 352) (.ref 130)
noncomputable abbrev e92 (P : Params) : DictEntry := .mk (PyData.keyHash P "new_array") (.str "new_array" 359) (.ref 137)
noncomputable abbrev e93 (P : Params) : DictEntry := .mk (PyData.keyHash P "new_hash") (.str "new_hash" 366) (.ref 144)
noncomputable abbrev e94 (P : Params) : DictEntry := .mk (PyData.keyHash P "new_code") (.str "new_code" 375) (.ref 151)
noncomputable abbrev e95 (P : Params) : DictEntry := .mk (PyData.keyHash P "new_glob") (.str "new_glob" 383) (.ref 158)
noncomputable abbrev e96 (P : Params) : DictEntry := .mk (PyData.keyHash P "__static_attributes__") (.str "__static_attributes__" 387) (.ref 159)
noncomputable abbrev e97 (P : Params) : DictEntry := .mk (PyData.keyHash P "__module__") (.str "__module__" 641) (.str "perlcore.counts" 632)
noncomputable abbrev e98 (P : Params) : DictEntry := .mk (PyData.keyHash P "__firstlineno__") (.str "__firstlineno__" 645) (.int 183 644)
noncomputable abbrev e99 (P : Params) : DictEntry := .mk (PyData.keyHash P "__init__") (.str "__init__" 654) (.ref 341)
noncomputable abbrev e100 (P : Params) : DictEntry := .mk (PyData.keyHash P "hold") (.str "hold" 662) (.ref 348)
noncomputable abbrev e101 (P : Params) : DictEntry := .mk (PyData.keyHash P "let_go") (.str "let_go" 670) (.ref 355)
noncomputable abbrev e102 (P : Params) : DictEntry := .mk (PyData.keyHash P "note") (.str "note" 678) (.ref 362)
noncomputable abbrev e103 (P : Params) : DictEntry := .mk (PyData.keyHash P "take") (.str "take" 686) (.ref 369)
noncomputable abbrev e104 (P : Params) : DictEntry := .mk (PyData.keyHash P "put_off") (.str "put_off" 692) (.ref 374)
noncomputable abbrev e105 (P : Params) : DictEntry := .mk (PyData.keyHash P "store") (.str "store" 702) (.ref 381)
noncomputable abbrev e106 (P : Params) : DictEntry := .mk (PyData.keyHash P "fresh") (.str "fresh" 710) (.ref 388)
noncomputable abbrev e107 (P : Params) : DictEntry := .mk (PyData.keyHash P "drop") (.str "drop" 718) (.ref 395)
noncomputable abbrev e108 (P : Params) : DictEntry := .mk (PyData.keyHash P "settle") (.str "settle" 726) (.ref 402)
noncomputable abbrev e109 (P : Params) : DictEntry := .mk (PyData.keyHash P "finish") (.str "finish" 734) (.ref 409)
noncomputable abbrev e110 (P : Params) : DictEntry := .mk (PyData.keyHash P "free") (.str "free" 742) (.ref 416)
noncomputable abbrev e111 (P : Params) : DictEntry := .mk (PyData.keyHash P "__static_attributes__") (.str "__static_attributes__" 746) (.ref 417)
noncomputable abbrev e112 (P : Params) : DictEntry := .mk (PyData.keyHash P "__dict__") (.str "__dict__" 748) (.ref 420)
noncomputable abbrev e113 (P : Params) : DictEntry := .mk (PyData.keyHash P "__weakref__") (.str "__weakref__" 750) (.ref 421)
noncomputable abbrev e114 (P : Params) : DictEntry := .mk (PyData.keyHash P "__doc__") (.str "__doc__" 751) .none
noncomputable abbrev e115 (P : Params) : DictEntry := .mk (PyData.keyHash P "Stash") (.str "Stash" 938) (.ref 525)
noncomputable abbrev e116 (P : Params) : DictEntry := .mk (PyData.keyHash P "__name__") (.str "__name__" 165) (.str "perlcore.dynamic" 436)
noncomputable abbrev e117 (P : Params) : DictEntry := .mk (PyData.keyHash P "__module__") (.str "__module__" 203) (.str "perlcore.values" 194)
noncomputable abbrev e118 (P : Params) : DictEntry := .mk (PyData.keyHash P "__qualname__") (.str "__qualname__" 205) (.str "Thing" 204)
noncomputable abbrev e119 (P : Params) : DictEntry := .mk (PyData.keyHash P "__firstlineno__") (.str "__firstlineno__" 207) (.int 5 206)
noncomputable abbrev e120 (P : Params) : DictEntry := .mk (PyData.keyHash P "__init__") (.str "__init__" 215) (.ref 35)
noncomputable abbrev e121 (P : Params) : DictEntry := .mk (PyData.keyHash P "__static_attributes__") (.str "__static_attributes__" 222) (.ref 36)
noncomputable abbrev e122 (P : Params) : DictEntry := .mk (PyData.keyHash P "__dict__") (.str "__dict__" 224) (.ref 39)
noncomputable abbrev e123 (P : Params) : DictEntry := .mk (PyData.keyHash P "__weakref__") (.str "__weakref__" 226) (.ref 40)
noncomputable abbrev e124 (P : Params) : DictEntry := .mk (PyData.keyHash P "__doc__") (.str "__doc__" 227) .none
noncomputable abbrev e125 (P : Params) : DictEntry := .mk (PyData.keyHash P "__module__") (.str "__module__" 294) (.str "perlcore.values" 194)
noncomputable abbrev e126 (P : Params) : DictEntry := .mk (PyData.keyHash P "__qualname__") (.str "__qualname__" 296) (.str "Ref" 295)
noncomputable abbrev e127 (P : Params) : DictEntry := .mk (PyData.keyHash P "__firstlineno__") (.str "__firstlineno__" 298) (.int 29 297)
noncomputable abbrev e128 (P : Params) : DictEntry := .mk (PyData.keyHash P "__init__") (.str "__init__" 307) (.ref 95)
noncomputable abbrev e129 (P : Params) : DictEntry := .mk (PyData.keyHash P "__static_attributes__") (.str "__static_attributes__" 310) (.ref 96)
noncomputable abbrev e130 (P : Params) : DictEntry := .mk (PyData.keyHash P "__doc__") (.str "__doc__" 284) .none
noncomputable abbrev e131 (P : Params) : DictEntry := .mk (PyData.keyHash P "__name__") (.str "__name__" 165) (.str "perlcore.counts" 632)
noncomputable abbrev e132 (P : Params) : DictEntry := .mk (PyData.keyHash P "__dict__") (.str "__dict__" 801) (.ref 441)
noncomputable abbrev e133 (P : Params) : DictEntry := .mk (PyData.keyHash P "__weakref__") (.str "__weakref__" 803) (.ref 442)
noncomputable abbrev e134 (P : Params) : DictEntry := .mk (PyData.keyHash P "__doc__") (.str "__doc__" 804) .none
noncomputable abbrev e135 (P : Params) : DictEntry := .mk (PyData.keyHash P "__dict__") (.str "__dict__" 312) (.ref 99)
noncomputable abbrev e136 (P : Params) : DictEntry := .mk (PyData.keyHash P "__weakref__") (.str "__weakref__" 314) (.ref 100)
noncomputable abbrev e137 (P : Params) : DictEntry := .mk (PyData.keyHash P "__doc__") (.str "__doc__" 315) .none
noncomputable abbrev e138 (P : Params) : DictEntry := .mk (PyData.keyHash P "__dict__") (.str "__dict__" 851) (.ref 463)
noncomputable abbrev e139 (P : Params) : DictEntry := .mk (PyData.keyHash P "__weakref__") (.str "__weakref__" 853) (.ref 464)
noncomputable abbrev e140 (P : Params) : DictEntry := .mk (PyData.keyHash P "__doc__") (.str "__doc__" 854) .none
noncomputable abbrev e141 (P : Params) : DictEntry := .mk (PyData.keyHash P "__qualname__") (.str "__qualname__" 643) (.str "Counter" 642)
noncomputable abbrev e142 (P : Params) : DictEntry := .mk (PyData.keyHash P "__name__") (.str "__name__" 165) (.str "law_nz0194_01" 939)
noncomputable abbrev e143 (P : Params) : DictEntry := .mk (PyData.keyHash P "_law_names") (.str "_law_names" 952) (.ref 530)
noncomputable abbrev e144 (P : Params) : DictEntry := .mk (PyData.keyHash P "_law_others") (.str "_law_others" 963) (.ref 531)
noncomputable abbrev e145 (P : Params) : DictEntry := .mk (PyData.keyHash P "_law_pen") (.str "_law_pen" 972) (.ref 538)
noncomputable abbrev e146 (P : Params) : DictEntry := .mk (PyData.keyHash P "_law_draw") (.str "_law_draw" 981) (.ref 545)
noncomputable abbrev e147 (P : Params) : DictEntry := .mk (PyData.keyHash P "_law_pick") (.str "_law_pick" 989) (.ref 552)
noncomputable abbrev e148 (P : Params) : DictEntry := .mk (PyData.keyHash P "_law_pair") (.str "_law_pair" 999) (.ref 559)
noncomputable abbrev e149 (P : Params) : DictEntry := .mk (PyData.keyHash P "_law_match") (.str "_law_match" 1005) (.ref 564)
noncomputable abbrev e150 (P : Params) : DictEntry := .mk (PyData.keyHash P "_law_is_so") (.str "_law_is_so" 1011) (.ref 569)
noncomputable abbrev e151 (P : Params) : DictEntry := .mk (PyData.keyHash P "law") (.str "law" 1017) (.ref 574)
noncomputable abbrev e152 (P : Params) : DictEntry := .mk (PyData.keyHash P "__dict__") (.str "__dict__" 933) (.ref 526)
noncomputable abbrev e153 (P : Params) : DictEntry := .mk (PyData.keyHash P "__weakref__") (.str "__weakref__" 935) (.ref 527)
noncomputable abbrev e154 (P : Params) : DictEntry := .mk (PyData.keyHash P "__doc__") (.str "__doc__" 936) .none
noncomputable abbrev e155 (P : Params) : DictEntry := .mk (PyData.keyHash P "__dict__") (.str "__dict__" 389) (.ref 162)
noncomputable abbrev e156 (P : Params) : DictEntry := .mk (PyData.keyHash P "__weakref__") (.str "__weakref__" 391) (.ref 163)
noncomputable abbrev e157 (P : Params) : DictEntry := .mk (PyData.keyHash P "__doc__") (.str "__doc__" 392) .none
noncomputable abbrev o43 (P : Params) : Obj := .mk (.type "tuple") none (.seq #[]) #[]
noncomputable abbrev o44 (P : Params) : Obj := .mk .none none (.fields #[]) #[]
noncomputable abbrev o45 (P : Params) : Obj := .mk (.type "code") none (.fields #[.str "<module>" 182, .str "<module>" 183, .str "/claim/cut.py" 184, .int 1 0, .int 0 0, .int 0 0, .int 0 0, .int 0 0, .ref 11, .bool false, .int 181 0, .ref 12, .none, .none, .none, .none, .int 185 0, .int 1 0, .str "/claim/cut.py" 186]) #[]
noncomputable abbrev o46 (P : Params) : Obj := .mk (.type "frame") none .plain #[some (.ref 13), some (.ref 3), some (.ref 3), none, some (.str "__main__" 164), none, some (.ref 0)]
noncomputable abbrev o49 (P : Params) : Obj := .mk (.type "dict") none (.dict #[e58 P, e1 P, e2 P, e3 P, e4 P, e5 P, e6 P, e7 P, e8 P, e9 P, e10 P] 11) #[]
noncomputable abbrev o50 (P : Params) : Obj := .mk .none none (.fields #[.int 1 0, .int 0 0, .ref 20, .int 5 0, .int 0 0, .ref 27]) #[]
noncomputable abbrev o51 (P : Params) : Obj := .mk (.type "tuple") none (.seq #[]) #[]
noncomputable abbrev o52 (P : Params) : Obj := .mk .none none (.fields #[]) #[]
noncomputable abbrev o53 (P : Params) : Obj := .mk (.type "tuple") none (.seq #[.str "k" 190]) #[]
noncomputable abbrev o54 (P : Params) : Obj := .mk (.type "tuple") none (.seq #[]) #[]
noncomputable abbrev o55 (P : Params) : Obj := .mk .none none (.func (.mk "_wall" "_wall" (fA f_0) (fB f_0) (fS f_0) 0 [] .none .none .none .none none .none .none 0)) #[]
noncomputable abbrev o56 (P : Params) : Obj := .mk (.type "code") none (.fields #[.str "_wall" 187, .str "_wall" 188, .str "/claim/cut.py" 189, .int 1 0, .int 1 0, .int 0 0, .int 0 0, .int 3 0, .ref 15, .bool true, .int 181 0, .ref 16, .none, .ref 17, .ref 18, .ref 19, .int 191 0, .int 1 0, .str "/claim/cut.py" 192]) #[]
noncomputable abbrev o57 (P : Params) : Obj := .mk (.type "function") none (.func (.mk "_wall" "_wall" (fA f_0) (fB f_0) (fS f_0) 3 [] .none .none .none (.str "__main__" 164) none (.ref 20) .none 0)) #[]
noncomputable abbrev o58 (P : Params) : Obj := .mk (.type "tuple") none (.seq #[]) #[]
noncomputable abbrev o59 (P : Params) : Obj := .mk (.type "builtin_function_or_method") none (.fields #[.builtin "type.__prepare__", .type "type"]) #[]
noncomputable abbrev o60 (P : Params) : Obj := .mk (.type "dict") none (.dict #[e117 P, e118 P, e119 P, e120 P, e121 P] 5) #[]
noncomputable abbrev o61 (P : Params) : Obj := .mk (.type "tuple") none (.seq #[]) #[]
noncomputable abbrev o62 (P : Params) : Obj := .mk .none none (.fields #[.int 7 0, .int 4 0, .ref 34]) #[]
noncomputable abbrev o63 (P : Params) : Obj := .mk (.type "code") none (.fields #[.str "Thing" 198, .str "Thing" 199, .str "/claim/cut.py" 200, .int 5 0, .int 0 0, .int 0 0, .int 0 0, .int 0 0, .ref 25, .bool false, .int 181 0, .ref 26, .none, .none, .none, .none, .int 201 0, .int 5 0, .str "/claim/cut.py" 202]) #[]
noncomputable abbrev o64 (P : Params) : Obj := .mk (.type "frame") none .plain #[some (.ref 27), some (.ref 3), some (.ref 24), none, some (.str "perlcore.values" 194), none, some (.ref 0)]
noncomputable abbrev o65 (P : Params) : Obj := .mk (.type "tuple") none (.seq #[]) #[]
noncomputable abbrev o66 (P : Params) : Obj := .mk .none none (.fields #[]) #[]
noncomputable abbrev o67 (P : Params) : Obj := .mk (.type "tuple") none (.seq #[.str "self" 211, .str "number" 212]) #[]
noncomputable abbrev o68 (P : Params) : Obj := .mk (.type "tuple") none (.seq #[]) #[]
noncomputable abbrev o69 (P : Params) : Obj := .mk .none none (.func (.mk "__init__" "Thing.__init__" (fA f_2_0) (fB f_2_0) (fS f_2_0) 0 [] .none .none .none .none none .none .none 0)) #[]
noncomputable abbrev o70 (P : Params) : Obj := .mk (.type "code") none (.fields #[.str "__init__" 208, .str "Thing.__init__" 209, .str "/claim/cut.py" 210, .int 7 0, .int 2 0, .int 0 0, .int 0 0, .int 3 0, .ref 29, .bool true, .int 181 0, .ref 30, .none, .ref 31, .ref 32, .ref 33, .int 213 0, .int 7 0, .str "/claim/cut.py" 214]) #[]
noncomputable abbrev o71 (P : Params) : Obj := .mk (.type "function") none (.func (.mk "__init__" "Thing.__init__" (fA f_2_0) (fB f_2_0) (fS f_2_0) 3 [] .none .none .none (.str "perlcore.values" 194) none (.ref 34) .none 0)) #[]
noncomputable abbrev o72 (P : Params) : Obj := .mk (.type "tuple") none (.seq #[.str "blessed" 216, .str "count" 217, .str "is_destroyed" 218, .str "is_freed" 219, .str "number" 220, .str "weak" 221]) #[]
noncomputable abbrev o73 (P : Params) : Obj := .mk (.type "dict") none (.dict #[e117 P, e119 P, e120 P, e121 P, e122 P, e123 P, e124 P] 4) #[]
noncomputable abbrev o74 (P : Params) : Obj := .mk (.type "type") none (.cls (.mk "Thing" [.type "object"] [.ref 38, .type "object"] 37 "Thing" true [] [] false none false)) #[none, none, some (.str "Thing" 196), some (.str "Thing" 204), some (.builtin "object.__new__"), some (.bool true)]
noncomputable abbrev o75 (P : Params) : Obj := .mk (.type "getset_descriptor") none (.fields #[.str "__dict__" 223, .ref 38, .builtin "function.__dict__", .builtin "function.__dict__#set"]) #[]
noncomputable abbrev o76 (P : Params) : Obj := .mk (.type "getset_descriptor") none (.fields #[.str "__weakref__" 225, .ref 38, .builtin "ExceptionGroup.__weakref__", .none]) #[]
noncomputable abbrev o77 (P : Params) : Obj := .mk (.type "super") none (.fields #[.ref 38, .ref 38, .ref 38]) #[]
noncomputable abbrev o78 (P : Params) : Obj := .mk (.type "builtin_function_or_method") none (.fields #[.builtin "object.__init_subclass__", .ref 38]) #[]
noncomputable abbrev o79 (P : Params) : Obj := .mk (.type "dict") none (.dict #[e58 P, e1 P, e2 P, e3 P, e4 P, e5 P, e6 P, e7 P, e8 P, e9 P, e10 P, e11 P] 12) #[]
noncomputable abbrev o80 (P : Params) : Obj := .mk .none none (.fields #[.int 1 0, .int 0 0, .ref 20, .int 5 0, .int 0 0, .ref 27, .int 14 0, .int 0 0, .ref 48]) #[]
noncomputable abbrev o81 (P : Params) : Obj := .mk (.type "type") none (.cls (.mk "Thing" [.type "object"] [.ref 38, .type "object"] 37 "Thing" true [] [.ref 59] false none false)) #[none, none, some (.str "Thing" 196), some (.str "Thing" 204), some (.builtin "object.__new__"), some (.bool true)]
noncomputable abbrev o82 (P : Params) : Obj := .mk (.type "tuple") none (.seq #[.ref 38]) #[]
noncomputable abbrev o83 (P : Params) : Obj := .mk (.type "builtin_function_or_method") none (.fields #[.builtin "type.__prepare__", .type "type"]) #[]
noncomputable abbrev o84 (P : Params) : Obj := .mk (.type "dict") none (.dict #[e64 P, e80 P, e65 P, e66 P, e67 P] 5) #[]
noncomputable abbrev o85 (P : Params) : Obj := .mk (.type "tuple") none (.seq #[]) #[]
noncomputable abbrev o86 (P : Params) : Obj := .mk .none none (.fields #[.int 16 0, .int 4 0, .ref 55]) #[]
noncomputable abbrev o87 (P : Params) : Obj := .mk (.type "code") none (.fields #[.str "Scalar" 232, .str "Scalar" 233, .str "/claim/cut.py" 234, .int 14 0, .int 0 0, .int 0 0, .int 0 0, .int 0 0, .ref 46, .bool false, .int 181 0, .ref 47, .none, .none, .none, .none, .int 235 0, .int 14 0, .str "/claim/cut.py" 236]) #[]
noncomputable abbrev o88 (P : Params) : Obj := .mk (.type "frame") none .plain #[some (.ref 48), some (.ref 3), some (.ref 45), none, some (.str "perlcore.values" 194), none, some (.ref 0)]
noncomputable abbrev o89 (P : Params) : Obj := .mk (.type "tuple") none (.seq #[]) #[]
noncomputable abbrev o90 (P : Params) : Obj := .mk .none none (.fields #[]) #[]
noncomputable abbrev o91 (P : Params) : Obj := .mk (.type "tuple") none (.seq #[.str "self" 245, .str "number" 246, .str "value" 247]) #[]
noncomputable abbrev o92 (P : Params) : Obj := .mk (.type "tuple") none (.seq #[]) #[]
noncomputable abbrev o93 (P : Params) : Obj := .mk .none none (.func (.mk "__init__" "Scalar.__init__" (fA f_3_0) (fB f_3_0) (fS f_3_0) 0 [] .none .none .none .none none .none .none 0)) #[]
noncomputable abbrev o94 (P : Params) : Obj := .mk (.type "code") none (.fields #[.str "__init__" 242, .str "Scalar.__init__" 243, .str "/claim/cut.py" 244, .int 16 0, .int 3 0, .int 0 0, .int 0 0, .int 3 0, .ref 50, .bool true, .int 181 0, .ref 51, .none, .ref 52, .ref 53, .ref 54, .int 248 0, .int 16 0, .str "/claim/cut.py" 249]) #[]
noncomputable abbrev o95 (P : Params) : Obj := .mk (.type "function") none (.func (.mk "__init__" "Scalar.__init__" (fA f_3_0) (fB f_3_0) (fS f_3_0) 3 [] .none .none .none (.str "perlcore.values" 194) none (.ref 55) .none 0)) #[]
noncomputable abbrev o96 (P : Params) : Obj := .mk (.type "tuple") none (.seq #[.str "magic" 251, .str "value" 252]) #[]
noncomputable abbrev o97 (P : Params) : Obj := .mk (.type "dict") none (.dict #[e64 P, e65 P, e66 P, e67 P, e68 P] 2) #[]
noncomputable abbrev o98 (P : Params) : Obj := .mk (.type "type") none (.cls (.mk "Scalar" [.ref 38] [.ref 59, .ref 38, .type "object"] 58 "Scalar" true [] [] false none false)) #[some (.ref 43), none, some (.str "Scalar" 230), some (.str "Scalar" 238), some (.builtin "object.__new__"), some (.bool true)]
noncomputable abbrev o99 (P : Params) : Obj := .mk (.type "super") none (.fields #[.ref 59, .ref 59, .ref 59]) #[]
noncomputable abbrev o100 (P : Params) : Obj := .mk (.type "builtin_function_or_method") none (.fields #[.builtin "object.__init_subclass__", .ref 59]) #[]
noncomputable abbrev o101 (P : Params) : Obj := .mk (.type "dict") none (.dict #[e58 P, e1 P, e2 P, e3 P, e4 P, e5 P, e6 P, e7 P, e8 P, e9 P, e10 P, e11 P, e12 P] 13) #[]
noncomputable abbrev o102 (P : Params) : Obj := .mk .none none (.fields #[.int 1 0, .int 0 0, .ref 20, .int 5 0, .int 0 0, .ref 27, .int 14 0, .int 0 0, .ref 48, .int 20 0, .int 0 0, .ref 67]) #[]
noncomputable abbrev o103 (P : Params) : Obj := .mk (.type "type") none (.cls (.mk "Thing" [.type "object"] [.ref 38, .type "object"] 37 "Thing" true [] [.ref 59, .ref 78] false none false)) #[none, none, some (.str "Thing" 196), some (.str "Thing" 204), some (.builtin "object.__new__"), some (.bool true)]
noncomputable abbrev o104 (P : Params) : Obj := .mk (.type "tuple") none (.seq #[.ref 38]) #[]
noncomputable abbrev o105 (P : Params) : Obj := .mk (.type "builtin_function_or_method") none (.fields #[.builtin "type.__prepare__", .type "type"]) #[]
noncomputable abbrev o106 (P : Params) : Obj := .mk (.type "dict") none (.dict #[e53 P, e54 P, e55 P, e56 P, e57 P] 5) #[]
noncomputable abbrev o107 (P : Params) : Obj := .mk (.type "tuple") none (.seq #[]) #[]
noncomputable abbrev o108 (P : Params) : Obj := .mk .none none (.fields #[.int 22 0, .int 4 0, .ref 74]) #[]
noncomputable abbrev o109 (P : Params) : Obj := .mk (.type "code") none (.fields #[.str "Glob" 259, .str "Glob" 260, .str "/claim/cut.py" 261, .int 20 0, .int 0 0, .int 0 0, .int 0 0, .int 0 0, .ref 65, .bool false, .int 181 0, .ref 66, .none, .none, .none, .none, .int 262 0, .int 20 0, .str "/claim/cut.py" 263]) #[]
noncomputable abbrev o110 (P : Params) : Obj := .mk (.type "frame") none .plain #[some (.ref 67), some (.ref 3), some (.ref 64), none, some (.str "perlcore.values" 194), none, some (.ref 0)]
noncomputable abbrev o111 (P : Params) : Obj := .mk (.type "tuple") none (.seq #[]) #[]
noncomputable abbrev o112 (P : Params) : Obj := .mk .none none (.fields #[]) #[]
noncomputable abbrev o113 (P : Params) : Obj := .mk (.type "tuple") none (.seq #[.str "self" 272, .str "number" 273, .str "name" 274]) #[]
noncomputable abbrev o114 (P : Params) : Obj := .mk (.type "tuple") none (.seq #[]) #[]
noncomputable abbrev o115 (P : Params) : Obj := .mk .none none (.func (.mk "__init__" "Glob.__init__" (fA f_4_0) (fB f_4_0) (fS f_4_0) 0 [] .none .none .none .none none .none .none 0)) #[]
noncomputable abbrev o116 (P : Params) : Obj := .mk (.type "code") none (.fields #[.str "__init__" 269, .str "Glob.__init__" 270, .str "/claim/cut.py" 271, .int 22 0, .int 3 0, .int 0 0, .int 0 0, .int 3 0, .ref 69, .bool true, .int 181 0, .ref 70, .none, .ref 71, .ref 72, .ref 73, .int 275 0, .int 22 0, .str "/claim/cut.py" 276]) #[]
noncomputable abbrev o117 (P : Params) : Obj := .mk (.type "function") none (.func (.mk "__init__" "Glob.__init__" (fA f_4_0) (fB f_4_0) (fS f_4_0) 3 [] .none .none .none (.str "perlcore.values" 194) none (.ref 74) .none 0)) #[]
noncomputable abbrev o118 (P : Params) : Obj := .mk (.type "tuple") none (.seq #[.str "array" 278, .str "code" 279, .str "hash" 280, .str "name" 281, .str "scalar" 282]) #[]
noncomputable abbrev o119 (P : Params) : Obj := .mk (.type "dict") none (.dict #[e53 P, e55 P, e56 P, e57 P, e130 P] 2) #[]
noncomputable abbrev o120 (P : Params) : Obj := .mk (.type "type") none (.cls (.mk "Glob" [.ref 38] [.ref 78, .ref 38, .type "object"] 77 "Glob" true [] [] false none false)) #[some (.ref 62), none, some (.str "Glob" 257), some (.str "Glob" 265), some (.builtin "object.__new__"), some (.bool true)]
noncomputable abbrev o121 (P : Params) : Obj := .mk (.type "super") none (.fields #[.ref 78, .ref 78, .ref 78]) #[]
noncomputable abbrev o122 (P : Params) : Obj := .mk (.type "builtin_function_or_method") none (.fields #[.builtin "object.__init_subclass__", .ref 78]) #[]
noncomputable abbrev o123 (P : Params) : Obj := .mk (.type "dict") none (.dict #[e58 P, e1 P, e2 P, e3 P, e4 P, e5 P, e6 P, e7 P, e8 P, e9 P, e10 P, e11 P, e12 P, e13 P] 14) #[]
noncomputable abbrev o124 (P : Params) : Obj := .mk .none none (.fields #[.int 1 0, .int 0 0, .ref 20, .int 5 0, .int 0 0, .ref 27, .int 14 0, .int 0 0, .ref 48, .int 20 0, .int 0 0, .ref 67, .int 29 0, .int 0 0, .ref 86]) #[]
noncomputable abbrev o125 (P : Params) : Obj := .mk (.type "tuple") none (.seq #[]) #[]
noncomputable abbrev o126 (P : Params) : Obj := .mk (.type "builtin_function_or_method") none (.fields #[.builtin "type.__prepare__", .type "type"]) #[]
noncomputable abbrev o127 (P : Params) : Obj := .mk (.type "dict") none (.dict #[e125 P, e126 P, e127 P, e128 P, e129 P] 5) #[]
noncomputable abbrev o128 (P : Params) : Obj := .mk (.type "tuple") none (.seq #[]) #[]
noncomputable abbrev o129 (P : Params) : Obj := .mk .none none (.fields #[.int 31 0, .int 4 0, .ref 94]) #[]
noncomputable abbrev o130 (P : Params) : Obj := .mk (.type "code") none (.fields #[.str "Ref" 289, .str "Ref" 290, .str "/claim/cut.py" 291, .int 29 0, .int 0 0, .int 0 0, .int 0 0, .int 0 0, .ref 84, .bool false, .int 181 0, .ref 85, .none, .none, .none, .none, .int 292 0, .int 29 0, .str "/claim/cut.py" 293]) #[]
noncomputable abbrev o131 (P : Params) : Obj := .mk (.type "frame") none .plain #[some (.ref 86), some (.ref 3), some (.ref 83), none, some (.str "perlcore.values" 194), none, some (.ref 0)]
noncomputable abbrev o132 (P : Params) : Obj := .mk (.type "tuple") none (.seq #[.bool false]) #[]
noncomputable abbrev o133 (P : Params) : Obj := .mk (.type "tuple") none (.seq #[]) #[]
noncomputable abbrev o134 (P : Params) : Obj := .mk .none none (.fields #[]) #[]
noncomputable abbrev o135 (P : Params) : Obj := .mk (.type "tuple") none (.seq #[.str "self" 302, .str "target" 303, .str "is_weak" 304]) #[]
noncomputable abbrev o136 (P : Params) : Obj := .mk (.type "tuple") none (.seq #[]) #[]
noncomputable abbrev o137 (P : Params) : Obj := .mk .none none (.func (.mk "__init__" "Ref.__init__" (fA f_5_0) (fB f_5_0) (fS f_5_0) 0 [] .none .none .none .none none .none .none 0)) #[]
noncomputable abbrev o138 (P : Params) : Obj := .mk (.type "code") none (.fields #[.str "__init__" 299, .str "Ref.__init__" 300, .str "/claim/cut.py" 301, .int 31 0, .int 3 0, .int 0 0, .int 0 0, .int 3 0, .ref 89, .bool true, .int 181 0, .ref 90, .none, .ref 91, .ref 92, .ref 93, .int 305 0, .int 31 0, .str "/claim/cut.py" 306]) #[]
noncomputable abbrev o139 (P : Params) : Obj := .mk (.type "function") none (.func (.mk "__init__" "Ref.__init__" (fA f_5_0) (fB f_5_0) (fS f_5_0) 3 [] (.ref 88) .none .none (.str "perlcore.values" 194) none (.ref 94) .none 0)) #[]
noncomputable abbrev o140 (P : Params) : Obj := .mk (.type "tuple") none (.seq #[.str "is_weak" 308, .str "target" 309]) #[]
noncomputable abbrev o141 (P : Params) : Obj := .mk (.type "dict") none (.dict #[e125 P, e127 P, e128 P, e129 P, e135 P, e136 P, e137 P] 4) #[]
noncomputable abbrev o142 (P : Params) : Obj := .mk (.type "type") none (.cls (.mk "Ref" [.type "object"] [.ref 98, .type "object"] 97 "Ref" true [] [] false none false)) #[none, none, some (.str "Ref" 287), some (.str "Ref" 295), some (.builtin "object.__new__"), some (.bool true)]
noncomputable abbrev o143 (P : Params) : Obj := .mk (.type "getset_descriptor") none (.fields #[.str "__dict__" 311, .ref 98, .builtin "function.__dict__", .builtin "function.__dict__#set"]) #[]
noncomputable abbrev o144 (P : Params) : Obj := .mk (.type "getset_descriptor") none (.fields #[.str "__weakref__" 313, .ref 98, .builtin "ExceptionGroup.__weakref__", .none]) #[]
noncomputable abbrev o145 (P : Params) : Obj := .mk (.type "super") none (.fields #[.ref 98, .ref 98, .ref 98]) #[]
noncomputable abbrev o146 (P : Params) : Obj := .mk (.type "builtin_function_or_method") none (.fields #[.builtin "object.__init_subclass__", .ref 98]) #[]
noncomputable abbrev o147 (P : Params) : Obj := .mk (.type "dict") none (.dict #[e58 P, e1 P, e2 P, e3 P, e4 P, e5 P, e6 P, e7 P, e8 P, e9 P, e10 P, e11 P, e12 P, e13 P, e14 P] 15) #[]
noncomputable abbrev o148 (P : Params) : Obj := .mk .none none (.fields #[.int 1 0, .int 0 0, .ref 20, .int 5 0, .int 0 0, .ref 27, .int 14 0, .int 0 0, .ref 48, .int 20 0, .int 0 0, .ref 67, .int 29 0, .int 0 0, .ref 86, .int 34 0, .int 0 0, .ref 108]) #[]
noncomputable abbrev o149 (P : Params) : Obj := .mk (.type "tuple") none (.seq #[]) #[]
noncomputable abbrev o150 (P : Params) : Obj := .mk (.type "builtin_function_or_method") none (.fields #[.builtin "type.__prepare__", .type "type"]) #[]
noncomputable abbrev o151 (P : Params) : Obj := .mk (.type "dict") none (.dict #[e86 P, e87 P, e88 P, e89 P, e90 P, e91 P, e92 P, e93 P, e94 P, e95 P, e96 P] 11) #[]
noncomputable abbrev o152 (P : Params) : Obj := .mk (.type "tuple") none (.seq #[]) #[]
noncomputable abbrev o153 (P : Params) : Obj := .mk .none none (.fields #[.int 36 0, .int 4 0, .ref 115, .int 41 0, .int 4 0, .ref 122, .int 45 0, .int 4 0, .ref 129, .int 48 0, .int 4 0, .ref 136, .int 51 0, .int 4 0, .ref 143, .int 54 0, .int 4 0, .ref 150, .int 57 0, .int 4 0, .ref 157]) #[]
noncomputable abbrev o154 (P : Params) : Obj := .mk (.type "code") none (.fields #[.str "Heap" 320, .str "Heap" 321, .str "/claim/cut.py" 322, .int 34 0, .int 0 0, .int 0 0, .int 0 0, .int 0 0, .ref 106, .bool false, .int 181 0, .ref 107, .none, .none, .none, .none, .int 323 0, .int 34 0, .str "/claim/cut.py" 324]) #[]
noncomputable abbrev o155 (P : Params) : Obj := .mk (.type "frame") none .plain #[some (.ref 108), some (.ref 3), some (.ref 105), none, some (.str "perlcore.values" 194), none, some (.ref 0)]
noncomputable abbrev o156 (P : Params) : Obj := .mk (.type "tuple") none (.seq #[]) #[]
noncomputable abbrev o157 (P : Params) : Obj := .mk .none none (.fields #[]) #[]
noncomputable abbrev o158 (P : Params) : Obj := .mk (.type "tuple") none (.seq #[.str "self" 333, .str "limits" 334]) #[]
noncomputable abbrev o159 (P : Params) : Obj := .mk (.type "tuple") none (.seq #[]) #[]
noncomputable abbrev o160 (P : Params) : Obj := .mk .none none (.func (.mk "__init__" "Heap.__init__" (fA f_6_0) (fB f_6_0) (fS f_6_0) 0 [] .none .none .none .none none .none .none 0)) #[]
noncomputable abbrev o161 (P : Params) : Obj := .mk (.type "code") none (.fields #[.str "__init__" 330, .str "Heap.__init__" 331, .str "/claim/cut.py" 332, .int 36 0, .int 2 0, .int 0 0, .int 0 0, .int 3 0, .ref 110, .bool true, .int 181 0, .ref 111, .none, .ref 112, .ref 113, .ref 114, .int 335 0, .int 36 0, .str "/claim/cut.py" 336]) #[]
noncomputable abbrev o162 (P : Params) : Obj := .mk (.type "function") none (.func (.mk "__init__" "Heap.__init__" (fA f_6_0) (fB f_6_0) (fS f_6_0) 3 [] .none .none .none (.str "perlcore.values" 194) none (.ref 115) .none 0)) #[]
noncomputable abbrev o163 (P : Params) : Obj := .mk (.type "tuple") none (.seq #[]) #[]
noncomputable abbrev o164 (P : Params) : Obj := .mk .none none (.fields #[]) #[]
noncomputable abbrev o165 (P : Params) : Obj := .mk (.type "tuple") none (.seq #[.str "self" 341]) #[]
noncomputable abbrev o166 (P : Params) : Obj := .mk (.type "tuple") none (.seq #[]) #[]
noncomputable abbrev o167 (P : Params) : Obj := .mk .none none (.func (.mk "next_number" "Heap.next_number" (fA f_6_1) (fB f_6_1) (fS f_6_1) 0 [] .none .none .none .none none .none .none 0)) #[]
noncomputable abbrev o168 (P : Params) : Obj := .mk (.type "code") none (.fields #[.str "next_number" 338, .str "Heap.next_number" 339, .str "/claim/cut.py" 340, .int 41 0, .int 1 0, .int 0 0, .int 0 0, .int 3 0, .ref 117, .bool true, .int 181 0, .ref 118, .none, .ref 119, .ref 120, .ref 121, .int 342 0, .int 41 0, .str "/claim/cut.py" 343]) #[]
noncomputable abbrev o169 (P : Params) : Obj := .mk (.type "function") none (.func (.mk "next_number" "Heap.next_number" (fA f_6_1) (fB f_6_1) (fS f_6_1) 3 [] .none .none .none (.str "perlcore.values" 194) none (.ref 122) .none 0)) #[]
noncomputable abbrev o170 (P : Params) : Obj := .mk (.type "tuple") none (.seq #[]) #[]
noncomputable abbrev o171 (P : Params) : Obj := .mk .none none (.fields #[]) #[]
noncomputable abbrev o172 (P : Params) : Obj := .mk (.type "tuple") none (.seq #[.str "self" 348, .str "value" 349]) #[]
noncomputable abbrev o173 (P : Params) : Obj := .mk (.type "tuple") none (.seq #[]) #[]
noncomputable abbrev o174 (P : Params) : Obj := .mk .none none (.func (.mk "new_scalar" "Heap.new_scalar" (fA f_6_2) (fB f_6_2) (fS f_6_2) 0 [] .none .none .none .none none .none .none 0)) #[]
noncomputable abbrev o175 (P : Params) : Obj := .mk (.type "code") none (.fields #[.str "new_scalar" 345, .str "Heap.new_scalar" 346, .str "/claim/cut.py" 347, .int 45 0, .int 2 0, .int 0 0, .int 0 0, .int 3 0, .ref 124, .bool true, .int 181 0, .ref 125, .none, .ref 126, .ref 127, .ref 128, .int 350 0, .int 45 0, .str "/claim/cut.py" 351]) #[]
noncomputable abbrev o176 (P : Params) : Obj := .mk (.type "function") none (.func (.mk "new_scalar" "Heap.new_scalar" (fA f_6_2) (fB f_6_2) (fS f_6_2) 3 [] .none .none .none (.str "perlcore.values" 194) none (.ref 129) .none 0)) #[]
noncomputable abbrev o177 (P : Params) : Obj := .mk (.type "tuple") none (.seq #[]) #[]
noncomputable abbrev o178 (P : Params) : Obj := .mk .none none (.fields #[]) #[]
noncomputable abbrev o179 (P : Params) : Obj := .mk (.type "tuple") none (.seq #[.str "self" 356]) #[]
noncomputable abbrev o180 (P : Params) : Obj := .mk (.type "tuple") none (.seq #[]) #[]
noncomputable abbrev o181 (P : Params) : Obj := .mk .none none (.func (.mk "new_array" "Heap.new_array" (fA f_6_3) (fB f_6_3) (fS f_6_3) 0 [] .none .none .none .none none .none .none 0)) #[]
noncomputable abbrev o182 (P : Params) : Obj := .mk (.type "code") none (.fields #[.str "new_array" 353, .str "Heap.new_array" 354, .str "/claim/cut.py" 355, .int 48 0, .int 1 0, .int 0 0, .int 0 0, .int 3 0, .ref 131, .bool true, .int 181 0, .ref 132, .none, .ref 133, .ref 134, .ref 135, .int 357 0, .int 48 0, .str "/claim/cut.py" 358]) #[]
noncomputable abbrev o183 (P : Params) : Obj := .mk (.type "function") none (.func (.mk "new_array" "Heap.new_array" (fA f_6_3) (fB f_6_3) (fS f_6_3) 3 [] .none .none .none (.str "perlcore.values" 194) none (.ref 136) .none 0)) #[]
noncomputable abbrev o184 (P : Params) : Obj := .mk (.type "tuple") none (.seq #[]) #[]
noncomputable abbrev o185 (P : Params) : Obj := .mk .none none (.fields #[]) #[]
noncomputable abbrev o186 (P : Params) : Obj := .mk (.type "tuple") none (.seq #[.str "self" 363]) #[]
noncomputable abbrev o187 (P : Params) : Obj := .mk (.type "tuple") none (.seq #[]) #[]
noncomputable abbrev o188 (P : Params) : Obj := .mk .none none (.func (.mk "new_hash" "Heap.new_hash" (fA f_6_4) (fB f_6_4) (fS f_6_3) 0 [] .none .none .none .none none .none .none 0)) #[]
noncomputable abbrev o189 (P : Params) : Obj := .mk (.type "code") none (.fields #[.str "new_hash" 360, .str "Heap.new_hash" 361, .str "/claim/cut.py" 362, .int 51 0, .int 1 0, .int 0 0, .int 0 0, .int 3 0, .ref 138, .bool true, .int 181 0, .ref 139, .none, .ref 140, .ref 141, .ref 142, .int 364 0, .int 51 0, .str "/claim/cut.py" 365]) #[]
noncomputable abbrev o190 (P : Params) : Obj := .mk (.type "function") none (.func (.mk "new_hash" "Heap.new_hash" (fA f_6_4) (fB f_6_4) (fS f_6_3) 3 [] .none .none .none (.str "perlcore.values" 194) none (.ref 143) .none 0)) #[]
noncomputable abbrev o191 (P : Params) : Obj := .mk (.type "tuple") none (.seq #[]) #[]
noncomputable abbrev o192 (P : Params) : Obj := .mk .none none (.fields #[]) #[]
noncomputable abbrev o193 (P : Params) : Obj := .mk (.type "tuple") none (.seq #[.str "self" 370, .str "sub" 371, .str "captures" 372]) #[]
noncomputable abbrev o194 (P : Params) : Obj := .mk (.type "tuple") none (.seq #[]) #[]
noncomputable abbrev o195 (P : Params) : Obj := .mk .none none (.func (.mk "new_code" "Heap.new_code" (fA f_6_5) (fB f_6_5) (fS f_6_5) 0 [] .none .none .none .none none .none .none 0)) #[]
noncomputable abbrev o196 (P : Params) : Obj := .mk (.type "code") none (.fields #[.str "new_code" 367, .str "Heap.new_code" 368, .str "/claim/cut.py" 369, .int 54 0, .int 3 0, .int 0 0, .int 0 0, .int 3 0, .ref 145, .bool true, .int 181 0, .ref 146, .none, .ref 147, .ref 148, .ref 149, .int 373 0, .int 54 0, .str "/claim/cut.py" 374]) #[]
noncomputable abbrev o197 (P : Params) : Obj := .mk (.type "function") none (.func (.mk "new_code" "Heap.new_code" (fA f_6_5) (fB f_6_5) (fS f_6_5) 3 [] .none .none .none (.str "perlcore.values" 194) none (.ref 150) .none 0)) #[]
noncomputable abbrev o198 (P : Params) : Obj := .mk (.type "tuple") none (.seq #[]) #[]
noncomputable abbrev o199 (P : Params) : Obj := .mk .none none (.fields #[]) #[]
noncomputable abbrev o200 (P : Params) : Obj := .mk (.type "tuple") none (.seq #[.str "self" 379, .str "name" 380]) #[]
noncomputable abbrev o201 (P : Params) : Obj := .mk (.type "tuple") none (.seq #[]) #[]
noncomputable abbrev o202 (P : Params) : Obj := .mk .none none (.func (.mk "new_glob" "Heap.new_glob" (fA f_6_6) (fB f_6_6) (fS f_6_6) 0 [] .none .none .none .none none .none .none 0)) #[]
noncomputable abbrev o203 (P : Params) : Obj := .mk (.type "code") none (.fields #[.str "new_glob" 376, .str "Heap.new_glob" 377, .str "/claim/cut.py" 378, .int 57 0, .int 2 0, .int 0 0, .int 0 0, .int 3 0, .ref 152, .bool true, .int 181 0, .ref 153, .none, .ref 154, .ref 155, .ref 156, .int 381 0, .int 57 0, .str "/claim/cut.py" 382]) #[]
noncomputable abbrev o204 (P : Params) : Obj := .mk (.type "function") none (.func (.mk "new_glob" "Heap.new_glob" (fA f_6_6) (fB f_6_6) (fS f_6_6) 3 [] .none .none .none (.str "perlcore.values" 194) none (.ref 157) .none 0)) #[]
noncomputable abbrev o205 (P : Params) : Obj := .mk (.type "tuple") none (.seq #[.str "last" 384, .str "limits" 385, .str "zero" 386]) #[]
noncomputable abbrev o206 (P : Params) : Obj := .mk (.type "dict") none (.dict #[e86 P, e88 P, e89 P, e90 P, e91 P, e92 P, e93 P, e94 P, e95 P, e96 P, e155 P, e156 P, e157 P] 4) #[]
noncomputable abbrev o207 (P : Params) : Obj := .mk (.type "type") none (.cls (.mk "Heap" [.type "object"] [.ref 161, .type "object"] 160 "Heap" true [] [] false none false)) #[none, none, some (.str "Heap" 318), some (.str "Heap" 326), some (.builtin "object.__new__"), some (.bool true)]
noncomputable abbrev o208 (P : Params) : Obj := .mk (.type "getset_descriptor") none (.fields #[.str "__dict__" 388, .ref 161, .builtin "function.__dict__", .builtin "function.__dict__#set"]) #[]
noncomputable abbrev o209 (P : Params) : Obj := .mk (.type "getset_descriptor") none (.fields #[.str "__weakref__" 390, .ref 161, .builtin "ExceptionGroup.__weakref__", .none]) #[]
noncomputable abbrev o210 (P : Params) : Obj := .mk (.type "super") none (.fields #[.ref 161, .ref 161, .ref 161]) #[]
noncomputable abbrev o211 (P : Params) : Obj := .mk (.type "builtin_function_or_method") none (.fields #[.builtin "object.__init_subclass__", .ref 161]) #[]
noncomputable abbrev o212 (P : Params) : Obj := .mk (.type "dict") none (.dict #[e116 P, e1 P, e2 P, e3 P, e4 P, e5 P, e6 P, e7 P, e8 P, e9 P, e10 P, e11 P, e12 P, e13 P, e14 P, e15 P, e16 P, e17 P, e18 P, e19 P, e20 P, e21 P, e22 P, e23 P, e24 P, e25 P, e26 P] 27) #[]
noncomputable abbrev o213 (P : Params) : Obj := .mk .none none (.fields #[.int 1 0, .int 0 0, .ref 20, .int 5 0, .int 0 0, .ref 27, .int 14 0, .int 0 0, .ref 48, .int 20 0, .int 0 0, .ref 67, .int 29 0, .int 0 0, .ref 86, .int 34 0, .int 0 0, .ref 108, .int 60 0, .int 0 0, .ref 171, .int 67 0, .int 0 0, .ref 178, .int 74 0, .int 0 0, .ref 185, .int 81 0, .int 0 0, .ref 192, .int 90 0, .int 0 0, .ref 206, .int 93 0, .int 0 0, .ref 213, .int 95 0, .int 0 0, .ref 220, .int 98 0, .int 0 0, .ref 227, .int 101 0, .int 0 0, .ref 234, .int 104 0, .int 0 0, .ref 241]) #[]
noncomputable abbrev o214 (P : Params) : Obj := .mk (.type "tuple") none (.seq #[]) #[]
noncomputable abbrev o215 (P : Params) : Obj := .mk .none none (.fields #[]) #[]
noncomputable abbrev o216 (P : Params) : Obj := .mk (.type "tuple") none (.seq #[.str "x" 400]) #[]
noncomputable abbrev o217 (P : Params) : Obj := .mk (.type "tuple") none (.seq #[]) #[]
noncomputable abbrev o218 (P : Params) : Obj := .mk .none none (.func (.mk "value_of" "value_of" (fA f_8) (fB f_8) (fS f_8) 0 [] .none .none .none .none none .none .none 0)) #[]
noncomputable abbrev o219 (P : Params) : Obj := .mk (.type "code") none (.fields #[.str "value_of" 397, .str "value_of" 398, .str "/claim/cut.py" 399, .int 60 0, .int 1 0, .int 0 0, .int 0 0, .int 3 0, .ref 166, .bool true, .int 181 0, .ref 167, .none, .ref 168, .ref 169, .ref 170, .int 401 0, .int 60 0, .str "/claim/cut.py" 402]) #[]
noncomputable abbrev o220 (P : Params) : Obj := .mk (.type "function") none (.func (.mk "value_of" "value_of" (fA f_8) (fB f_8) (fS f_8) 3 [] .none .none .none (.str "perlcore.convert" 395) none (.ref 171) .none 0)) #[]
noncomputable abbrev o221 (P : Params) : Obj := .mk (.type "tuple") none (.seq #[]) #[]
noncomputable abbrev o222 (P : Params) : Obj := .mk .none none (.fields #[]) #[]
noncomputable abbrev o223 (P : Params) : Obj := .mk (.type "tuple") none (.seq #[.str "counter" 409, .str "member" 410, .str "value" 411]) #[]
noncomputable abbrev o224 (P : Params) : Obj := .mk (.type "tuple") none (.seq #[]) #[]
noncomputable abbrev o225 (P : Params) : Obj := .mk .none none (.func (.mk "drop_member" "drop_member" (fA f_10) (fB f_10) (fS f_10) 0 [] .none .none .none .none none .none .none 0)) #[]
noncomputable abbrev o226 (P : Params) : Obj := .mk (.type "code") none (.fields #[.str "drop_member" 406, .str "drop_member" 407, .str "/claim/cut.py" 408, .int 67 0, .int 2 0, .int 0 0, .int 0 0, .int 3 0, .ref 173, .bool true, .int 181 0, .ref 174, .none, .ref 175, .ref 176, .ref 177, .int 412 0, .int 67 0, .str "/claim/cut.py" 413]) #[]
noncomputable abbrev o227 (P : Params) : Obj := .mk (.type "function") none (.func (.mk "drop_member" "drop_member" (fA f_10) (fB f_10) (fS f_10) 3 [] .none .none .none (.str "perlcore.listops" 404) none (.ref 178) .none 0)) #[]
noncomputable abbrev o228 (P : Params) : Obj := .mk (.type "tuple") none (.seq #[]) #[]
noncomputable abbrev o229 (P : Params) : Obj := .mk .none none (.fields #[]) #[]
noncomputable abbrev o230 (P : Params) : Obj := .mk (.type "tuple") none (.seq #[.str "table_thing" 420, .str "key" 421, .str "place" 422, .str "other" 423]) #[]
noncomputable abbrev o231 (P : Params) : Obj := .mk (.type "tuple") none (.seq #[]) #[]
noncomputable abbrev o232 (P : Params) : Obj := .mk .none none (.func (.mk "key_place" "key_place" (fA f_12) (fB f_12) (fS f_12) 0 [] .none .none .none .none none .none .none 0)) #[]
noncomputable abbrev o233 (P : Params) : Obj := .mk (.type "code") none (.fields #[.str "key_place" 417, .str "key_place" 418, .str "/claim/cut.py" 419, .int 74 0, .int 2 0, .int 0 0, .int 0 0, .int 3 0, .ref 180, .bool true, .int 181 0, .ref 181, .none, .ref 182, .ref 183, .ref 184, .int 424 0, .int 74 0, .str "/claim/cut.py" 425]) #[]
noncomputable abbrev o234 (P : Params) : Obj := .mk (.type "function") none (.func (.mk "key_place" "key_place" (fA f_12) (fB f_12) (fS f_12) 3 [] .none .none .none (.str "perlcore.hashops" 415) none (.ref 185) .none 0)) #[]
noncomputable abbrev o235 (P : Params) : Obj := .mk (.type "tuple") none (.seq #[]) #[]
noncomputable abbrev o236 (P : Params) : Obj := .mk .none none (.fields #[]) #[]
noncomputable abbrev o237 (P : Params) : Obj := .mk (.type "tuple") none (.seq #[.str "counter" 430, .str "table_thing" 431, .str "key" 432]) #[]
noncomputable abbrev o238 (P : Params) : Obj := .mk (.type "tuple") none (.seq #[]) #[]
noncomputable abbrev o239 (P : Params) : Obj := .mk .none none (.func (.mk "delete_key" "delete_key" (fA f_13) (fB f_13) (fS f_13) 0 [] .none .none .none .none none .none .none 0)) #[]
noncomputable abbrev o240 (P : Params) : Obj := .mk (.type "code") none (.fields #[.str "delete_key" 427, .str "delete_key" 428, .str "/claim/cut.py" 429, .int 81 0, .int 3 0, .int 0 0, .int 0 0, .int 3 0, .ref 187, .bool true, .int 181 0, .ref 188, .none, .ref 189, .ref 190, .ref 191, .int 433 0, .int 81 0, .str "/claim/cut.py" 434]) #[]
noncomputable abbrev o241 (P : Params) : Obj := .mk (.type "function") none (.func (.mk "delete_key" "delete_key" (fA f_13) (fB f_13) (fS f_13) 3 [] .none .none .none (.str "perlcore.hashops" 415) none (.ref 192) .none 0)) #[]
noncomputable abbrev o242 (P : Params) : Obj := .mk (.type "tuple") none (.seq #[.str "main::\"" 438, .str " " 439]) #[]
noncomputable abbrev o243 (P : Params) : Obj := .mk (.type "tuple") none (.seq #[.str "main::;" 440, .str "\x1c" 441]) #[]
noncomputable abbrev o244 (P : Params) : Obj := .mk (.type "tuple") none (.seq #[.str "main::/" 442, .str "\n" 443]) #[]
noncomputable abbrev o245 (P : Params) : Obj := .mk (.type "tuple") none (.seq #[.str "main::@" 444, .str "" 445]) #[]
noncomputable abbrev o246 (P : Params) : Obj := .mk (.type "tuple") none (.seq #[.str "main::0" 446, .str "-" 447]) #[]
noncomputable abbrev o247 (P : Params) : Obj := .mk (.type "tuple") none (.seq #[.ref 194, .ref 195, .ref 196, .ref 197, .ref 198]) #[]
noncomputable abbrev o248 (P : Params) : Obj := .mk (.type "tuple") none (.seq #[.str "&" 449, .str "`" 450, .str "'" 451, .str "+" 452]) #[]
noncomputable abbrev o249 (P : Params) : Obj := .mk (.type "tuple") none (.seq #[]) #[]
noncomputable abbrev o250 (P : Params) : Obj := .mk .none none (.fields #[]) #[]
noncomputable abbrev o251 (P : Params) : Obj := .mk (.type "tuple") none (.seq #[.str "stash" 457, .str "name" 458, .str "text" 459]) #[]
noncomputable abbrev o252 (P : Params) : Obj := .mk (.type "tuple") none (.seq #[]) #[]
noncomputable abbrev o253 (P : Params) : Obj := .mk .none none (.func (.mk "set_specials" "set_specials" (fA f_17) (fB f_17) (fS f_17) 0 [] .none .none .none .none none .none .none 0)) #[]
noncomputable abbrev o254 (P : Params) : Obj := .mk (.type "code") none (.fields #[.str "set_specials" 454, .str "set_specials" 455, .str "/claim/cut.py" 456, .int 90 0, .int 1 0, .int 0 0, .int 0 0, .int 3 0, .ref 201, .bool true, .int 181 0, .ref 202, .none, .ref 203, .ref 204, .ref 205, .int 460 0, .int 90 0, .str "/claim/cut.py" 461]) #[]
noncomputable abbrev o255 (P : Params) : Obj := .mk (.type "function") none (.func (.mk "set_specials" "set_specials" (fA f_17) (fB f_17) (fS f_17) 3 [] .none .none .none (.str "perlcore.dynamic" 436) none (.ref 206) .none 0)) #[]
noncomputable abbrev o256 (P : Params) : Obj := .mk (.type "tuple") none (.seq #[]) #[]
noncomputable abbrev o257 (P : Params) : Obj := .mk .none none (.fields #[]) #[]
noncomputable abbrev o258 (P : Params) : Obj := .mk (.type "tuple") none (.seq #[.str "run" 466]) #[]
noncomputable abbrev o259 (P : Params) : Obj := .mk (.type "tuple") none (.seq #[]) #[]
noncomputable abbrev o260 (P : Params) : Obj := .mk .none none (.func (.mk "save_match" "save_match" (fA f_18) (fB f_18) (fS f_18) 0 [] .none .none .none .none none .none .none 0)) #[]
noncomputable abbrev o261 (P : Params) : Obj := .mk (.type "code") none (.fields #[.str "save_match" 463, .str "save_match" 464, .str "/claim/cut.py" 465, .int 93 0, .int 1 0, .int 0 0, .int 0 0, .int 3 0, .ref 208, .bool true, .int 181 0, .ref 209, .none, .ref 210, .ref 211, .ref 212, .int 467 0, .int 93 0, .str "/claim/cut.py" 468]) #[]
noncomputable abbrev o262 (P : Params) : Obj := .mk (.type "function") none (.func (.mk "save_match" "save_match" (fA f_18) (fB f_18) (fS f_18) 3 [] .none .none .none (.str "perlcore.dynamic" 436) none (.ref 213) .none 0)) #[]
noncomputable abbrev o263 (P : Params) : Obj := .mk (.type "tuple") none (.seq #[]) #[]
noncomputable abbrev o264 (P : Params) : Obj := .mk .none none (.fields #[]) #[]
noncomputable abbrev o265 (P : Params) : Obj := .mk (.type "tuple") none (.seq #[.str "run" 473, .str "thing" 474]) #[]
noncomputable abbrev o266 (P : Params) : Obj := .mk (.type "tuple") none (.seq #[]) #[]
noncomputable abbrev o267 (P : Params) : Obj := .mk .none none (.func (.mk "let_go_of" "let_go_of" (fA f_19) (fB f_19) (fS f_19) 0 [] .none .none .none .none none .none .none 0)) #[]
noncomputable abbrev o268 (P : Params) : Obj := .mk (.type "code") none (.fields #[.str "let_go_of" 470, .str "let_go_of" 471, .str "/claim/cut.py" 472, .int 95 0, .int 2 0, .int 0 0, .int 0 0, .int 3 0, .ref 215, .bool true, .int 181 0, .ref 216, .none, .ref 217, .ref 218, .ref 219, .int 475 0, .int 95 0, .str "/claim/cut.py" 476]) #[]
noncomputable abbrev o269 (P : Params) : Obj := .mk (.type "function") none (.func (.mk "let_go_of" "let_go_of" (fA f_19) (fB f_19) (fS f_19) 3 [] .none .none .none (.str "perlcore.dynamic" 436) none (.ref 220) .none 0)) #[]
noncomputable abbrev o270 (P : Params) : Obj := .mk (.type "tuple") none (.seq #[]) #[]
noncomputable abbrev o271 (P : Params) : Obj := .mk .none none (.fields #[]) #[]
noncomputable abbrev o272 (P : Params) : Obj := .mk (.type "tuple") none (.seq #[.str "run" 481, .str "save" 482]) #[]
noncomputable abbrev o273 (P : Params) : Obj := .mk (.type "tuple") none (.seq #[]) #[]
noncomputable abbrev o274 (P : Params) : Obj := .mk .none none (.func (.mk "undo_scalar" "undo_scalar" (fA f_20) (fB f_20) (fS f_20) 0 [] .none .none .none .none none .none .none 0)) #[]
noncomputable abbrev o275 (P : Params) : Obj := .mk (.type "code") none (.fields #[.str "undo_scalar" 478, .str "undo_scalar" 479, .str "/claim/cut.py" 480, .int 98 0, .int 2 0, .int 0 0, .int 0 0, .int 3 0, .ref 222, .bool true, .int 181 0, .ref 223, .none, .ref 224, .ref 225, .ref 226, .int 483 0, .int 98 0, .str "/claim/cut.py" 484]) #[]
noncomputable abbrev o276 (P : Params) : Obj := .mk (.type "function") none (.func (.mk "undo_scalar" "undo_scalar" (fA f_20) (fB f_20) (fS f_20) 3 [] .none .none .none (.str "perlcore.dynamic" 436) none (.ref 227) .none 0)) #[]
noncomputable abbrev o277 (P : Params) : Obj := .mk (.type "tuple") none (.seq #[]) #[]
noncomputable abbrev o278 (P : Params) : Obj := .mk .none none (.fields #[]) #[]
noncomputable abbrev o279 (P : Params) : Obj := .mk (.type "tuple") none (.seq #[.str "run" 489, .str "save" 490]) #[]
noncomputable abbrev o280 (P : Params) : Obj := .mk (.type "tuple") none (.seq #[]) #[]
noncomputable abbrev o281 (P : Params) : Obj := .mk .none none (.func (.mk "undo_array" "undo_array" (fA f_21) (fB f_21) (fS f_20) 0 [] .none .none .none .none none .none .none 0)) #[]
noncomputable abbrev o282 (P : Params) : Obj := .mk (.type "code") none (.fields #[.str "undo_array" 486, .str "undo_array" 487, .str "/claim/cut.py" 488, .int 101 0, .int 2 0, .int 0 0, .int 0 0, .int 3 0, .ref 229, .bool true, .int 181 0, .ref 230, .none, .ref 231, .ref 232, .ref 233, .int 491 0, .int 101 0, .str "/claim/cut.py" 492]) #[]
noncomputable abbrev o283 (P : Params) : Obj := .mk (.type "function") none (.func (.mk "undo_array" "undo_array" (fA f_21) (fB f_21) (fS f_20) 3 [] .none .none .none (.str "perlcore.dynamic" 436) none (.ref 234) .none 0)) #[]
noncomputable abbrev o284 (P : Params) : Obj := .mk (.type "tuple") none (.seq #[]) #[]
noncomputable abbrev o285 (P : Params) : Obj := .mk .none none (.fields #[]) #[]
noncomputable abbrev o286 (P : Params) : Obj := .mk (.type "tuple") none (.seq #[.str "run" 497, .str "save" 498]) #[]
noncomputable abbrev o287 (P : Params) : Obj := .mk (.type "tuple") none (.seq #[]) #[]
noncomputable abbrev o288 (P : Params) : Obj := .mk .none none (.func (.mk "undo_hash" "undo_hash" (fA f_22) (fB f_22) (fS f_20) 0 [] .none .none .none .none none .none .none 0)) #[]
noncomputable abbrev o289 (P : Params) : Obj := .mk (.type "code") none (.fields #[.str "undo_hash" 494, .str "undo_hash" 495, .str "/claim/cut.py" 496, .int 104 0, .int 2 0, .int 0 0, .int 0 0, .int 3 0, .ref 236, .bool true, .int 181 0, .ref 237, .none, .ref 238, .ref 239, .ref 240, .int 499 0, .int 104 0, .str "/claim/cut.py" 500]) #[]
noncomputable abbrev o290 (P : Params) : Obj := .mk (.type "function") none (.func (.mk "undo_hash" "undo_hash" (fA f_22) (fB f_22) (fS f_20) 3 [] .none .none .none (.str "perlcore.dynamic" 436) none (.ref 241) .none 0)) #[]
noncomputable abbrev o291 (P : Params) : Obj := .mk (.type "dict") none (.dict #[e116 P, e1 P, e2 P, e3 P, e4 P, e5 P, e6 P, e7 P, e8 P, e9 P, e10 P, e11 P, e12 P, e13 P, e14 P, e15 P, e16 P, e17 P, e18 P, e19 P, e20 P, e21 P, e22 P, e23 P, e24 P, e25 P, e26 P, e27 P, e28 P, e29 P, e30 P, e31 P, e32 P, e33 P, e34 P] 35) #[]
noncomputable abbrev o292 (P : Params) : Obj := .mk .none none (.fields #[.int 1 0, .int 0 0, .ref 20, .int 5 0, .int 0 0, .ref 27, .int 14 0, .int 0 0, .ref 48, .int 20 0, .int 0 0, .ref 67, .int 29 0, .int 0 0, .ref 86, .int 34 0, .int 0 0, .ref 108, .int 60 0, .int 0 0, .ref 171, .int 67 0, .int 0 0, .ref 178, .int 74 0, .int 0 0, .ref 185, .int 81 0, .int 0 0, .ref 192, .int 90 0, .int 0 0, .ref 206, .int 93 0, .int 0 0, .ref 213, .int 95 0, .int 0 0, .ref 220, .int 98 0, .int 0 0, .ref 227, .int 101 0, .int 0 0, .ref 234, .int 104 0, .int 0 0, .ref 241, .int 107 0, .int 0 0, .ref 248, .int 111 0, .int 0 0, .ref 255, .int 124 0, .int 0 0, .ref 262, .int 131 0, .int 0 0, .ref 269, .int 134 0, .int 0 0, .ref 276, .int 137 0, .int 0 0, .ref 283, .int 140 0, .int 0 0, .ref 291]) #[]
noncomputable abbrev o293 (P : Params) : Obj := .mk (.type "tuple") none (.seq #[]) #[]
noncomputable abbrev o294 (P : Params) : Obj := .mk .none none (.fields #[]) #[]
noncomputable abbrev o295 (P : Params) : Obj := .mk (.type "tuple") none (.seq #[.str "run" 505, .str "save" 506]) #[]
noncomputable abbrev o296 (P : Params) : Obj := .mk (.type "tuple") none (.seq #[]) #[]
noncomputable abbrev o297 (P : Params) : Obj := .mk .none none (.func (.mk "undo_code" "undo_code" (fA f_23) (fB f_23) (fS f_20) 0 [] .none .none .none .none none .none .none 0)) #[]
noncomputable abbrev o298 (P : Params) : Obj := .mk (.type "code") none (.fields #[.str "undo_code" 502, .str "undo_code" 503, .str "/claim/cut.py" 504, .int 107 0, .int 2 0, .int 0 0, .int 0 0, .int 3 0, .ref 243, .bool true, .int 181 0, .ref 244, .none, .ref 245, .ref 246, .ref 247, .int 507 0, .int 107 0, .str "/claim/cut.py" 508]) #[]
noncomputable abbrev o299 (P : Params) : Obj := .mk (.type "function") none (.func (.mk "undo_code" "undo_code" (fA f_23) (fB f_23) (fS f_20) 3 [] .none .none .none (.str "perlcore.dynamic" 436) none (.ref 248) .none 0)) #[]
noncomputable abbrev o300 (P : Params) : Obj := .mk (.type "tuple") none (.seq #[]) #[]
noncomputable abbrev o301 (P : Params) : Obj := .mk .none none (.fields #[]) #[]
noncomputable abbrev o302 (P : Params) : Obj := .mk (.type "tuple") none (.seq #[.str "run" 513, .str "save" 514, .str "word" 515, .str "array" 516, .str "index" 517, .str "old" 518, .str "items" 519]) #[]
noncomputable abbrev o303 (P : Params) : Obj := .mk (.type "tuple") none (.seq #[]) #[]
noncomputable abbrev o304 (P : Params) : Obj := .mk .none none (.func (.mk "undo_elem" "undo_elem" (fA f_24) (fB f_24) (fS f_24) 0 [] .none .none .none .none none .none .none 0)) #[]
noncomputable abbrev o305 (P : Params) : Obj := .mk (.type "code") none (.fields #[.str "undo_elem" 510, .str "undo_elem" 511, .str "/claim/cut.py" 512, .int 111 0, .int 2 0, .int 0 0, .int 0 0, .int 3 0, .ref 250, .bool true, .int 181 0, .ref 251, .none, .ref 252, .ref 253, .ref 254, .int 520 0, .int 111 0, .str "/claim/cut.py" 521]) #[]
noncomputable abbrev o306 (P : Params) : Obj := .mk (.type "function") none (.func (.mk "undo_elem" "undo_elem" (fA f_24) (fB f_24) (fS f_24) 3 [] .none .none .none (.str "perlcore.dynamic" 436) none (.ref 255) .none 0)) #[]
noncomputable abbrev o307 (P : Params) : Obj := .mk (.type "tuple") none (.seq #[]) #[]
noncomputable abbrev o308 (P : Params) : Obj := .mk .none none (.fields #[]) #[]
noncomputable abbrev o309 (P : Params) : Obj := .mk (.type "tuple") none (.seq #[.str "run" 526, .str "save" 527, .str "word" 528, .str "table_thing" 529, .str "key" 530, .str "old" 531]) #[]
noncomputable abbrev o310 (P : Params) : Obj := .mk (.type "tuple") none (.seq #[]) #[]
noncomputable abbrev o311 (P : Params) : Obj := .mk .none none (.func (.mk "undo_helem" "undo_helem" (fA f_25) (fB f_25) (fS f_25) 0 [] .none .none .none .none none .none .none 0)) #[]
noncomputable abbrev o312 (P : Params) : Obj := .mk (.type "code") none (.fields #[.str "undo_helem" 523, .str "undo_helem" 524, .str "/claim/cut.py" 525, .int 124 0, .int 2 0, .int 0 0, .int 0 0, .int 3 0, .ref 257, .bool true, .int 181 0, .ref 258, .none, .ref 259, .ref 260, .ref 261, .int 532 0, .int 124 0, .str "/claim/cut.py" 533]) #[]
noncomputable abbrev o313 (P : Params) : Obj := .mk (.type "function") none (.func (.mk "undo_helem" "undo_helem" (fA f_25) (fB f_25) (fS f_25) 3 [] .none .none .none (.str "perlcore.dynamic" 436) none (.ref 262) .none 0)) #[]
noncomputable abbrev o314 (P : Params) : Obj := .mk (.type "tuple") none (.seq #[]) #[]
noncomputable abbrev o315 (P : Params) : Obj := .mk .none none (.fields #[]) #[]
noncomputable abbrev o316 (P : Params) : Obj := .mk (.type "tuple") none (.seq #[.str "run" 538, .str "save" 539]) #[]
noncomputable abbrev o317 (P : Params) : Obj := .mk (.type "tuple") none (.seq #[]) #[]
noncomputable abbrev o318 (P : Params) : Obj := .mk .none none (.func (.mk "undo_pad" "undo_pad" (fA f_26) (fB f_26) (fS f_20) 0 [] .none .none .none .none none .none .none 0)) #[]
noncomputable abbrev o319 (P : Params) : Obj := .mk (.type "code") none (.fields #[.str "undo_pad" 535, .str "undo_pad" 536, .str "/claim/cut.py" 537, .int 131 0, .int 2 0, .int 0 0, .int 0 0, .int 3 0, .ref 264, .bool true, .int 181 0, .ref 265, .none, .ref 266, .ref 267, .ref 268, .int 540 0, .int 131 0, .str "/claim/cut.py" 541]) #[]
noncomputable abbrev o320 (P : Params) : Obj := .mk (.type "function") none (.func (.mk "undo_pad" "undo_pad" (fA f_26) (fB f_26) (fS f_20) 3 [] .none .none .none (.str "perlcore.dynamic" 436) none (.ref 269) .none 0)) #[]
noncomputable abbrev o321 (P : Params) : Obj := .mk (.type "tuple") none (.seq #[]) #[]
noncomputable abbrev o322 (P : Params) : Obj := .mk .none none (.fields #[]) #[]
noncomputable abbrev o323 (P : Params) : Obj := .mk (.type "tuple") none (.seq #[.str "run" 546, .str "save" 547]) #[]
noncomputable abbrev o324 (P : Params) : Obj := .mk (.type "tuple") none (.seq #[]) #[]
noncomputable abbrev o325 (P : Params) : Obj := .mk .none none (.func (.mk "undo_slot" "undo_slot" (fA f_27) (fB f_27) (fS f_20) 0 [] .none .none .none .none none .none .none 0)) #[]
noncomputable abbrev o326 (P : Params) : Obj := .mk (.type "code") none (.fields #[.str "undo_slot" 543, .str "undo_slot" 544, .str "/claim/cut.py" 545, .int 134 0, .int 2 0, .int 0 0, .int 0 0, .int 3 0, .ref 271, .bool true, .int 181 0, .ref 272, .none, .ref 273, .ref 274, .ref 275, .int 548 0, .int 134 0, .str "/claim/cut.py" 549]) #[]
noncomputable abbrev o327 (P : Params) : Obj := .mk (.type "function") none (.func (.mk "undo_slot" "undo_slot" (fA f_27) (fB f_27) (fS f_20) 3 [] .none .none .none (.str "perlcore.dynamic" 436) none (.ref 276) .none 0)) #[]
noncomputable abbrev o328 (P : Params) : Obj := .mk (.type "tuple") none (.seq #[]) #[]
noncomputable abbrev o329 (P : Params) : Obj := .mk .none none (.fields #[]) #[]
noncomputable abbrev o330 (P : Params) : Obj := .mk (.type "tuple") none (.seq #[.str "run" 554, .str "save" 555]) #[]
noncomputable abbrev o331 (P : Params) : Obj := .mk (.type "tuple") none (.seq #[]) #[]
noncomputable abbrev o332 (P : Params) : Obj := .mk .none none (.func (.mk "undo_match" "undo_match" (fA f_28) (fB f_28) (fS f_28) 0 [] .none .none .none .none none .none .none 0)) #[]
noncomputable abbrev o333 (P : Params) : Obj := .mk (.type "code") none (.fields #[.str "undo_match" 551, .str "undo_match" 552, .str "/claim/cut.py" 553, .int 137 0, .int 2 0, .int 0 0, .int 0 0, .int 3 0, .ref 278, .bool true, .int 181 0, .ref 279, .none, .ref 280, .ref 281, .ref 282, .int 556 0, .int 137 0, .str "/claim/cut.py" 557]) #[]
noncomputable abbrev o334 (P : Params) : Obj := .mk (.type "function") none (.func (.mk "undo_match" "undo_match" (fA f_28) (fB f_28) (fS f_28) 3 [] .none .none .none (.str "perlcore.dynamic" 436) none (.ref 283) .none 0)) #[]
noncomputable abbrev o335 (P : Params) : Obj := .mk (.type "dict") none (.dict #[e71 P, e72 P, e73 P, e74 P, e75 P, e76 P, e77 P, e78 P, e79 P] 9) #[]
noncomputable abbrev o336 (P : Params) : Obj := .mk (.type "tuple") none (.seq #[]) #[]
noncomputable abbrev o337 (P : Params) : Obj := .mk .none none (.fields #[]) #[]
noncomputable abbrev o338 (P : Params) : Obj := .mk (.type "tuple") none (.seq #[.str "run" 581, .str "mark" 582, .str "save" 583]) #[]
noncomputable abbrev o339 (P : Params) : Obj := .mk (.type "tuple") none (.seq #[]) #[]
noncomputable abbrev o340 (P : Params) : Obj := .mk .none none (.func (.mk "leave" "leave" (fA f_30) (fB f_30) (fS f_30) 0 [] .none .none .none .none none .none .none 0)) #[]
noncomputable abbrev o341 (P : Params) : Obj := .mk (.type "code") none (.fields #[.str "leave" 578, .str "leave" 579, .str "/claim/cut.py" 580, .int 140 0, .int 2 0, .int 0 0, .int 0 0, .int 3 0, .ref 286, .bool true, .int 181 0, .ref 287, .none, .ref 288, .ref 289, .ref 290, .int 584 0, .int 140 0, .str "/claim/cut.py" 585]) #[]
noncomputable abbrev o342 (P : Params) : Obj := .mk (.type "function") none (.func (.mk "leave" "leave" (fA f_30) (fB f_30) (fS f_30) 3 [] .none .none .none (.str "perlcore.dynamic" 436) none (.ref 291) .none 0)) #[]
noncomputable abbrev o345 (P : Params) : Obj := .mk (.type "dict") none (.dict #[e131 P, e1 P, e2 P, e3 P, e4 P, e5 P, e6 P, e7 P, e8 P, e9 P, e10 P, e11 P, e12 P, e13 P, e14 P, e15 P, e16 P, e17 P, e18 P, e19 P, e20 P, e21 P, e22 P, e23 P, e24 P, e25 P, e26 P, e27 P, e28 P, e29 P, e30 P, e31 P, e32 P, e33 P, e34 P, e35 P, e36 P, e37 P, e38 P, e39 P] 40) #[]
noncomputable abbrev o346 (P : Params) : Obj := .mk .none none (.fields #[.int 1 0, .int 0 0, .ref 20, .int 5 0, .int 0 0, .ref 27, .int 14 0, .int 0 0, .ref 48, .int 20 0, .int 0 0, .ref 67, .int 29 0, .int 0 0, .ref 86, .int 34 0, .int 0 0, .ref 108, .int 60 0, .int 0 0, .ref 171, .int 67 0, .int 0 0, .ref 178, .int 74 0, .int 0 0, .ref 185, .int 81 0, .int 0 0, .ref 192, .int 90 0, .int 0 0, .ref 206, .int 93 0, .int 0 0, .ref 213, .int 95 0, .int 0 0, .ref 220, .int 98 0, .int 0 0, .ref 227, .int 101 0, .int 0 0, .ref 234, .int 104 0, .int 0 0, .ref 241, .int 107 0, .int 0 0, .ref 248, .int 111 0, .int 0 0, .ref 255, .int 124 0, .int 0 0, .ref 262, .int 131 0, .int 0 0, .ref 269, .int 134 0, .int 0 0, .ref 276, .int 137 0, .int 0 0, .ref 283, .int 140 0, .int 0 0, .ref 291, .int 144 0, .int 0 0, .ref 298, .int 151 0, .int 0 0, .ref 305, .int 158 0, .int 0 0, .ref 312, .int 163 0, .int 0 0, .ref 319, .int 168 0, .int 0 0, .ref 326]) #[]
noncomputable abbrev o347 (P : Params) : Obj := .mk (.type "tuple") none (.seq #[]) #[]
noncomputable abbrev o348 (P : Params) : Obj := .mk .none none (.fields #[]) #[]
noncomputable abbrev o349 (P : Params) : Obj := .mk (.type "tuple") none (.seq #[.str "name" 590, .str "sign" 591]) #[]
noncomputable abbrev o350 (P : Params) : Obj := .mk (.type "tuple") none (.seq #[]) #[]
noncomputable abbrev o351 (P : Params) : Obj := .mk .none none (.func (.mk "is_match_name" "is_match_name" (fA f_31) (fB f_31) (fS f_31) 0 [] .none .none .none .none none .none .none 0)) #[]
noncomputable abbrev o352 (P : Params) : Obj := .mk (.type "code") none (.fields #[.str "is_match_name" 587, .str "is_match_name" 588, .str "/claim/cut.py" 589, .int 144 0, .int 1 0, .int 0 0, .int 0 0, .int 3 0, .ref 293, .bool true, .int 181 0, .ref 294, .none, .ref 295, .ref 296, .ref 297, .int 592 0, .int 144 0, .str "/claim/cut.py" 593]) #[]
noncomputable abbrev o353 (P : Params) : Obj := .mk (.type "function") none (.func (.mk "is_match_name" "is_match_name" (fA f_31) (fB f_31) (fS f_31) 3 [] .none .none .none (.str "perlcore.dynamic" 436) none (.ref 298) .none 0)) #[]
noncomputable abbrev o354 (P : Params) : Obj := .mk (.type "tuple") none (.seq #[]) #[]
noncomputable abbrev o355 (P : Params) : Obj := .mk .none none (.fields #[]) #[]
noncomputable abbrev o356 (P : Params) : Obj := .mk (.type "tuple") none (.seq #[.str "match" 598, .str "number" 599, .str "text" 600, .str "captures" 601]) #[]
noncomputable abbrev o357 (P : Params) : Obj := .mk (.type "tuple") none (.seq #[]) #[]
noncomputable abbrev o358 (P : Params) : Obj := .mk .none none (.func (.mk "group_text" "group_text" (fA f_32) (fB f_32) (fS f_32) 0 [] .none .none .none .none none .none .none 0)) #[]
noncomputable abbrev o359 (P : Params) : Obj := .mk (.type "code") none (.fields #[.str "group_text" 595, .str "group_text" 596, .str "/claim/cut.py" 597, .int 151 0, .int 2 0, .int 0 0, .int 0 0, .int 3 0, .ref 300, .bool true, .int 181 0, .ref 301, .none, .ref 302, .ref 303, .ref 304, .int 602 0, .int 151 0, .str "/claim/cut.py" 603]) #[]
noncomputable abbrev o360 (P : Params) : Obj := .mk (.type "function") none (.func (.mk "group_text" "group_text" (fA f_32) (fB f_32) (fS f_32) 3 [] .none .none .none (.str "perlcore.dynamic" 436) none (.ref 305) .none 0)) #[]
noncomputable abbrev o361 (P : Params) : Obj := .mk (.type "tuple") none (.seq #[]) #[]
noncomputable abbrev o362 (P : Params) : Obj := .mk .none none (.fields #[]) #[]
noncomputable abbrev o363 (P : Params) : Obj := .mk (.type "tuple") none (.seq #[.str "match" 608, .str "number" 609]) #[]
noncomputable abbrev o364 (P : Params) : Obj := .mk (.type "tuple") none (.seq #[]) #[]
noncomputable abbrev o365 (P : Params) : Obj := .mk .none none (.func (.mk "last_group" "last_group" (fA f_33) (fB f_33) (fS f_33) 0 [] .none .none .none .none none .none .none 0)) #[]
noncomputable abbrev o366 (P : Params) : Obj := .mk (.type "code") none (.fields #[.str "last_group" 605, .str "last_group" 606, .str "/claim/cut.py" 607, .int 158 0, .int 1 0, .int 0 0, .int 0 0, .int 3 0, .ref 307, .bool true, .int 181 0, .ref 308, .none, .ref 309, .ref 310, .ref 311, .int 610 0, .int 158 0, .str "/claim/cut.py" 611]) #[]
noncomputable abbrev o367 (P : Params) : Obj := .mk (.type "function") none (.func (.mk "last_group" "last_group" (fA f_33) (fB f_33) (fS f_33) 3 [] .none .none .none (.str "perlcore.dynamic" 436) none (.ref 312) .none 0)) #[]
noncomputable abbrev o368 (P : Params) : Obj := .mk (.type "tuple") none (.seq #[]) #[]
noncomputable abbrev o369 (P : Params) : Obj := .mk .none none (.fields #[]) #[]
noncomputable abbrev o370 (P : Params) : Obj := .mk (.type "tuple") none (.seq #[.str "figures" 616, .str "number" 617, .str "sign" 618]) #[]
noncomputable abbrev o371 (P : Params) : Obj := .mk (.type "tuple") none (.seq #[]) #[]
noncomputable abbrev o372 (P : Params) : Obj := .mk .none none (.func (.mk "figures_value" "figures_value" (fA f_34) (fB f_34) (fS f_34) 0 [] .none .none .none .none none .none .none 0)) #[]
noncomputable abbrev o373 (P : Params) : Obj := .mk (.type "code") none (.fields #[.str "figures_value" 613, .str "figures_value" 614, .str "/claim/cut.py" 615, .int 163 0, .int 1 0, .int 0 0, .int 0 0, .int 3 0, .ref 314, .bool true, .int 181 0, .ref 315, .none, .ref 316, .ref 317, .ref 318, .int 619 0, .int 163 0, .str "/claim/cut.py" 620]) #[]
noncomputable abbrev o374 (P : Params) : Obj := .mk (.type "function") none (.func (.mk "figures_value" "figures_value" (fA f_34) (fB f_34) (fS f_34) 3 [] .none .none .none (.str "perlcore.dynamic" 436) none (.ref 319) .none 0)) #[]
noncomputable abbrev o375 (P : Params) : Obj := .mk (.type "tuple") none (.seq #[]) #[]
noncomputable abbrev o376 (P : Params) : Obj := .mk .none none (.fields #[]) #[]
noncomputable abbrev o377 (P : Params) : Obj := .mk (.type "tuple") none (.seq #[.str "match" 625, .str "name" 626, .str "sign" 627, .str "whole" 628]) #[]
noncomputable abbrev o378 (P : Params) : Obj := .mk (.type "tuple") none (.seq #[]) #[]
noncomputable abbrev o379 (P : Params) : Obj := .mk .none none (.func (.mk "match_value" "match_value" (fA f_35) (fB f_35) (fS f_35) 0 [] .none .none .none .none none .none .none 0)) #[]
noncomputable abbrev o380 (P : Params) : Obj := .mk (.type "code") none (.fields #[.str "match_value" 622, .str "match_value" 623, .str "/claim/cut.py" 624, .int 168 0, .int 2 0, .int 0 0, .int 0 0, .int 3 0, .ref 321, .bool true, .int 181 0, .ref 322, .none, .ref 323, .ref 324, .ref 325, .int 629 0, .int 168 0, .str "/claim/cut.py" 630]) #[]
noncomputable abbrev o381 (P : Params) : Obj := .mk (.type "function") none (.func (.mk "match_value" "match_value" (fA f_35) (fB f_35) (fS f_35) 3 [] .none .none .none (.str "perlcore.dynamic" 436) none (.ref 326) .none 0)) #[]
noncomputable abbrev o382 (P : Params) : Obj := .mk (.type "dict") none (.dict #[e131 P, e1 P, e2 P, e3 P, e4 P, e5 P, e6 P, e7 P, e8 P, e9 P, e10 P, e11 P, e12 P, e13 P, e14 P, e15 P, e16 P, e17 P, e18 P, e19 P, e20 P, e21 P, e22 P, e23 P, e24 P, e25 P, e26 P, e27 P, e28 P, e29 P, e30 P, e31 P, e32 P, e33 P, e34 P, e35 P, e36 P, e37 P, e38 P, e39 P, e40 P] 41) #[]
noncomputable abbrev o383 (P : Params) : Obj := .mk .none none (.fields #[.int 1 0, .int 0 0, .ref 20, .int 5 0, .int 0 0, .ref 27, .int 14 0, .int 0 0, .ref 48, .int 20 0, .int 0 0, .ref 67, .int 29 0, .int 0 0, .ref 86, .int 34 0, .int 0 0, .ref 108, .int 60 0, .int 0 0, .ref 171, .int 67 0, .int 0 0, .ref 178, .int 74 0, .int 0 0, .ref 185, .int 81 0, .int 0 0, .ref 192, .int 90 0, .int 0 0, .ref 206, .int 93 0, .int 0 0, .ref 213, .int 95 0, .int 0 0, .ref 220, .int 98 0, .int 0 0, .ref 227, .int 101 0, .int 0 0, .ref 234, .int 104 0, .int 0 0, .ref 241, .int 107 0, .int 0 0, .ref 248, .int 111 0, .int 0 0, .ref 255, .int 124 0, .int 0 0, .ref 262, .int 131 0, .int 0 0, .ref 269, .int 134 0, .int 0 0, .ref 276, .int 137 0, .int 0 0, .ref 283, .int 140 0, .int 0 0, .ref 291, .int 144 0, .int 0 0, .ref 298, .int 151 0, .int 0 0, .ref 305, .int 158 0, .int 0 0, .ref 312, .int 163 0, .int 0 0, .ref 319, .int 168 0, .int 0 0, .ref 326, .int 183 0, .int 0 0, .ref 333]) #[]
noncomputable abbrev o384 (P : Params) : Obj := .mk (.type "tuple") none (.seq #[]) #[]
noncomputable abbrev o385 (P : Params) : Obj := .mk (.type "builtin_function_or_method") none (.fields #[.builtin "type.__prepare__", .type "type"]) #[]
noncomputable abbrev o386 (P : Params) : Obj := .mk (.type "dict") none (.dict #[e97 P, e141 P, e98 P, e99 P, e100 P, e101 P, e102 P, e103 P, e104 P, e105 P, e106 P, e107 P, e108 P, e109 P, e110 P, e111 P] 16) #[]
noncomputable abbrev o387 (P : Params) : Obj := .mk (.type "tuple") none (.seq #[]) #[]
noncomputable abbrev o388 (P : Params) : Obj := .mk .none none (.fields #[.int 185 0, .int 4 0, .ref 340, .int 190 0, .int 4 0, .ref 347, .int 193 0, .int 4 0, .ref 354, .int 198 0, .int 4 0, .ref 361, .int 201 0, .int 4 0, .ref 368, .int 209 0, .int 4 0, .ref 373, .int 217 0, .int 4 0, .ref 380, .int 226 0, .int 4 0, .ref 387, .int 229 0, .int 4 0, .ref 394, .int 232 0, .int 4 0, .ref 401, .int 235 0, .int 4 0, .ref 408, .int 238 0, .int 4 0, .ref 415]) #[]
noncomputable abbrev o389 (P : Params) : Obj := .mk (.type "code") none (.fields #[.str "Counter" 636, .str "Counter" 637, .str "/claim/cut.py" 638, .int 183 0, .int 0 0, .int 0 0, .int 0 0, .int 0 0, .ref 331, .bool false, .int 181 0, .ref 332, .none, .none, .none, .none, .int 639 0, .int 183 0, .str "/claim/cut.py" 640]) #[]
noncomputable abbrev o390 (P : Params) : Obj := .mk (.type "frame") none .plain #[some (.ref 333), some (.ref 3), some (.ref 330), none, some (.str "perlcore.counts" 632), none, some (.ref 0)]
noncomputable abbrev o391 (P : Params) : Obj := .mk (.type "tuple") none (.seq #[]) #[]
noncomputable abbrev o392 (P : Params) : Obj := .mk .none none (.fields #[]) #[]
noncomputable abbrev o393 (P : Params) : Obj := .mk (.type "tuple") none (.seq #[.str "self" 649, .str "heap" 650, .str "destroy" 651]) #[]
noncomputable abbrev o394 (P : Params) : Obj := .mk (.type "tuple") none (.seq #[]) #[]
noncomputable abbrev o395 (P : Params) : Obj := .mk .none none (.func (.mk "__init__" "Counter.__init__" (fA f_37_0) (fB f_37_0) (fS f_37_0) 0 [] .none .none .none .none none .none .none 0)) #[]
noncomputable abbrev o396 (P : Params) : Obj := .mk (.type "code") none (.fields #[.str "__init__" 646, .str "Counter.__init__" 647, .str "/claim/cut.py" 648, .int 185 0, .int 3 0, .int 0 0, .int 0 0, .int 3 0, .ref 335, .bool true, .int 181 0, .ref 336, .none, .ref 337, .ref 338, .ref 339, .int 652 0, .int 185 0, .str "/claim/cut.py" 653]) #[]
noncomputable abbrev o397 (P : Params) : Obj := .mk (.type "function") none (.func (.mk "__init__" "Counter.__init__" (fA f_37_0) (fB f_37_0) (fS f_37_0) 3 [] .none .none .none (.str "perlcore.counts" 632) none (.ref 340) .none 0)) #[]
noncomputable abbrev o398 (P : Params) : Obj := .mk (.type "tuple") none (.seq #[]) #[]
noncomputable abbrev o399 (P : Params) : Obj := .mk .none none (.fields #[]) #[]
noncomputable abbrev o400 (P : Params) : Obj := .mk (.type "tuple") none (.seq #[.str "self" 658, .str "thing" 659]) #[]
noncomputable abbrev o401 (P : Params) : Obj := .mk (.type "tuple") none (.seq #[]) #[]
noncomputable abbrev o402 (P : Params) : Obj := .mk .none none (.func (.mk "hold" "Counter.hold" (fA f_37_1) (fB f_37_1) (fS f_37_1) 0 [] .none .none .none .none none .none .none 0)) #[]
noncomputable abbrev o403 (P : Params) : Obj := .mk (.type "code") none (.fields #[.str "hold" 655, .str "Counter.hold" 656, .str "/claim/cut.py" 657, .int 190 0, .int 2 0, .int 0 0, .int 0 0, .int 3 0, .ref 342, .bool true, .int 181 0, .ref 343, .none, .ref 344, .ref 345, .ref 346, .int 660 0, .int 190 0, .str "/claim/cut.py" 661]) #[]
noncomputable abbrev o404 (P : Params) : Obj := .mk (.type "function") none (.func (.mk "hold" "Counter.hold" (fA f_37_1) (fB f_37_1) (fS f_37_1) 3 [] .none .none .none (.str "perlcore.counts" 632) none (.ref 347) .none 0)) #[]
noncomputable abbrev o405 (P : Params) : Obj := .mk (.type "tuple") none (.seq #[]) #[]
noncomputable abbrev o406 (P : Params) : Obj := .mk .none none (.fields #[]) #[]
noncomputable abbrev o407 (P : Params) : Obj := .mk (.type "tuple") none (.seq #[.str "self" 666, .str "thing" 667]) #[]
noncomputable abbrev o408 (P : Params) : Obj := .mk (.type "tuple") none (.seq #[]) #[]
noncomputable abbrev o409 (P : Params) : Obj := .mk .none none (.func (.mk "let_go" "Counter.let_go" (fA f_37_2) (fB f_37_2) (fS f_37_1) 0 [] .none .none .none .none none .none .none 0)) #[]
noncomputable abbrev o410 (P : Params) : Obj := .mk (.type "code") none (.fields #[.str "let_go" 663, .str "Counter.let_go" 664, .str "/claim/cut.py" 665, .int 193 0, .int 2 0, .int 0 0, .int 0 0, .int 3 0, .ref 349, .bool true, .int 181 0, .ref 350, .none, .ref 351, .ref 352, .ref 353, .int 668 0, .int 193 0, .str "/claim/cut.py" 669]) #[]
noncomputable abbrev o411 (P : Params) : Obj := .mk (.type "function") none (.func (.mk "let_go" "Counter.let_go" (fA f_37_2) (fB f_37_2) (fS f_37_1) 3 [] .none .none .none (.str "perlcore.counts" 632) none (.ref 354) .none 0)) #[]
noncomputable abbrev o412 (P : Params) : Obj := .mk (.type "tuple") none (.seq #[]) #[]
noncomputable abbrev o413 (P : Params) : Obj := .mk .none none (.fields #[]) #[]
noncomputable abbrev o414 (P : Params) : Obj := .mk (.type "tuple") none (.seq #[.str "self" 674, .str "thing" 675]) #[]
noncomputable abbrev o415 (P : Params) : Obj := .mk (.type "tuple") none (.seq #[]) #[]
noncomputable abbrev o416 (P : Params) : Obj := .mk .none none (.func (.mk "note" "Counter.note" (fA f_37_3) (fB f_37_3) (fS f_37_3) 0 [] .none .none .none .none none .none .none 0)) #[]
noncomputable abbrev o417 (P : Params) : Obj := .mk (.type "code") none (.fields #[.str "note" 671, .str "Counter.note" 672, .str "/claim/cut.py" 673, .int 198 0, .int 2 0, .int 0 0, .int 0 0, .int 3 0, .ref 356, .bool true, .int 181 0, .ref 357, .none, .ref 358, .ref 359, .ref 360, .int 676 0, .int 198 0, .str "/claim/cut.py" 677]) #[]
noncomputable abbrev o418 (P : Params) : Obj := .mk (.type "function") none (.func (.mk "note" "Counter.note" (fA f_37_3) (fB f_37_3) (fS f_37_3) 3 [] .none .none .none (.str "perlcore.counts" 632) none (.ref 361) .none 0)) #[]
noncomputable abbrev o419 (P : Params) : Obj := .mk (.type "tuple") none (.seq #[]) #[]
noncomputable abbrev o420 (P : Params) : Obj := .mk .none none (.fields #[]) #[]
noncomputable abbrev o421 (P : Params) : Obj := .mk (.type "tuple") none (.seq #[.str "self" 682, .str "value" 683]) #[]
noncomputable abbrev o422 (P : Params) : Obj := .mk (.type "tuple") none (.seq #[]) #[]
noncomputable abbrev o423 (P : Params) : Obj := .mk .none none (.func (.mk "take" "Counter.take" (fA f_37_4) (fB f_37_4) (fS f_37_4) 0 [] .none .none .none .none none .none .none 0)) #[]
noncomputable abbrev o424 (P : Params) : Obj := .mk (.type "code") none (.fields #[.str "take" 679, .str "Counter.take" 680, .str "/claim/cut.py" 681, .int 201 0, .int 2 0, .int 0 0, .int 0 0, .int 3 0, .ref 363, .bool true, .int 181 0, .ref 364, .none, .ref 365, .ref 366, .ref 367, .int 684 0, .int 201 0, .str "/claim/cut.py" 685]) #[]
noncomputable abbrev o425 (P : Params) : Obj := .mk (.type "function") none (.func (.mk "take" "Counter.take" (fA f_37_4) (fB f_37_4) (fS f_37_4) 3 [] .none .none .none (.str "perlcore.counts" 632) none (.ref 368) .none 0)) #[]
noncomputable abbrev o426 (P : Params) : Obj := .mk (.type "tuple") none (.seq #[]) #[]
noncomputable abbrev o427 (P : Params) : Obj := .mk .none none (.fields #[]) #[]
noncomputable abbrev o428 (P : Params) : Obj := .mk .none none (.func (.mk "put_off" "Counter.put_off" (fA f_37_5) (fB f_37_5) (fS f_37_5) 0 [] .none .none .none .none none .none .none 0)) #[]
noncomputable abbrev o429 (P : Params) : Obj := .mk (.type "code") none (.fields #[.str "put_off" 687, .str "Counter.put_off" 688, .str "/claim/cut.py" 689, .int 209 0, .int 3 0, .int 0 0, .int 0 0, .int 3 0, .ref 370, .bool true, .int 181 0, .ref 371, .none, .none, .none, .ref 372, .int 690 0, .int 209 0, .str "/claim/cut.py" 691]) #[]
noncomputable abbrev o430 (P : Params) : Obj := .mk (.type "function") none (.func (.mk "put_off" "Counter.put_off" (fA f_37_5) (fB f_37_5) (fS f_37_5) 3 [] .none .none .none (.str "perlcore.counts" 632) none (.ref 373) .none 0)) #[]
noncomputable abbrev o431 (P : Params) : Obj := .mk (.type "tuple") none (.seq #[]) #[]
noncomputable abbrev o432 (P : Params) : Obj := .mk .none none (.fields #[]) #[]
noncomputable abbrev o433 (P : Params) : Obj := .mk (.type "tuple") none (.seq #[.str "self" 696, .str "scalar" 697, .str "value" 698, .str "old" 699]) #[]
noncomputable abbrev o434 (P : Params) : Obj := .mk (.type "tuple") none (.seq #[]) #[]
noncomputable abbrev o435 (P : Params) : Obj := .mk .none none (.func (.mk "store" "Counter.store" (fA f_37_6) (fB f_37_6) (fS f_37_6) 0 [] .none .none .none .none none .none .none 0)) #[]
noncomputable abbrev o436 (P : Params) : Obj := .mk (.type "code") none (.fields #[.str "store" 693, .str "Counter.store" 694, .str "/claim/cut.py" 695, .int 217 0, .int 3 0, .int 0 0, .int 0 0, .int 3 0, .ref 375, .bool true, .int 181 0, .ref 376, .none, .ref 377, .ref 378, .ref 379, .int 700 0, .int 217 0, .str "/claim/cut.py" 701]) #[]
noncomputable abbrev o437 (P : Params) : Obj := .mk (.type "function") none (.func (.mk "store" "Counter.store" (fA f_37_6) (fB f_37_6) (fS f_37_6) 3 [] .none .none .none (.str "perlcore.counts" 632) none (.ref 380) .none 0)) #[]
noncomputable abbrev o438 (P : Params) : Obj := .mk (.type "tuple") none (.seq #[]) #[]
noncomputable abbrev o439 (P : Params) : Obj := .mk .none none (.fields #[]) #[]
noncomputable abbrev o440 (P : Params) : Obj := .mk (.type "tuple") none (.seq #[.str "self" 706, .str "value" 707]) #[]
noncomputable abbrev o441 (P : Params) : Obj := .mk (.type "tuple") none (.seq #[]) #[]
noncomputable abbrev o442 (P : Params) : Obj := .mk .none none (.func (.mk "fresh" "Counter.fresh" (fA f_37_7) (fB f_37_7) (fS f_37_7) 0 [] .none .none .none .none none .none .none 0)) #[]
noncomputable abbrev o443 (P : Params) : Obj := .mk (.type "code") none (.fields #[.str "fresh" 703, .str "Counter.fresh" 704, .str "/claim/cut.py" 705, .int 226 0, .int 2 0, .int 0 0, .int 0 0, .int 3 0, .ref 382, .bool true, .int 181 0, .ref 383, .none, .ref 384, .ref 385, .ref 386, .int 708 0, .int 226 0, .str "/claim/cut.py" 709]) #[]
noncomputable abbrev o444 (P : Params) : Obj := .mk (.type "function") none (.func (.mk "fresh" "Counter.fresh" (fA f_37_7) (fB f_37_7) (fS f_37_7) 3 [] .none .none .none (.str "perlcore.counts" 632) none (.ref 387) .none 0)) #[]
noncomputable abbrev o445 (P : Params) : Obj := .mk (.type "tuple") none (.seq #[]) #[]
noncomputable abbrev o446 (P : Params) : Obj := .mk .none none (.fields #[]) #[]
noncomputable abbrev o447 (P : Params) : Obj := .mk (.type "tuple") none (.seq #[.str "self" 714, .str "scalar" 715]) #[]
noncomputable abbrev o448 (P : Params) : Obj := .mk (.type "tuple") none (.seq #[]) #[]
noncomputable abbrev o449 (P : Params) : Obj := .mk .none none (.func (.mk "drop" "Counter.drop" (fA f_37_8) (fB f_37_8) (fS f_37_8) 0 [] .none .none .none .none none .none .none 0)) #[]
noncomputable abbrev o450 (P : Params) : Obj := .mk (.type "code") none (.fields #[.str "drop" 711, .str "Counter.drop" 712, .str "/claim/cut.py" 713, .int 229 0, .int 2 0, .int 0 0, .int 0 0, .int 3 0, .ref 389, .bool true, .int 181 0, .ref 390, .none, .ref 391, .ref 392, .ref 393, .int 716 0, .int 229 0, .str "/claim/cut.py" 717]) #[]
noncomputable abbrev o451 (P : Params) : Obj := .mk (.type "function") none (.func (.mk "drop" "Counter.drop" (fA f_37_8) (fB f_37_8) (fS f_37_8) 3 [] .none .none .none (.str "perlcore.counts" 632) none (.ref 394) .none 0)) #[]
noncomputable abbrev o452 (P : Params) : Obj := .mk (.type "tuple") none (.seq #[]) #[]
noncomputable abbrev o453 (P : Params) : Obj := .mk .none none (.fields #[]) #[]
noncomputable abbrev o454 (P : Params) : Obj := .mk (.type "tuple") none (.seq #[.str "self" 722, .str "start" 723]) #[]
noncomputable abbrev o455 (P : Params) : Obj := .mk (.type "tuple") none (.seq #[]) #[]
noncomputable abbrev o456 (P : Params) : Obj := .mk .none none (.func (.mk "settle" "Counter.settle" (fA f_37_9) (fB f_37_9) (fS f_37_9) 0 [] .none .none .none .none none .none .none 0)) #[]
noncomputable abbrev o457 (P : Params) : Obj := .mk (.type "code") none (.fields #[.str "settle" 719, .str "Counter.settle" 720, .str "/claim/cut.py" 721, .int 232 0, .int 2 0, .int 0 0, .int 0 0, .int 3 0, .ref 396, .bool true, .int 181 0, .ref 397, .none, .ref 398, .ref 399, .ref 400, .int 724 0, .int 232 0, .str "/claim/cut.py" 725]) #[]
noncomputable abbrev o458 (P : Params) : Obj := .mk (.type "function") none (.func (.mk "settle" "Counter.settle" (fA f_37_9) (fB f_37_9) (fS f_37_9) 3 [] .none .none .none (.str "perlcore.counts" 632) none (.ref 401) .none 0)) #[]
noncomputable abbrev o459 (P : Params) : Obj := .mk (.type "tuple") none (.seq #[]) #[]
noncomputable abbrev o460 (P : Params) : Obj := .mk .none none (.fields #[]) #[]
noncomputable abbrev o461 (P : Params) : Obj := .mk (.type "tuple") none (.seq #[.str "self" 730, .str "thing" 731]) #[]
noncomputable abbrev o462 (P : Params) : Obj := .mk (.type "tuple") none (.seq #[]) #[]
noncomputable abbrev o463 (P : Params) : Obj := .mk .none none (.func (.mk "finish" "Counter.finish" (fA f_37_10) (fB f_37_10) (fS f_37_3) 0 [] .none .none .none .none none .none .none 0)) #[]
noncomputable abbrev o464 (P : Params) : Obj := .mk (.type "code") none (.fields #[.str "finish" 727, .str "Counter.finish" 728, .str "/claim/cut.py" 729, .int 235 0, .int 2 0, .int 0 0, .int 0 0, .int 3 0, .ref 403, .bool true, .int 181 0, .ref 404, .none, .ref 405, .ref 406, .ref 407, .int 732 0, .int 235 0, .str "/claim/cut.py" 733]) #[]
noncomputable abbrev o465 (P : Params) : Obj := .mk (.type "function") none (.func (.mk "finish" "Counter.finish" (fA f_37_10) (fB f_37_10) (fS f_37_3) 3 [] .none .none .none (.str "perlcore.counts" 632) none (.ref 408) .none 0)) #[]
noncomputable abbrev o466 (P : Params) : Obj := .mk (.type "tuple") none (.seq #[]) #[]
noncomputable abbrev o467 (P : Params) : Obj := .mk .none none (.fields #[]) #[]
noncomputable abbrev o468 (P : Params) : Obj := .mk (.type "tuple") none (.seq #[.str "self" 738, .str "thing" 739]) #[]
noncomputable abbrev o469 (P : Params) : Obj := .mk (.type "tuple") none (.seq #[]) #[]
noncomputable abbrev o470 (P : Params) : Obj := .mk .none none (.func (.mk "free" "Counter.free" (fA f_37_11) (fB f_37_11) (fS f_37_3) 0 [] .none .none .none .none none .none .none 0)) #[]
noncomputable abbrev o471 (P : Params) : Obj := .mk (.type "code") none (.fields #[.str "free" 735, .str "Counter.free" 736, .str "/claim/cut.py" 737, .int 238 0, .int 2 0, .int 0 0, .int 0 0, .int 3 0, .ref 410, .bool true, .int 181 0, .ref 411, .none, .ref 412, .ref 413, .ref 414, .int 740 0, .int 238 0, .str "/claim/cut.py" 741]) #[]
noncomputable abbrev o472 (P : Params) : Obj := .mk (.type "function") none (.func (.mk "free" "Counter.free" (fA f_37_11) (fB f_37_11) (fS f_37_3) 3 [] .none .none .none (.str "perlcore.counts" 632) none (.ref 415) .none 0)) #[]
noncomputable abbrev o473 (P : Params) : Obj := .mk (.type "tuple") none (.seq #[.str "destroy" 743, .str "heap" 744, .str "places" 745]) #[]
noncomputable abbrev o474 (P : Params) : Obj := .mk (.type "dict") none (.dict #[e97 P, e98 P, e99 P, e100 P, e101 P, e102 P, e103 P, e104 P, e105 P, e106 P, e107 P, e108 P, e109 P, e110 P, e111 P, e112 P, e113 P, e114 P] 4) #[]
noncomputable abbrev o475 (P : Params) : Obj := .mk (.type "type") none (.cls (.mk "Counter" [.type "object"] [.ref 419, .type "object"] 418 "Counter" true [] [] false none false)) #[none, none, some (.str "Counter" 634), some (.str "Counter" 642), some (.builtin "object.__new__"), some (.bool true)]
noncomputable abbrev o476 (P : Params) : Obj := .mk (.type "getset_descriptor") none (.fields #[.str "__dict__" 747, .ref 419, .builtin "function.__dict__", .builtin "function.__dict__#set"]) #[]
noncomputable abbrev o477 (P : Params) : Obj := .mk (.type "getset_descriptor") none (.fields #[.str "__weakref__" 749, .ref 419, .builtin "ExceptionGroup.__weakref__", .none]) #[]
noncomputable abbrev o478 (P : Params) : Obj := .mk (.type "super") none (.fields #[.ref 419, .ref 419, .ref 419]) #[]
noncomputable abbrev o479 (P : Params) : Obj := .mk (.type "builtin_function_or_method") none (.fields #[.builtin "object.__init_subclass__", .ref 419]) #[]
noncomputable abbrev o480 (P : Params) : Obj := .mk (.type "dict") none (.dict #[e0 P, e1 P, e2 P, e3 P, e4 P, e5 P, e6 P, e7 P, e8 P, e9 P, e10 P, e11 P, e12 P, e13 P, e14 P, e15 P, e16 P, e17 P, e18 P, e19 P, e20 P, e21 P, e22 P, e23 P, e24 P, e25 P, e26 P, e27 P, e28 P, e29 P, e30 P, e31 P, e32 P, e33 P, e34 P, e35 P, e36 P, e37 P, e38 P, e39 P, e40 P, e41 P] 42) #[]
noncomputable abbrev o481 (P : Params) : Obj := .mk .none none (.fields #[.int 1 0, .int 0 0, .ref 20, .int 5 0, .int 0 0, .ref 27, .int 14 0, .int 0 0, .ref 48, .int 20 0, .int 0 0, .ref 67, .int 29 0, .int 0 0, .ref 86, .int 34 0, .int 0 0, .ref 108, .int 60 0, .int 0 0, .ref 171, .int 67 0, .int 0 0, .ref 178, .int 74 0, .int 0 0, .ref 185, .int 81 0, .int 0 0, .ref 192, .int 90 0, .int 0 0, .ref 206, .int 93 0, .int 0 0, .ref 213, .int 95 0, .int 0 0, .ref 220, .int 98 0, .int 0 0, .ref 227, .int 101 0, .int 0 0, .ref 234, .int 104 0, .int 0 0, .ref 241, .int 107 0, .int 0 0, .ref 248, .int 111 0, .int 0 0, .ref 255, .int 124 0, .int 0 0, .ref 262, .int 131 0, .int 0 0, .ref 269, .int 134 0, .int 0 0, .ref 276, .int 137 0, .int 0 0, .ref 283, .int 140 0, .int 0 0, .ref 291, .int 144 0, .int 0 0, .ref 298, .int 151 0, .int 0 0, .ref 305, .int 158 0, .int 0 0, .ref 312, .int 163 0, .int 0 0, .ref 319, .int 168 0, .int 0 0, .ref 326, .int 183 0, .int 0 0, .ref 333, .int 241 0, .int 0 0, .ref 429]) #[]
noncomputable abbrev o482 (P : Params) : Obj := .mk (.type "tuple") none (.seq #[]) #[]
noncomputable abbrev o483 (P : Params) : Obj := .mk (.type "builtin_function_or_method") none (.fields #[.builtin "type.__prepare__", .type "type"]) #[]
noncomputable abbrev o484 (P : Params) : Obj := .mk (.type "dict") none (.dict #[e81 P, e82 P, e83 P, e84 P, e85 P] 5) #[]
noncomputable abbrev o485 (P : Params) : Obj := .mk (.type "tuple") none (.seq #[]) #[]
noncomputable abbrev o486 (P : Params) : Obj := .mk .none none (.fields #[.int 243 0, .int 4 0, .ref 436]) #[]
noncomputable abbrev o487 (P : Params) : Obj := .mk (.type "code") none (.fields #[.str "Run" 758, .str "Run" 759, .str "/claim/cut.py" 760, .int 241 0, .int 0 0, .int 0 0, .int 0 0, .int 0 0, .ref 427, .bool false, .int 181 0, .ref 428, .none, .none, .none, .none, .int 761 0, .int 241 0, .str "/claim/cut.py" 762]) #[]
noncomputable abbrev o488 (P : Params) : Obj := .mk (.type "frame") none .plain #[some (.ref 429), some (.ref 3), some (.ref 426), none, some (.str "perlcore.frames" 754), none, some (.ref 0)]
noncomputable abbrev o489 (P : Params) : Obj := .mk (.type "tuple") none (.seq #[]) #[]
noncomputable abbrev o490 (P : Params) : Obj := .mk .none none (.fields #[]) #[]
noncomputable abbrev o491 (P : Params) : Obj := .mk (.type "tuple") none (.seq #[.str "self" 771, .str "heap" 772, .str "counter" 773, .str "stash" 774, .str "limits" 775]) #[]
noncomputable abbrev o492 (P : Params) : Obj := .mk (.type "tuple") none (.seq #[]) #[]
noncomputable abbrev o493 (P : Params) : Obj := .mk .none none (.func (.mk "__init__" "Run.__init__" (fA f_39_0) (fB f_39_0) (fS f_39_0) 0 [] .none .none .none .none none .none .none 0)) #[]
noncomputable abbrev o494 (P : Params) : Obj := .mk (.type "code") none (.fields #[.str "__init__" 768, .str "Run.__init__" 769, .str "/claim/cut.py" 770, .int 243 0, .int 5 0, .int 0 0, .int 0 0, .int 3 0, .ref 431, .bool true, .int 181 0, .ref 432, .none, .ref 433, .ref 434, .ref 435, .int 776 0, .int 243 0, .str "/claim/cut.py" 777]) #[]
noncomputable abbrev o495 (P : Params) : Obj := .mk (.type "function") none (.func (.mk "__init__" "Run.__init__" (fA f_39_0) (fB f_39_0) (fS f_39_0) 3 [] .none .none .none (.str "perlcore.frames" 754) none (.ref 436) .none 0)) #[]
noncomputable abbrev o496 (P : Params) : Obj := .mk (.type "tuple") none (.seq #[.str "call_code" 779, .str "compile_text" 780, .str "counter" 781, .str "empties" 782, .str "err" 783, .str "frames" 784, .str "funcs" 785, .str "heap" 786, .str "limits" 787, .str "lvs" 788, .str "match" 789, .str "methods" 790, .str "nodes" 791, .str "operators" 792, .str "out" 793, .str "patterns" 794, .str "saves" 795, .str "stash" 796, .str "statements" 797, .str "steps" 798]) #[]
noncomputable abbrev o497 (P : Params) : Obj := .mk (.type "dict") none (.dict #[e81 P, e83 P, e84 P, e85 P, e132 P, e133 P, e134 P] 4) #[]
noncomputable abbrev o498 (P : Params) : Obj := .mk (.type "type") none (.cls (.mk "Run" [.type "object"] [.ref 440, .type "object"] 439 "Run" true [] [] false none false)) #[none, none, some (.str "Run" 756), some (.str "Run" 764), some (.builtin "object.__new__"), some (.bool true)]
noncomputable abbrev o499 (P : Params) : Obj := .mk (.type "getset_descriptor") none (.fields #[.str "__dict__" 800, .ref 440, .builtin "function.__dict__", .builtin "function.__dict__#set"]) #[]
noncomputable abbrev o500 (P : Params) : Obj := .mk (.type "getset_descriptor") none (.fields #[.str "__weakref__" 802, .ref 440, .builtin "ExceptionGroup.__weakref__", .none]) #[]
noncomputable abbrev o501 (P : Params) : Obj := .mk (.type "super") none (.fields #[.ref 440, .ref 440, .ref 440]) #[]
noncomputable abbrev o502 (P : Params) : Obj := .mk (.type "builtin_function_or_method") none (.fields #[.builtin "object.__init_subclass__", .ref 440]) #[]
noncomputable abbrev o503 (P : Params) : Obj := .mk (.type "dict") none (.dict #[e69 P, e1 P, e2 P, e3 P, e4 P, e5 P, e6 P, e7 P, e8 P, e9 P, e10 P, e11 P, e12 P, e13 P, e14 P, e15 P, e16 P, e17 P, e18 P, e19 P, e20 P, e21 P, e22 P, e23 P, e24 P, e25 P, e26 P, e27 P, e28 P, e29 P, e30 P, e31 P, e32 P, e33 P, e34 P, e35 P, e36 P, e37 P, e38 P, e39 P, e40 P, e41 P, e70 P] 43) #[]
noncomputable abbrev o504 (P : Params) : Obj := .mk .none none (.fields #[.int 1 0, .int 0 0, .ref 20, .int 5 0, .int 0 0, .ref 27, .int 14 0, .int 0 0, .ref 48, .int 20 0, .int 0 0, .ref 67, .int 29 0, .int 0 0, .ref 86, .int 34 0, .int 0 0, .ref 108, .int 60 0, .int 0 0, .ref 171, .int 67 0, .int 0 0, .ref 178, .int 74 0, .int 0 0, .ref 185, .int 81 0, .int 0 0, .ref 192, .int 90 0, .int 0 0, .ref 206, .int 93 0, .int 0 0, .ref 213, .int 95 0, .int 0 0, .ref 220, .int 98 0, .int 0 0, .ref 227, .int 101 0, .int 0 0, .ref 234, .int 104 0, .int 0 0, .ref 241, .int 107 0, .int 0 0, .ref 248, .int 111 0, .int 0 0, .ref 255, .int 124 0, .int 0 0, .ref 262, .int 131 0, .int 0 0, .ref 269, .int 134 0, .int 0 0, .ref 276, .int 137 0, .int 0 0, .ref 283, .int 140 0, .int 0 0, .ref 291, .int 144 0, .int 0 0, .ref 298, .int 151 0, .int 0 0, .ref 305, .int 158 0, .int 0 0, .ref 312, .int 163 0, .int 0 0, .ref 319, .int 168 0, .int 0 0, .ref 326, .int 183 0, .int 0 0, .ref 333, .int 241 0, .int 0 0, .ref 429, .int 265 0, .int 0 0, .ref 450]) #[]
noncomputable abbrev o505 (P : Params) : Obj := .mk (.type "tuple") none (.seq #[]) #[]
noncomputable abbrev o506 (P : Params) : Obj := .mk (.type "builtin_function_or_method") none (.fields #[.builtin "type.__prepare__", .type "type"]) #[]
noncomputable abbrev o507 (P : Params) : Obj := .mk (.type "dict") none (.dict #[e59 P, e60 P, e61 P, e62 P, e63 P] 5) #[]
noncomputable abbrev o508 (P : Params) : Obj := .mk (.type "tuple") none (.seq #[]) #[]
noncomputable abbrev o509 (P : Params) : Obj := .mk .none none (.fields #[.int 267 0, .int 4 0, .ref 458]) #[]
noncomputable abbrev o510 (P : Params) : Obj := .mk (.type "code") none (.fields #[.str "Limits" 811, .str "Limits" 812, .str "/claim/cut.py" 813, .int 265 0, .int 0 0, .int 0 0, .int 0 0, .int 0 0, .ref 448, .bool false, .int 181 0, .ref 449, .none, .none, .none, .none, .int 814 0, .int 265 0, .str "/claim/cut.py" 815]) #[]
noncomputable abbrev o511 (P : Params) : Obj := .mk (.type "frame") none .plain #[some (.ref 450), some (.ref 3), some (.ref 447), none, some (.str "perlcore.limits" 807), none, some (.ref 0)]
noncomputable abbrev o512 (P : Params) : Obj := .mk (.type "tuple") none (.seq #[.int 64 821, .int 50 822, .int 1000000 825, .int 100000 828, .int 10000 831]) #[]
noncomputable abbrev o513 (P : Params) : Obj := .mk (.type "tuple") none (.seq #[]) #[]
noncomputable abbrev o514 (P : Params) : Obj := .mk .none none (.fields #[]) #[]
noncomputable abbrev o515 (P : Params) : Obj := .mk (.type "tuple") none (.seq #[.str "self" 835, .str "width" 836, .str "depth" 837, .str "steps" 838, .str "text" 839, .str "items" 840]) #[]
noncomputable abbrev o516 (P : Params) : Obj := .mk (.type "tuple") none (.seq #[]) #[]
noncomputable abbrev o517 (P : Params) : Obj := .mk .none none (.func (.mk "__init__" "Limits.__init__" (fA f_41_0) (fB f_41_0) (fS f_41_0) 0 [] .none .none .none .none none .none .none 0)) #[]
noncomputable abbrev o518 (P : Params) : Obj := .mk (.type "code") none (.fields #[.str "__init__" 832, .str "Limits.__init__" 833, .str "/claim/cut.py" 834, .int 267 0, .int 6 0, .int 0 0, .int 0 0, .int 3 0, .ref 453, .bool true, .int 181 0, .ref 454, .none, .ref 455, .ref 456, .ref 457, .int 841 0, .int 267 0, .str "/claim/cut.py" 842]) #[]
noncomputable abbrev o519 (P : Params) : Obj := .mk (.type "function") none (.func (.mk "__init__" "Limits.__init__" (fA f_41_0) (fB f_41_0) (fS f_41_0) 3 [] (.ref 452) .none .none (.str "perlcore.limits" 807) none (.ref 458) .none 0)) #[]
noncomputable abbrev o520 (P : Params) : Obj := .mk (.type "tuple") none (.seq #[.str "depth" 844, .str "items" 845, .str "steps" 846, .str "text" 847, .str "width" 848]) #[]
noncomputable abbrev o521 (P : Params) : Obj := .mk (.type "dict") none (.dict #[e59 P, e61 P, e62 P, e63 P, e138 P, e139 P, e140 P] 4) #[]
noncomputable abbrev o522 (P : Params) : Obj := .mk (.type "type") none (.cls (.mk "Limits" [.type "object"] [.ref 462, .type "object"] 461 "Limits" true [] [] false none false)) #[none, none, some (.str "Limits" 809), some (.str "Limits" 817), some (.builtin "object.__new__"), some (.bool true)]
noncomputable abbrev o523 (P : Params) : Obj := .mk (.type "getset_descriptor") none (.fields #[.str "__dict__" 850, .ref 462, .builtin "function.__dict__", .builtin "function.__dict__#set"]) #[]
noncomputable abbrev o524 (P : Params) : Obj := .mk (.type "getset_descriptor") none (.fields #[.str "__weakref__" 852, .ref 462, .builtin "ExceptionGroup.__weakref__", .none]) #[]
noncomputable abbrev o525 (P : Params) : Obj := .mk (.type "super") none (.fields #[.ref 462, .ref 462, .ref 462]) #[]
noncomputable abbrev o526 (P : Params) : Obj := .mk (.type "builtin_function_or_method") none (.fields #[.builtin "object.__init_subclass__", .ref 462]) #[]
noncomputable abbrev o527 (P : Params) : Obj := .mk (.type "dict") none (.dict #[e69 P, e1 P, e2 P, e3 P, e4 P, e5 P, e6 P, e7 P, e8 P, e9 P, e10 P, e11 P, e12 P, e13 P, e14 P, e15 P, e16 P, e17 P, e18 P, e19 P, e20 P, e21 P, e22 P, e23 P, e24 P, e25 P, e26 P, e27 P, e28 P, e29 P, e30 P, e31 P, e32 P, e33 P, e34 P, e35 P, e36 P, e37 P, e38 P, e39 P, e40 P, e41 P, e70 P, e115 P] 44) #[]
noncomputable abbrev o528 (P : Params) : Obj := .mk .none none (.fields #[.int 1 0, .int 0 0, .ref 20, .int 5 0, .int 0 0, .ref 27, .int 14 0, .int 0 0, .ref 48, .int 20 0, .int 0 0, .ref 67, .int 29 0, .int 0 0, .ref 86, .int 34 0, .int 0 0, .ref 108, .int 60 0, .int 0 0, .ref 171, .int 67 0, .int 0 0, .ref 178, .int 74 0, .int 0 0, .ref 185, .int 81 0, .int 0 0, .ref 192, .int 90 0, .int 0 0, .ref 206, .int 93 0, .int 0 0, .ref 213, .int 95 0, .int 0 0, .ref 220, .int 98 0, .int 0 0, .ref 227, .int 101 0, .int 0 0, .ref 234, .int 104 0, .int 0 0, .ref 241, .int 107 0, .int 0 0, .ref 248, .int 111 0, .int 0 0, .ref 255, .int 124 0, .int 0 0, .ref 262, .int 131 0, .int 0 0, .ref 269, .int 134 0, .int 0 0, .ref 276, .int 137 0, .int 0 0, .ref 283, .int 140 0, .int 0 0, .ref 291, .int 144 0, .int 0 0, .ref 298, .int 151 0, .int 0 0, .ref 305, .int 158 0, .int 0 0, .ref 312, .int 163 0, .int 0 0, .ref 319, .int 168 0, .int 0 0, .ref 326, .int 183 0, .int 0 0, .ref 333, .int 241 0, .int 0 0, .ref 429, .int 265 0, .int 0 0, .ref 450, .int 274 0, .int 0 0, .ref 472]) #[]
noncomputable abbrev o529 (P : Params) : Obj := .mk (.type "tuple") none (.seq #[]) #[]
noncomputable abbrev o530 (P : Params) : Obj := .mk (.type "builtin_function_or_method") none (.fields #[.builtin "type.__prepare__", .type "type"]) #[]
noncomputable abbrev o531 (P : Params) : Obj := .mk (.type "dict") none (.dict #[e42 P, e43 P, e44 P, e45 P, e46 P, e47 P, e48 P, e49 P, e50 P, e51 P, e52 P] 11) #[]
noncomputable abbrev o532 (P : Params) : Obj := .mk (.type "tuple") none (.seq #[]) #[]
noncomputable abbrev o533 (P : Params) : Obj := .mk .none none (.fields #[.int 276 0, .int 4 0, .ref 479, .int 281 0, .int 4 0, .ref 486, .int 286 0, .int 4 0, .ref 493, .int 293 0, .int 4 0, .ref 500, .int 296 0, .int 4 0, .ref 507, .int 299 0, .int 4 0, .ref 514, .int 302 0, .int 4 0, .ref 521]) #[]
noncomputable abbrev o534 (P : Params) : Obj := .mk (.type "code") none (.fields #[.str "Stash" 861, .str "Stash" 862, .str "/claim/cut.py" 863, .int 274 0, .int 0 0, .int 0 0, .int 0 0, .int 0 0, .ref 470, .bool false, .int 181 0, .ref 471, .none, .none, .none, .none, .int 864 0, .int 274 0, .str "/claim/cut.py" 865]) #[]
noncomputable abbrev o535 (P : Params) : Obj := .mk (.type "frame") none .plain #[some (.ref 472), some (.ref 3), some (.ref 469), none, some (.str "perlcore.stash" 857), none, some (.ref 0)]
noncomputable abbrev o536 (P : Params) : Obj := .mk (.type "tuple") none (.seq #[]) #[]
noncomputable abbrev o537 (P : Params) : Obj := .mk .none none (.fields #[]) #[]
noncomputable abbrev o538 (P : Params) : Obj := .mk (.type "tuple") none (.seq #[.str "self" 874, .str "heap" 875]) #[]
noncomputable abbrev o539 (P : Params) : Obj := .mk (.type "tuple") none (.seq #[]) #[]
noncomputable abbrev o540 (P : Params) : Obj := .mk .none none (.func (.mk "__init__" "Stash.__init__" (fA f_43_0) (fB f_43_0) (fS f_43_0) 0 [] .none .none .none .none none .none .none 0)) #[]
noncomputable abbrev o541 (P : Params) : Obj := .mk (.type "code") none (.fields #[.str "__init__" 871, .str "Stash.__init__" 872, .str "/claim/cut.py" 873, .int 276 0, .int 2 0, .int 0 0, .int 0 0, .int 3 0, .ref 474, .bool true, .int 181 0, .ref 475, .none, .ref 476, .ref 477, .ref 478, .int 876 0, .int 276 0, .str "/claim/cut.py" 877]) #[]
noncomputable abbrev o542 (P : Params) : Obj := .mk (.type "function") none (.func (.mk "__init__" "Stash.__init__" (fA f_43_0) (fB f_43_0) (fS f_43_0) 3 [] .none .none .none (.str "perlcore.stash" 857) none (.ref 479) .none 0)) #[]
noncomputable abbrev o543 (P : Params) : Obj := .mk (.type "tuple") none (.seq #[]) #[]
noncomputable abbrev o544 (P : Params) : Obj := .mk .none none (.fields #[]) #[]
noncomputable abbrev o545 (P : Params) : Obj := .mk (.type "tuple") none (.seq #[.str "self" 882, .str "name" 883]) #[]
noncomputable abbrev o546 (P : Params) : Obj := .mk (.type "tuple") none (.seq #[]) #[]
noncomputable abbrev o547 (P : Params) : Obj := .mk .none none (.func (.mk "glob_of" "Stash.glob_of" (fA f_43_1) (fB f_43_1) (fS f_43_1) 0 [] .none .none .none .none none .none .none 0)) #[]
noncomputable abbrev o548 (P : Params) : Obj := .mk (.type "code") none (.fields #[.str "glob_of" 879, .str "Stash.glob_of" 880, .str "/claim/cut.py" 881, .int 281 0, .int 2 0, .int 0 0, .int 0 0, .int 3 0, .ref 481, .bool true, .int 181 0, .ref 482, .none, .ref 483, .ref 484, .ref 485, .int 884 0, .int 281 0, .str "/claim/cut.py" 885]) #[]
noncomputable abbrev o549 (P : Params) : Obj := .mk (.type "function") none (.func (.mk "glob_of" "Stash.glob_of" (fA f_43_1) (fB f_43_1) (fS f_43_1) 3 [] .none .none .none (.str "perlcore.stash" 857) none (.ref 486) .none 0)) #[]
noncomputable abbrev o550 (P : Params) : Obj := .mk (.type "tuple") none (.seq #[]) #[]
noncomputable abbrev o551 (P : Params) : Obj := .mk .none none (.fields #[]) #[]
noncomputable abbrev o552 (P : Params) : Obj := .mk (.type "tuple") none (.seq #[.str "self" 890, .str "name" 891, .str "glob" 892]) #[]
noncomputable abbrev o553 (P : Params) : Obj := .mk (.type "tuple") none (.seq #[]) #[]
noncomputable abbrev o554 (P : Params) : Obj := .mk .none none (.func (.mk "scalar_of" "Stash.scalar_of" (fA f_43_2) (fB f_43_2) (fS f_43_2) 0 [] .none .none .none .none none .none .none 0)) #[]
noncomputable abbrev o555 (P : Params) : Obj := .mk (.type "code") none (.fields #[.str "scalar_of" 887, .str "Stash.scalar_of" 888, .str "/claim/cut.py" 889, .int 286 0, .int 2 0, .int 0 0, .int 0 0, .int 3 0, .ref 488, .bool true, .int 181 0, .ref 489, .none, .ref 490, .ref 491, .ref 492, .int 893 0, .int 286 0, .str "/claim/cut.py" 894]) #[]
noncomputable abbrev o556 (P : Params) : Obj := .mk (.type "function") none (.func (.mk "scalar_of" "Stash.scalar_of" (fA f_43_2) (fB f_43_2) (fS f_43_2) 3 [] .none .none .none (.str "perlcore.stash" 857) none (.ref 493) .none 0)) #[]
noncomputable abbrev o557 (P : Params) : Obj := .mk (.type "tuple") none (.seq #[]) #[]
noncomputable abbrev o558 (P : Params) : Obj := .mk .none none (.fields #[]) #[]
noncomputable abbrev o559 (P : Params) : Obj := .mk (.type "tuple") none (.seq #[.str "self" 899, .str "name" 900]) #[]
noncomputable abbrev o560 (P : Params) : Obj := .mk (.type "tuple") none (.seq #[]) #[]
noncomputable abbrev o561 (P : Params) : Obj := .mk .none none (.func (.mk "array_of" "Stash.array_of" (fA f_43_3) (fB f_43_3) (fS f_43_3) 0 [] .none .none .none .none none .none .none 0)) #[]
noncomputable abbrev o562 (P : Params) : Obj := .mk (.type "code") none (.fields #[.str "array_of" 896, .str "Stash.array_of" 897, .str "/claim/cut.py" 898, .int 293 0, .int 2 0, .int 0 0, .int 0 0, .int 3 0, .ref 495, .bool true, .int 181 0, .ref 496, .none, .ref 497, .ref 498, .ref 499, .int 901 0, .int 293 0, .str "/claim/cut.py" 902]) #[]
noncomputable abbrev o563 (P : Params) : Obj := .mk (.type "function") none (.func (.mk "array_of" "Stash.array_of" (fA f_43_3) (fB f_43_3) (fS f_43_3) 3 [] .none .none .none (.str "perlcore.stash" 857) none (.ref 500) .none 0)) #[]
noncomputable abbrev o564 (P : Params) : Obj := .mk (.type "tuple") none (.seq #[]) #[]
noncomputable abbrev o565 (P : Params) : Obj := .mk .none none (.fields #[]) #[]
noncomputable abbrev o566 (P : Params) : Obj := .mk (.type "tuple") none (.seq #[.str "self" 907, .str "name" 908]) #[]
noncomputable abbrev o567 (P : Params) : Obj := .mk (.type "tuple") none (.seq #[]) #[]
noncomputable abbrev o568 (P : Params) : Obj := .mk .none none (.func (.mk "hash_of" "Stash.hash_of" (fA f_43_4) (fB f_43_4) (fS f_43_3) 0 [] .none .none .none .none none .none .none 0)) #[]
noncomputable abbrev o569 (P : Params) : Obj := .mk (.type "code") none (.fields #[.str "hash_of" 904, .str "Stash.hash_of" 905, .str "/claim/cut.py" 906, .int 296 0, .int 2 0, .int 0 0, .int 0 0, .int 3 0, .ref 502, .bool true, .int 181 0, .ref 503, .none, .ref 504, .ref 505, .ref 506, .int 909 0, .int 296 0, .str "/claim/cut.py" 910]) #[]
noncomputable abbrev o570 (P : Params) : Obj := .mk (.type "function") none (.func (.mk "hash_of" "Stash.hash_of" (fA f_43_4) (fB f_43_4) (fS f_43_3) 3 [] .none .none .none (.str "perlcore.stash" 857) none (.ref 507) .none 0)) #[]
noncomputable abbrev o571 (P : Params) : Obj := .mk (.type "tuple") none (.seq #[]) #[]
noncomputable abbrev o572 (P : Params) : Obj := .mk .none none (.fields #[]) #[]
noncomputable abbrev o573 (P : Params) : Obj := .mk (.type "tuple") none (.seq #[.str "self" 915, .str "name" 916]) #[]
noncomputable abbrev o574 (P : Params) : Obj := .mk (.type "tuple") none (.seq #[]) #[]
noncomputable abbrev o575 (P : Params) : Obj := .mk .none none (.func (.mk "code_of" "Stash.code_of" (fA f_43_5) (fB f_43_5) (fS f_43_3) 0 [] .none .none .none .none none .none .none 0)) #[]
noncomputable abbrev o576 (P : Params) : Obj := .mk (.type "code") none (.fields #[.str "code_of" 912, .str "Stash.code_of" 913, .str "/claim/cut.py" 914, .int 299 0, .int 2 0, .int 0 0, .int 0 0, .int 3 0, .ref 509, .bool true, .int 181 0, .ref 510, .none, .ref 511, .ref 512, .ref 513, .int 917 0, .int 299 0, .str "/claim/cut.py" 918]) #[]
noncomputable abbrev o577 (P : Params) : Obj := .mk (.type "function") none (.func (.mk "code_of" "Stash.code_of" (fA f_43_5) (fB f_43_5) (fS f_43_3) 3 [] .none .none .none (.str "perlcore.stash" 857) none (.ref 514) .none 0)) #[]
noncomputable abbrev o578 (P : Params) : Obj := .mk (.type "tuple") none (.seq #[]) #[]
noncomputable abbrev o579 (P : Params) : Obj := .mk .none none (.fields #[]) #[]
noncomputable abbrev o580 (P : Params) : Obj := .mk (.type "tuple") none (.seq #[.str "self" 923, .str "name" 924]) #[]
noncomputable abbrev o581 (P : Params) : Obj := .mk (.type "tuple") none (.seq #[]) #[]
noncomputable abbrev o582 (P : Params) : Obj := .mk .none none (.func (.mk "find_array" "Stash.find_array" (fA f_43_6) (fB f_43_6) (fS f_43_3) 0 [] .none .none .none .none none .none .none 0)) #[]
noncomputable abbrev o583 (P : Params) : Obj := .mk (.type "code") none (.fields #[.str "find_array" 920, .str "Stash.find_array" 921, .str "/claim/cut.py" 922, .int 302 0, .int 2 0, .int 0 0, .int 0 0, .int 3 0, .ref 516, .bool true, .int 181 0, .ref 517, .none, .ref 518, .ref 519, .ref 520, .int 925 0, .int 302 0, .str "/claim/cut.py" 926]) #[]
noncomputable abbrev o584 (P : Params) : Obj := .mk (.type "function") none (.func (.mk "find_array" "Stash.find_array" (fA f_43_6) (fB f_43_6) (fS f_43_3) 3 [] .none .none .none (.str "perlcore.stash" 857) none (.ref 521) .none 0)) #[]
noncomputable abbrev o585 (P : Params) : Obj := .mk (.type "tuple") none (.seq #[.str "generation" 928, .str "globs" 929, .str "heap" 930]) #[]
noncomputable abbrev o586 (P : Params) : Obj := .mk (.type "dict") none (.dict #[e42 P, e44 P, e45 P, e46 P, e47 P, e48 P, e49 P, e50 P, e51 P, e52 P, e152 P, e153 P, e154 P] 4) #[]
noncomputable abbrev o587 (P : Params) : Obj := .mk (.type "type") none (.cls (.mk "Stash" [.type "object"] [.ref 525, .type "object"] 524 "Stash" true [] [] false none false)) #[none, none, some (.str "Stash" 859), some (.str "Stash" 867), some (.builtin "object.__new__"), some (.bool true)]
noncomputable abbrev o588 (P : Params) : Obj := .mk (.type "getset_descriptor") none (.fields #[.str "__dict__" 932, .ref 525, .builtin "function.__dict__", .builtin "function.__dict__#set"]) #[]
noncomputable abbrev o589 (P : Params) : Obj := .mk (.type "getset_descriptor") none (.fields #[.str "__weakref__" 934, .ref 525, .builtin "ExceptionGroup.__weakref__", .none]) #[]
noncomputable abbrev o590 (P : Params) : Obj := .mk (.type "super") none (.fields #[.ref 525, .ref 525, .ref 525]) #[]
noncomputable abbrev o591 (P : Params) : Obj := .mk (.type "builtin_function_or_method") none (.fields #[.builtin "object.__init_subclass__", .ref 525]) #[]
noncomputable abbrev o592 (P : Params) : Obj := .mk (.type "dict") none (.dict #[e142 P, e1 P, e2 P, e3 P, e4 P, e5 P, e6 P, e7 P, e8 P, e9 P, e10 P, e11 P, e12 P, e13 P, e14 P, e15 P, e16 P, e17 P, e18 P, e19 P, e20 P, e21 P, e22 P, e23 P, e24 P, e25 P, e26 P, e27 P, e28 P, e29 P, e30 P, e31 P, e32 P, e33 P, e34 P, e35 P, e36 P, e37 P, e38 P, e39 P, e40 P, e41 P, e70 P, e115 P, e143 P, e144 P, e145 P, e146 P, e147 P, e148 P, e149 P, e150 P, e151 P] 53) #[]
noncomputable abbrev o593 (P : Params) : Obj := .mk .none none (.fields #[.int 1 0, .int 0 0, .ref 20, .int 5 0, .int 0 0, .ref 27, .int 14 0, .int 0 0, .ref 48, .int 20 0, .int 0 0, .ref 67, .int 29 0, .int 0 0, .ref 86, .int 34 0, .int 0 0, .ref 108, .int 60 0, .int 0 0, .ref 171, .int 67 0, .int 0 0, .ref 178, .int 74 0, .int 0 0, .ref 185, .int 81 0, .int 0 0, .ref 192, .int 90 0, .int 0 0, .ref 206, .int 93 0, .int 0 0, .ref 213, .int 95 0, .int 0 0, .ref 220, .int 98 0, .int 0 0, .ref 227, .int 101 0, .int 0 0, .ref 234, .int 104 0, .int 0 0, .ref 241, .int 107 0, .int 0 0, .ref 248, .int 111 0, .int 0 0, .ref 255, .int 124 0, .int 0 0, .ref 262, .int 131 0, .int 0 0, .ref 269, .int 134 0, .int 0 0, .ref 276, .int 137 0, .int 0 0, .ref 283, .int 140 0, .int 0 0, .ref 291, .int 144 0, .int 0 0, .ref 298, .int 151 0, .int 0 0, .ref 305, .int 158 0, .int 0 0, .ref 312, .int 163 0, .int 0 0, .ref 319, .int 168 0, .int 0 0, .ref 326, .int 183 0, .int 0 0, .ref 333, .int 241 0, .int 0 0, .ref 429, .int 265 0, .int 0 0, .ref 450, .int 274 0, .int 0 0, .ref 472, .int 307 0, .int 0 0, .ref 537, .int 312 0, .int 0 0, .ref 544, .int 318 0, .int 0 0, .ref 551, .int 320 0, .int 0 0, .ref 558, .int 323 0, .int 0 0, .ref 563, .int 335 0, .int 0 0, .ref 568, .int 337 0, .int 0 0, .ref 573]) #[]
noncomputable abbrev o594 (P : Params) : Obj := .mk (.type "tuple") none (.seq #[.str "main::&" 941, .str "main::`" 942, .str "main::'" 943, .str "main::+" 944, .str "main::1" 945, .str "main::2" 946, .str "main::3" 947, .str "main::4" 948, .str "main::5" 949, .str "main::10" 950, .str "main::40000000000000000000000001" 951]) #[]
noncomputable abbrev o595 (P : Params) : Obj := .mk (.type "tuple") none (.seq #[.str "main::0" 953, .str "main::_" 954, .str "main::a" 955, .str "main::," 956, .str "P::1" 957, .str "main" 958, .str "main::" 959, .str "main::01" 960, .str "main::x1" 961, .str "P::&" 962]) #[]
noncomputable abbrev o596 (P : Params) : Obj := .mk (.type "tuple") none (.seq #[]) #[]
noncomputable abbrev o597 (P : Params) : Obj := .mk .none none (.fields #[]) #[]
noncomputable abbrev o598 (P : Params) : Obj := .mk (.type "tuple") none (.seq #[.str "script" 967, .str "number" 968, .str "cell" 969]) #[]
noncomputable abbrev o599 (P : Params) : Obj := .mk (.type "tuple") none (.seq #[]) #[]
noncomputable abbrev o600 (P : Params) : Obj := .mk .none none (.func (.mk "_law_pen" "_law_pen" (fA f_47) (fB f_47) (fS f_47) 0 [] .none .none .none .none none .none .none 0)) #[]
noncomputable abbrev o601 (P : Params) : Obj := .mk (.type "code") none (.fields #[.str "_law_pen" 964, .str "_law_pen" 965, .str "/claim/cut.py" 966, .int 307 0, .int 1 0, .int 0 0, .int 0 0, .int 3 0, .ref 532, .bool true, .int 181 0, .ref 533, .none, .ref 534, .ref 535, .ref 536, .int 970 0, .int 307 0, .str "/claim/cut.py" 971]) #[]
noncomputable abbrev o602 (P : Params) : Obj := .mk (.type "function") none (.func (.mk "_law_pen" "_law_pen" (fA f_47) (fB f_47) (fS f_47) 3 [] .none .none .none (.str "law_nz0194_01" 939) none (.ref 537) .none 0)) #[]
noncomputable abbrev o603 (P : Params) : Obj := .mk (.type "tuple") none (.seq #[]) #[]
noncomputable abbrev o604 (P : Params) : Obj := .mk .none none (.fields #[]) #[]
noncomputable abbrev o605 (P : Params) : Obj := .mk (.type "tuple") none (.seq #[.str "pen" 976, .str "many" 977, .str "found" 978]) #[]
noncomputable abbrev o606 (P : Params) : Obj := .mk (.type "tuple") none (.seq #[]) #[]
noncomputable abbrev o607 (P : Params) : Obj := .mk .none none (.func (.mk "_law_draw" "_law_draw" (fA f_48) (fB f_48) (fS f_48) 0 [] .none .none .none .none none .none .none 0)) #[]
noncomputable abbrev o608 (P : Params) : Obj := .mk (.type "code") none (.fields #[.str "_law_draw" 973, .str "_law_draw" 974, .str "/claim/cut.py" 975, .int 312 0, .int 2 0, .int 0 0, .int 0 0, .int 3 0, .ref 539, .bool true, .int 181 0, .ref 540, .none, .ref 541, .ref 542, .ref 543, .int 979 0, .int 312 0, .str "/claim/cut.py" 980]) #[]
noncomputable abbrev o609 (P : Params) : Obj := .mk (.type "function") none (.func (.mk "_law_draw" "_law_draw" (fA f_48) (fB f_48) (fS f_48) 3 [] .none .none .none (.str "law_nz0194_01" 939) none (.ref 544) .none 0)) #[]
noncomputable abbrev o610 (P : Params) : Obj := .mk (.type "tuple") none (.seq #[]) #[]
noncomputable abbrev o611 (P : Params) : Obj := .mk .none none (.fields #[]) #[]
noncomputable abbrev o612 (P : Params) : Obj := .mk (.type "tuple") none (.seq #[.str "pen" 985, .str "some" 986]) #[]
noncomputable abbrev o613 (P : Params) : Obj := .mk (.type "tuple") none (.seq #[]) #[]
noncomputable abbrev o614 (P : Params) : Obj := .mk .none none (.func (.mk "_law_pick" "_law_pick" (fA f_49) (fB f_49) (fS f_49) 0 [] .none .none .none .none none .none .none 0)) #[]
noncomputable abbrev o615 (P : Params) : Obj := .mk (.type "code") none (.fields #[.str "_law_pick" 982, .str "_law_pick" 983, .str "/claim/cut.py" 984, .int 318 0, .int 2 0, .int 0 0, .int 0 0, .int 3 0, .ref 546, .bool true, .int 181 0, .ref 547, .none, .ref 548, .ref 549, .ref 550, .int 987 0, .int 318 0, .str "/claim/cut.py" 988]) #[]
noncomputable abbrev o616 (P : Params) : Obj := .mk (.type "function") none (.func (.mk "_law_pick" "_law_pick" (fA f_49) (fB f_49) (fS f_49) 3 [] .none .none .none (.str "law_nz0194_01" 939) none (.ref 551) .none 0)) #[]
noncomputable abbrev o617 (P : Params) : Obj := .mk (.type "tuple") none (.seq #[]) #[]
noncomputable abbrev o618 (P : Params) : Obj := .mk .none none (.fields #[]) #[]
noncomputable abbrev o619 (P : Params) : Obj := .mk (.type "tuple") none (.seq #[.str "pen" 993, .str "size" 994, .str "one" 995, .str "other" 996]) #[]
noncomputable abbrev o620 (P : Params) : Obj := .mk (.type "tuple") none (.seq #[]) #[]
noncomputable abbrev o621 (P : Params) : Obj := .mk .none none (.func (.mk "_law_pair" "_law_pair" (fA f_50) (fB f_50) (fS f_50) 0 [] .none .none .none .none none .none .none 0)) #[]
noncomputable abbrev o622 (P : Params) : Obj := .mk (.type "code") none (.fields #[.str "_law_pair" 990, .str "_law_pair" 991, .str "/claim/cut.py" 992, .int 320 0, .int 2 0, .int 0 0, .int 0 0, .int 3 0, .ref 553, .bool true, .int 181 0, .ref 554, .none, .ref 555, .ref 556, .ref 557, .int 997 0, .int 320 0, .str "/claim/cut.py" 998]) #[]
noncomputable abbrev o623 (P : Params) : Obj := .mk (.type "function") none (.func (.mk "_law_pair" "_law_pair" (fA f_50) (fB f_50) (fS f_50) 3 [] .none .none .none (.str "law_nz0194_01" 939) none (.ref 558) .none 0)) #[]
noncomputable abbrev o624 (P : Params) : Obj := .mk (.type "tuple") none (.seq #[]) #[]
noncomputable abbrev o625 (P : Params) : Obj := .mk .none none (.fields #[]) #[]
noncomputable abbrev o626 (P : Params) : Obj := .mk .none none (.func (.mk "_law_match" "_law_match" (fA f_51) (fB f_51) (fS f_51) 0 [] .none .none .none .none none .none .none 0)) #[]
noncomputable abbrev o627 (P : Params) : Obj := .mk (.type "code") none (.fields #[.str "_law_match" 1000, .str "_law_match" 1001, .str "/claim/cut.py" 1002, .int 323 0, .int 1 0, .int 0 0, .int 0 0, .int 3 0, .ref 560, .bool true, .int 181 0, .ref 561, .none, .none, .none, .ref 562, .int 1003 0, .int 323 0, .str "/claim/cut.py" 1004]) #[]
noncomputable abbrev o628 (P : Params) : Obj := .mk (.type "function") none (.func (.mk "_law_match" "_law_match" (fA f_51) (fB f_51) (fS f_51) 3 [] .none .none .none (.str "law_nz0194_01" 939) none (.ref 563) .none 0)) #[]
noncomputable abbrev o629 (P : Params) : Obj := .mk (.type "tuple") none (.seq #[]) #[]
noncomputable abbrev o630 (P : Params) : Obj := .mk .none none (.fields #[]) #[]
noncomputable abbrev o631 (P : Params) : Obj := .mk .none none (.func (.mk "_law_is_so" "_law_is_so" (fA f_52) (fB f_52) (fS f_52) 0 [] .none .none .none .none none .none .none 0)) #[]
noncomputable abbrev o632 (P : Params) : Obj := .mk (.type "code") none (.fields #[.str "_law_is_so" 1006, .str "_law_is_so" 1007, .str "/claim/cut.py" 1008, .int 335 0, .int 2 0, .int 0 0, .int 0 0, .int 3 0, .ref 565, .bool true, .int 181 0, .ref 566, .none, .none, .none, .ref 567, .int 1009 0, .int 335 0, .str "/claim/cut.py" 1010]) #[]
noncomputable abbrev o633 (P : Params) : Obj := .mk (.type "function") none (.func (.mk "_law_is_so" "_law_is_so" (fA f_52) (fB f_52) (fS f_52) 3 [] .none .none .none (.str "law_nz0194_01" 939) none (.ref 568) .none 0)) #[]
noncomputable abbrev o634 (P : Params) : Obj := .mk (.type "tuple") none (.seq #[]) #[]
noncomputable abbrev o635 (P : Params) : Obj := .mk .none none (.fields #[]) #[]
noncomputable abbrev o636 (P : Params) : Obj := .mk .none none (.func (.mk "law" "law" (fA f_53) (fB f_53) (fS f_53) 0 [] .none .none .none .none none .none .none 0)) #[]
noncomputable abbrev o637 (P : Params) : Obj := .mk (.type "code") none (.fields #[.str "law" 1012, .str "law" 1013, .str "/claim/cut.py" 1014, .int 337 0, .int 1 0, .int 0 0, .int 0 0, .int 3 0, .ref 570, .bool true, .int 181 0, .ref 571, .none, .none, .none, .ref 572, .int 1015 0, .int 337 0, .str "/claim/cut.py" 1016]) #[]
noncomputable abbrev o638 (P : Params) : Obj := .mk (.type "function") none (.func (.mk "law" "law" (fA f_53) (fB f_53) (fS f_53) 3 [] .none .none .none (.str "law_nz0194_01" 939) none (.ref 573) .none 0)) #[]
noncomputable abbrev t47 (P : Params) : BT := .node (boot_o_0 P) (.node (boot_o_1 P) (.node (boot_o_3 P) (.node (boot_o_7 P) .nil .nil) (.node (o43 P) .nil .nil)) (.node (boot_o_5 P) (.node (boot_o_9 P) .nil .nil) (.node (o45 P) .nil .nil))) (.node (boot_o_2 P) (.node (boot_o_4 P) (.node (boot_o_8 P) .nil .nil) (.node (o44 P) .nil .nil)) (.node (boot_o_6 P) (.node (boot_o_10 P) .nil .nil) (.node (o46 P) .nil .nil)))
noncomputable abbrev t78 (P : Params) : BT := .node (boot_o_0 P) (.node (boot_o_1 P) (.node (o49 P) (.node (boot_o_7 P) (.node (o51 P) (.node (o67 P) .nil .nil) .nil) (.node (o59 P) (.node (o75 P) .nil .nil) .nil)) (.node (o43 P) (.node (o55 P) (.node (o71 P) .nil .nil) .nil) (.node (o63 P) .nil .nil))) (.node (boot_o_5 P) (.node (boot_o_9 P) (.node (o53 P) (.node (o69 P) .nil .nil) .nil) (.node (o61 P) (.node (o77 P) .nil .nil) .nil)) (.node (o45 P) (.node (o57 P) (.node (o73 P) .nil .nil) .nil) (.node (o65 P) .nil .nil)))) (.node (boot_o_2 P) (.node (boot_o_4 P) (.node (boot_o_8 P) (.node (o52 P) (.node (o68 P) .nil .nil) .nil) (.node (o60 P) (.node (o76 P) .nil .nil) .nil)) (.node (o50 P) (.node (o56 P) (.node (o72 P) .nil .nil) .nil) (.node (o64 P) .nil .nil))) (.node (boot_o_6 P) (.node (boot_o_10 P) (.node (o54 P) (.node (o70 P) .nil .nil) .nil) (.node (o62 P) (.node (o78 P) .nil .nil) .nil)) (.node (o46 P) (.node (o58 P) (.node (o74 P) .nil .nil) .nil) (.node (o66 P) .nil .nil))))
noncomputable abbrev t100 (P : Params) : BT := .node (boot_o_0 P) (.node (boot_o_1 P) (.node (o79 P) (.node (boot_o_7 P) (.node (o51 P) (.node (o67 P) .nil .nil) (.node (o86 P) .nil .nil)) (.node (o59 P) (.node (o75 P) .nil .nil) (.node (o94 P) .nil .nil))) (.node (o43 P) (.node (o55 P) (.node (o71 P) .nil .nil) (.node (o90 P) .nil .nil)) (.node (o63 P) (.node (o82 P) .nil .nil) (.node (o98 P) .nil .nil)))) (.node (boot_o_5 P) (.node (boot_o_9 P) (.node (o53 P) (.node (o69 P) .nil .nil) (.node (o88 P) .nil .nil)) (.node (o61 P) (.node (o77 P) .nil .nil) (.node (o96 P) .nil .nil))) (.node (o45 P) (.node (o57 P) (.node (o73 P) .nil .nil) (.node (o92 P) .nil .nil)) (.node (o65 P) (.node (o84 P) .nil .nil) (.node (o100 P) .nil .nil))))) (.node (boot_o_2 P) (.node (boot_o_4 P) (.node (boot_o_8 P) (.node (o52 P) (.node (o68 P) .nil .nil) (.node (o87 P) .nil .nil)) (.node (o60 P) (.node (o76 P) .nil .nil) (.node (o95 P) .nil .nil))) (.node (o80 P) (.node (o56 P) (.node (o72 P) .nil .nil) (.node (o91 P) .nil .nil)) (.node (o64 P) (.node (o83 P) .nil .nil) (.node (o99 P) .nil .nil)))) (.node (boot_o_6 P) (.node (boot_o_10 P) (.node (o54 P) (.node (o70 P) .nil .nil) (.node (o89 P) .nil .nil)) (.node (o62 P) (.node (o78 P) .nil .nil) (.node (o97 P) .nil .nil))) (.node (o46 P) (.node (o58 P) (.node (o81 P) .nil .nil) (.node (o93 P) .nil .nil)) (.node (o66 P) (.node (o85 P) .nil .nil) .nil))))
noncomputable abbrev t122 (P : Params) : BT := .node (boot_o_0 P) (.node (boot_o_1 P) (.node (o101 P) (.node (boot_o_7 P) (.node (o51 P) (.node (o67 P) (.node (o105 P) .nil .nil) .nil) (.node (o86 P) (.node (o121 P) .nil .nil) .nil)) (.node (o59 P) (.node (o75 P) (.node (o113 P) .nil .nil) .nil) (.node (o94 P) .nil .nil))) (.node (o43 P) (.node (o55 P) (.node (o71 P) (.node (o109 P) .nil .nil) .nil) (.node (o90 P) .nil .nil)) (.node (o63 P) (.node (o82 P) (.node (o117 P) .nil .nil) .nil) (.node (o98 P) .nil .nil)))) (.node (boot_o_5 P) (.node (boot_o_9 P) (.node (o53 P) (.node (o69 P) (.node (o107 P) .nil .nil) .nil) (.node (o88 P) .nil .nil)) (.node (o61 P) (.node (o77 P) (.node (o115 P) .nil .nil) .nil) (.node (o96 P) .nil .nil))) (.node (o45 P) (.node (o57 P) (.node (o73 P) (.node (o111 P) .nil .nil) .nil) (.node (o92 P) .nil .nil)) (.node (o65 P) (.node (o84 P) (.node (o119 P) .nil .nil) .nil) (.node (o100 P) .nil .nil))))) (.node (boot_o_2 P) (.node (boot_o_4 P) (.node (boot_o_8 P) (.node (o52 P) (.node (o68 P) (.node (o106 P) .nil .nil) .nil) (.node (o87 P) (.node (o122 P) .nil .nil) .nil)) (.node (o60 P) (.node (o76 P) (.node (o114 P) .nil .nil) .nil) (.node (o95 P) .nil .nil))) (.node (o102 P) (.node (o56 P) (.node (o72 P) (.node (o110 P) .nil .nil) .nil) (.node (o91 P) .nil .nil)) (.node (o64 P) (.node (o83 P) (.node (o118 P) .nil .nil) .nil) (.node (o99 P) .nil .nil)))) (.node (boot_o_6 P) (.node (boot_o_10 P) (.node (o54 P) (.node (o70 P) (.node (o108 P) .nil .nil) .nil) (.node (o89 P) .nil .nil)) (.node (o62 P) (.node (o78 P) (.node (o116 P) .nil .nil) .nil) (.node (o97 P) .nil .nil))) (.node (o46 P) (.node (o58 P) (.node (o103 P) (.node (o112 P) .nil .nil) .nil) (.node (o93 P) .nil .nil)) (.node (o66 P) (.node (o85 P) (.node (o120 P) .nil .nil) .nil) (.node (o104 P) .nil .nil)))))
noncomputable abbrev t146 (P : Params) : BT := .node (boot_o_0 P) (.node (boot_o_1 P) (.node (o123 P) (.node (boot_o_7 P) (.node (o51 P) (.node (o67 P) (.node (o105 P) .nil .nil) (.node (o139 P) .nil .nil)) (.node (o86 P) (.node (o121 P) .nil .nil) .nil)) (.node (o59 P) (.node (o75 P) (.node (o113 P) .nil .nil) .nil) (.node (o94 P) (.node (o131 P) .nil .nil) .nil))) (.node (o43 P) (.node (o55 P) (.node (o71 P) (.node (o109 P) .nil .nil) (.node (o143 P) .nil .nil)) (.node (o90 P) (.node (o127 P) .nil .nil) .nil)) (.node (o63 P) (.node (o82 P) (.node (o117 P) .nil .nil) .nil) (.node (o98 P) (.node (o135 P) .nil .nil) .nil)))) (.node (boot_o_5 P) (.node (boot_o_9 P) (.node (o53 P) (.node (o69 P) (.node (o107 P) .nil .nil) (.node (o141 P) .nil .nil)) (.node (o88 P) (.node (o125 P) .nil .nil) .nil)) (.node (o61 P) (.node (o77 P) (.node (o115 P) .nil .nil) .nil) (.node (o96 P) (.node (o133 P) .nil .nil) .nil))) (.node (o45 P) (.node (o57 P) (.node (o73 P) (.node (o111 P) .nil .nil) (.node (o145 P) .nil .nil)) (.node (o92 P) (.node (o129 P) .nil .nil) .nil)) (.node (o65 P) (.node (o84 P) (.node (o119 P) .nil .nil) .nil) (.node (o100 P) (.node (o137 P) .nil .nil) .nil))))) (.node (boot_o_2 P) (.node (boot_o_4 P) (.node (boot_o_8 P) (.node (o52 P) (.node (o68 P) (.node (o106 P) .nil .nil) (.node (o140 P) .nil .nil)) (.node (o87 P) (.node (o122 P) .nil .nil) .nil)) (.node (o60 P) (.node (o76 P) (.node (o114 P) .nil .nil) .nil) (.node (o95 P) (.node (o132 P) .nil .nil) .nil))) (.node (o124 P) (.node (o56 P) (.node (o72 P) (.node (o110 P) .nil .nil) (.node (o144 P) .nil .nil)) (.node (o91 P) (.node (o128 P) .nil .nil) .nil)) (.node (o64 P) (.node (o83 P) (.node (o118 P) .nil .nil) .nil) (.node (o99 P) (.node (o136 P) .nil .nil) .nil)))) (.node (boot_o_6 P) (.node (boot_o_10 P) (.node (o54 P) (.node (o70 P) (.node (o108 P) .nil .nil) (.node (o142 P) .nil .nil)) (.node (o89 P) (.node (o126 P) .nil .nil) .nil)) (.node (o62 P) (.node (o78 P) (.node (o116 P) .nil .nil) .nil) (.node (o97 P) (.node (o134 P) .nil .nil) .nil))) (.node (o46 P) (.node (o58 P) (.node (o103 P) (.node (o112 P) .nil .nil) (.node (o146 P) .nil .nil)) (.node (o93 P) (.node (o130 P) .nil .nil) .nil)) (.node (o66 P) (.node (o85 P) (.node (o120 P) .nil .nil) .nil) (.node (o104 P) (.node (o138 P) .nil .nil) .nil)))))
noncomputable abbrev t211 (P : Params) : BT := .node (boot_o_0 P) (.node (boot_o_1 P) (.node (o147 P) (.node (boot_o_7 P) (.node (o51 P) (.node (o67 P) (.node (o105 P) (.node (o173 P) .nil .nil) .nil) (.node (o139 P) (.node (o205 P) .nil .nil) .nil)) (.node (o86 P) (.node (o121 P) (.node (o189 P) .nil .nil) .nil) (.node (o157 P) .nil .nil))) (.node (o59 P) (.node (o75 P) (.node (o113 P) (.node (o181 P) .nil .nil) .nil) (.node (o149 P) .nil .nil)) (.node (o94 P) (.node (o131 P) (.node (o197 P) .nil .nil) .nil) (.node (o165 P) .nil .nil)))) (.node (o43 P) (.node (o55 P) (.node (o71 P) (.node (o109 P) (.node (o177 P) .nil .nil) .nil) (.node (o143 P) (.node (o209 P) .nil .nil) .nil)) (.node (o90 P) (.node (o127 P) (.node (o193 P) .nil .nil) .nil) (.node (o161 P) .nil .nil))) (.node (o63 P) (.node (o82 P) (.node (o117 P) (.node (o185 P) .nil .nil) .nil) (.node (o153 P) .nil .nil)) (.node (o98 P) (.node (o135 P) (.node (o201 P) .nil .nil) .nil) (.node (o169 P) .nil .nil))))) (.node (boot_o_5 P) (.node (boot_o_9 P) (.node (o53 P) (.node (o69 P) (.node (o107 P) (.node (o175 P) .nil .nil) .nil) (.node (o141 P) (.node (o207 P) .nil .nil) .nil)) (.node (o88 P) (.node (o125 P) (.node (o191 P) .nil .nil) .nil) (.node (o159 P) .nil .nil))) (.node (o61 P) (.node (o77 P) (.node (o115 P) (.node (o183 P) .nil .nil) .nil) (.node (o151 P) .nil .nil)) (.node (o96 P) (.node (o133 P) (.node (o199 P) .nil .nil) .nil) (.node (o167 P) .nil .nil)))) (.node (o45 P) (.node (o57 P) (.node (o73 P) (.node (o111 P) (.node (o179 P) .nil .nil) .nil) (.node (o145 P) (.node (o211 P) .nil .nil) .nil)) (.node (o92 P) (.node (o129 P) (.node (o195 P) .nil .nil) .nil) (.node (o163 P) .nil .nil))) (.node (o65 P) (.node (o84 P) (.node (o119 P) (.node (o187 P) .nil .nil) .nil) (.node (o155 P) .nil .nil)) (.node (o100 P) (.node (o137 P) (.node (o203 P) .nil .nil) .nil) (.node (o171 P) .nil .nil)))))) (.node (boot_o_2 P) (.node (boot_o_4 P) (.node (boot_o_8 P) (.node (o52 P) (.node (o68 P) (.node (o106 P) (.node (o174 P) .nil .nil) .nil) (.node (o140 P) (.node (o206 P) .nil .nil) .nil)) (.node (o87 P) (.node (o122 P) (.node (o190 P) .nil .nil) .nil) (.node (o158 P) .nil .nil))) (.node (o60 P) (.node (o76 P) (.node (o114 P) (.node (o182 P) .nil .nil) .nil) (.node (o150 P) .nil .nil)) (.node (o95 P) (.node (o132 P) (.node (o198 P) .nil .nil) .nil) (.node (o166 P) .nil .nil)))) (.node (o148 P) (.node (o56 P) (.node (o72 P) (.node (o110 P) (.node (o178 P) .nil .nil) .nil) (.node (o144 P) (.node (o210 P) .nil .nil) .nil)) (.node (o91 P) (.node (o128 P) (.node (o194 P) .nil .nil) .nil) (.node (o162 P) .nil .nil))) (.node (o64 P) (.node (o83 P) (.node (o118 P) (.node (o186 P) .nil .nil) .nil) (.node (o154 P) .nil .nil)) (.node (o99 P) (.node (o136 P) (.node (o202 P) .nil .nil) .nil) (.node (o170 P) .nil .nil))))) (.node (boot_o_6 P) (.node (boot_o_10 P) (.node (o54 P) (.node (o70 P) (.node (o108 P) (.node (o176 P) .nil .nil) .nil) (.node (o142 P) (.node (o208 P) .nil .nil) .nil)) (.node (o89 P) (.node (o126 P) (.node (o192 P) .nil .nil) .nil) (.node (o160 P) .nil .nil))) (.node (o62 P) (.node (o78 P) (.node (o116 P) (.node (o184 P) .nil .nil) .nil) (.node (o152 P) .nil .nil)) (.node (o97 P) (.node (o134 P) (.node (o200 P) .nil .nil) .nil) (.node (o168 P) .nil .nil)))) (.node (o46 P) (.node (o58 P) (.node (o103 P) (.node (o112 P) (.node (o180 P) .nil .nil) .nil) (.node (o146 P) .nil .nil)) (.node (o93 P) (.node (o130 P) (.node (o196 P) .nil .nil) .nil) (.node (o164 P) .nil .nil))) (.node (o66 P) (.node (o85 P) (.node (o120 P) (.node (o188 P) .nil .nil) .nil) (.node (o156 P) .nil .nil)) (.node (o104 P) (.node (o138 P) (.node (o204 P) .nil .nil) .nil) (.node (o172 P) .nil .nil))))))
noncomputable abbrev t290 (P : Params) : BT := .node (boot_o_0 P) (.node (boot_o_1 P) (.node (o212 P) (.node (boot_o_7 P) (.node (o51 P) (.node (o67 P) (.node (o105 P) (.node (o173 P) .nil .nil) (.node (o239 P) .nil .nil)) (.node (o139 P) (.node (o205 P) .nil .nil) (.node (o271 P) .nil .nil))) (.node (o86 P) (.node (o121 P) (.node (o189 P) .nil .nil) (.node (o255 P) .nil .nil)) (.node (o157 P) (.node (o223 P) .nil .nil) (.node (o287 P) .nil .nil)))) (.node (o59 P) (.node (o75 P) (.node (o113 P) (.node (o181 P) .nil .nil) (.node (o247 P) .nil .nil)) (.node (o149 P) (.node (o215 P) .nil .nil) (.node (o279 P) .nil .nil))) (.node (o94 P) (.node (o131 P) (.node (o197 P) .nil .nil) (.node (o263 P) .nil .nil)) (.node (o165 P) (.node (o231 P) .nil .nil) .nil)))) (.node (o43 P) (.node (o55 P) (.node (o71 P) (.node (o109 P) (.node (o177 P) .nil .nil) (.node (o243 P) .nil .nil)) (.node (o143 P) (.node (o209 P) .nil .nil) (.node (o275 P) .nil .nil))) (.node (o90 P) (.node (o127 P) (.node (o193 P) .nil .nil) (.node (o259 P) .nil .nil)) (.node (o161 P) (.node (o227 P) .nil .nil) .nil))) (.node (o63 P) (.node (o82 P) (.node (o117 P) (.node (o185 P) .nil .nil) (.node (o251 P) .nil .nil)) (.node (o153 P) (.node (o219 P) .nil .nil) (.node (o283 P) .nil .nil))) (.node (o98 P) (.node (o135 P) (.node (o201 P) .nil .nil) (.node (o267 P) .nil .nil)) (.node (o169 P) (.node (o235 P) .nil .nil) .nil))))) (.node (boot_o_5 P) (.node (boot_o_9 P) (.node (o53 P) (.node (o69 P) (.node (o107 P) (.node (o175 P) .nil .nil) (.node (o241 P) .nil .nil)) (.node (o141 P) (.node (o207 P) .nil .nil) (.node (o273 P) .nil .nil))) (.node (o88 P) (.node (o125 P) (.node (o191 P) .nil .nil) (.node (o257 P) .nil .nil)) (.node (o159 P) (.node (o225 P) .nil .nil) (.node (o289 P) .nil .nil)))) (.node (o61 P) (.node (o77 P) (.node (o115 P) (.node (o183 P) .nil .nil) (.node (o249 P) .nil .nil)) (.node (o151 P) (.node (o217 P) .nil .nil) (.node (o281 P) .nil .nil))) (.node (o96 P) (.node (o133 P) (.node (o199 P) .nil .nil) (.node (o265 P) .nil .nil)) (.node (o167 P) (.node (o233 P) .nil .nil) .nil)))) (.node (o45 P) (.node (o57 P) (.node (o73 P) (.node (o111 P) (.node (o179 P) .nil .nil) (.node (o245 P) .nil .nil)) (.node (o145 P) (.node (o211 P) .nil .nil) (.node (o277 P) .nil .nil))) (.node (o92 P) (.node (o129 P) (.node (o195 P) .nil .nil) (.node (o261 P) .nil .nil)) (.node (o163 P) (.node (o229 P) .nil .nil) .nil))) (.node (o65 P) (.node (o84 P) (.node (o119 P) (.node (o187 P) .nil .nil) (.node (o253 P) .nil .nil)) (.node (o155 P) (.node (o221 P) .nil .nil) (.node (o285 P) .nil .nil))) (.node (o100 P) (.node (o137 P) (.node (o203 P) .nil .nil) (.node (o269 P) .nil .nil)) (.node (o171 P) (.node (o237 P) .nil .nil) .nil)))))) (.node (boot_o_2 P) (.node (boot_o_4 P) (.node (boot_o_8 P) (.node (o52 P) (.node (o68 P) (.node (o106 P) (.node (o174 P) .nil .nil) (.node (o240 P) .nil .nil)) (.node (o140 P) (.node (o206 P) .nil .nil) (.node (o272 P) .nil .nil))) (.node (o87 P) (.node (o122 P) (.node (o190 P) .nil .nil) (.node (o256 P) .nil .nil)) (.node (o158 P) (.node (o224 P) .nil .nil) (.node (o288 P) .nil .nil)))) (.node (o60 P) (.node (o76 P) (.node (o114 P) (.node (o182 P) .nil .nil) (.node (o248 P) .nil .nil)) (.node (o150 P) (.node (o216 P) .nil .nil) (.node (o280 P) .nil .nil))) (.node (o95 P) (.node (o132 P) (.node (o198 P) .nil .nil) (.node (o264 P) .nil .nil)) (.node (o166 P) (.node (o232 P) .nil .nil) .nil)))) (.node (o213 P) (.node (o56 P) (.node (o72 P) (.node (o110 P) (.node (o178 P) .nil .nil) (.node (o244 P) .nil .nil)) (.node (o144 P) (.node (o210 P) .nil .nil) (.node (o276 P) .nil .nil))) (.node (o91 P) (.node (o128 P) (.node (o194 P) .nil .nil) (.node (o260 P) .nil .nil)) (.node (o162 P) (.node (o228 P) .nil .nil) .nil))) (.node (o64 P) (.node (o83 P) (.node (o118 P) (.node (o186 P) .nil .nil) (.node (o252 P) .nil .nil)) (.node (o154 P) (.node (o220 P) .nil .nil) (.node (o284 P) .nil .nil))) (.node (o99 P) (.node (o136 P) (.node (o202 P) .nil .nil) (.node (o268 P) .nil .nil)) (.node (o170 P) (.node (o236 P) .nil .nil) .nil))))) (.node (boot_o_6 P) (.node (boot_o_10 P) (.node (o54 P) (.node (o70 P) (.node (o108 P) (.node (o176 P) .nil .nil) (.node (o242 P) .nil .nil)) (.node (o142 P) (.node (o208 P) .nil .nil) (.node (o274 P) .nil .nil))) (.node (o89 P) (.node (o126 P) (.node (o192 P) .nil .nil) (.node (o258 P) .nil .nil)) (.node (o160 P) (.node (o226 P) .nil .nil) (.node (o290 P) .nil .nil)))) (.node (o62 P) (.node (o78 P) (.node (o116 P) (.node (o184 P) .nil .nil) (.node (o250 P) .nil .nil)) (.node (o152 P) (.node (o218 P) .nil .nil) (.node (o282 P) .nil .nil))) (.node (o97 P) (.node (o134 P) (.node (o200 P) .nil .nil) (.node (o266 P) .nil .nil)) (.node (o168 P) (.node (o234 P) .nil .nil) .nil)))) (.node (o46 P) (.node (o58 P) (.node (o103 P) (.node (o112 P) (.node (o180 P) .nil .nil) (.node (o246 P) .nil .nil)) (.node (o146 P) (.node (o214 P) .nil .nil) (.node (o278 P) .nil .nil))) (.node (o93 P) (.node (o130 P) (.node (o196 P) .nil .nil) (.node (o262 P) .nil .nil)) (.node (o164 P) (.node (o230 P) .nil .nil) .nil))) (.node (o66 P) (.node (o85 P) (.node (o120 P) (.node (o188 P) .nil .nil) (.node (o254 P) .nil .nil)) (.node (o156 P) (.node (o222 P) .nil .nil) (.node (o286 P) .nil .nil))) (.node (o104 P) (.node (o138 P) (.node (o204 P) .nil .nil) (.node (o270 P) .nil .nil)) (.node (o172 P) (.node (o238 P) .nil .nil) .nil))))))
noncomputable abbrev t342 (P : Params) : BT := .node (boot_o_0 P) (.node (boot_o_1 P) (.node (o291 P) (.node (boot_o_7 P) (.node (o51 P) (.node (o67 P) (.node (o105 P) (.node (o173 P) (.node (o305 P) .nil .nil) .nil) (.node (o239 P) .nil .nil)) (.node (o139 P) (.node (o205 P) (.node (o337 P) .nil .nil) .nil) (.node (o271 P) .nil .nil))) (.node (o86 P) (.node (o121 P) (.node (o189 P) (.node (o321 P) .nil .nil) .nil) (.node (o255 P) .nil .nil)) (.node (o157 P) (.node (o223 P) .nil .nil) (.node (o287 P) .nil .nil)))) (.node (o59 P) (.node (o75 P) (.node (o113 P) (.node (o181 P) (.node (o313 P) .nil .nil) .nil) (.node (o247 P) .nil .nil)) (.node (o149 P) (.node (o215 P) .nil .nil) (.node (o279 P) .nil .nil))) (.node (o94 P) (.node (o131 P) (.node (o197 P) (.node (o329 P) .nil .nil) .nil) (.node (o263 P) .nil .nil)) (.node (o165 P) (.node (o231 P) .nil .nil) (.node (o297 P) .nil .nil))))) (.node (o43 P) (.node (o55 P) (.node (o71 P) (.node (o109 P) (.node (o177 P) (.node (o309 P) .nil .nil) .nil) (.node (o243 P) .nil .nil)) (.node (o143 P) (.node (o209 P) (.node (o341 P) .nil .nil) .nil) (.node (o275 P) .nil .nil))) (.node (o90 P) (.node (o127 P) (.node (o193 P) (.node (o325 P) .nil .nil) .nil) (.node (o259 P) .nil .nil)) (.node (o161 P) (.node (o227 P) .nil .nil) (.node (o293 P) .nil .nil)))) (.node (o63 P) (.node (o82 P) (.node (o117 P) (.node (o185 P) (.node (o317 P) .nil .nil) .nil) (.node (o251 P) .nil .nil)) (.node (o153 P) (.node (o219 P) .nil .nil) (.node (o283 P) .nil .nil))) (.node (o98 P) (.node (o135 P) (.node (o201 P) (.node (o333 P) .nil .nil) .nil) (.node (o267 P) .nil .nil)) (.node (o169 P) (.node (o235 P) .nil .nil) (.node (o301 P) .nil .nil)))))) (.node (boot_o_5 P) (.node (boot_o_9 P) (.node (o53 P) (.node (o69 P) (.node (o107 P) (.node (o175 P) (.node (o307 P) .nil .nil) .nil) (.node (o241 P) .nil .nil)) (.node (o141 P) (.node (o207 P) (.node (o339 P) .nil .nil) .nil) (.node (o273 P) .nil .nil))) (.node (o88 P) (.node (o125 P) (.node (o191 P) (.node (o323 P) .nil .nil) .nil) (.node (o257 P) .nil .nil)) (.node (o159 P) (.node (o225 P) .nil .nil) (.node (o289 P) .nil .nil)))) (.node (o61 P) (.node (o77 P) (.node (o115 P) (.node (o183 P) (.node (o315 P) .nil .nil) .nil) (.node (o249 P) .nil .nil)) (.node (o151 P) (.node (o217 P) .nil .nil) (.node (o281 P) .nil .nil))) (.node (o96 P) (.node (o133 P) (.node (o199 P) (.node (o331 P) .nil .nil) .nil) (.node (o265 P) .nil .nil)) (.node (o167 P) (.node (o233 P) .nil .nil) (.node (o299 P) .nil .nil))))) (.node (o45 P) (.node (o57 P) (.node (o73 P) (.node (o111 P) (.node (o179 P) (.node (o311 P) .nil .nil) .nil) (.node (o245 P) .nil .nil)) (.node (o145 P) (.node (o211 P) .nil .nil) (.node (o277 P) .nil .nil))) (.node (o92 P) (.node (o129 P) (.node (o195 P) (.node (o327 P) .nil .nil) .nil) (.node (o261 P) .nil .nil)) (.node (o163 P) (.node (o229 P) .nil .nil) (.node (o295 P) .nil .nil)))) (.node (o65 P) (.node (o84 P) (.node (o119 P) (.node (o187 P) (.node (o319 P) .nil .nil) .nil) (.node (o253 P) .nil .nil)) (.node (o155 P) (.node (o221 P) .nil .nil) (.node (o285 P) .nil .nil))) (.node (o100 P) (.node (o137 P) (.node (o203 P) (.node (o335 P) .nil .nil) .nil) (.node (o269 P) .nil .nil)) (.node (o171 P) (.node (o237 P) .nil .nil) (.node (o303 P) .nil .nil))))))) (.node (boot_o_2 P) (.node (boot_o_4 P) (.node (boot_o_8 P) (.node (o52 P) (.node (o68 P) (.node (o106 P) (.node (o174 P) (.node (o306 P) .nil .nil) .nil) (.node (o240 P) .nil .nil)) (.node (o140 P) (.node (o206 P) (.node (o338 P) .nil .nil) .nil) (.node (o272 P) .nil .nil))) (.node (o87 P) (.node (o122 P) (.node (o190 P) (.node (o322 P) .nil .nil) .nil) (.node (o256 P) .nil .nil)) (.node (o158 P) (.node (o224 P) .nil .nil) (.node (o288 P) .nil .nil)))) (.node (o60 P) (.node (o76 P) (.node (o114 P) (.node (o182 P) (.node (o314 P) .nil .nil) .nil) (.node (o248 P) .nil .nil)) (.node (o150 P) (.node (o216 P) .nil .nil) (.node (o280 P) .nil .nil))) (.node (o95 P) (.node (o132 P) (.node (o198 P) (.node (o330 P) .nil .nil) .nil) (.node (o264 P) .nil .nil)) (.node (o166 P) (.node (o232 P) .nil .nil) (.node (o298 P) .nil .nil))))) (.node (o292 P) (.node (o56 P) (.node (o72 P) (.node (o110 P) (.node (o178 P) (.node (o310 P) .nil .nil) .nil) (.node (o244 P) .nil .nil)) (.node (o144 P) (.node (o210 P) (.node (o342 P) .nil .nil) .nil) (.node (o276 P) .nil .nil))) (.node (o91 P) (.node (o128 P) (.node (o194 P) (.node (o326 P) .nil .nil) .nil) (.node (o260 P) .nil .nil)) (.node (o162 P) (.node (o228 P) .nil .nil) (.node (o294 P) .nil .nil)))) (.node (o64 P) (.node (o83 P) (.node (o118 P) (.node (o186 P) (.node (o318 P) .nil .nil) .nil) (.node (o252 P) .nil .nil)) (.node (o154 P) (.node (o220 P) .nil .nil) (.node (o284 P) .nil .nil))) (.node (o99 P) (.node (o136 P) (.node (o202 P) (.node (o334 P) .nil .nil) .nil) (.node (o268 P) .nil .nil)) (.node (o170 P) (.node (o236 P) .nil .nil) (.node (o302 P) .nil .nil)))))) (.node (boot_o_6 P) (.node (boot_o_10 P) (.node (o54 P) (.node (o70 P) (.node (o108 P) (.node (o176 P) (.node (o308 P) .nil .nil) .nil) (.node (o242 P) .nil .nil)) (.node (o142 P) (.node (o208 P) (.node (o340 P) .nil .nil) .nil) (.node (o274 P) .nil .nil))) (.node (o89 P) (.node (o126 P) (.node (o192 P) (.node (o324 P) .nil .nil) .nil) (.node (o258 P) .nil .nil)) (.node (o160 P) (.node (o226 P) .nil .nil) (.node (o290 P) .nil .nil)))) (.node (o62 P) (.node (o78 P) (.node (o116 P) (.node (o184 P) (.node (o316 P) .nil .nil) .nil) (.node (o250 P) .nil .nil)) (.node (o152 P) (.node (o218 P) .nil .nil) (.node (o282 P) .nil .nil))) (.node (o97 P) (.node (o134 P) (.node (o200 P) (.node (o332 P) .nil .nil) .nil) (.node (o266 P) .nil .nil)) (.node (o168 P) (.node (o234 P) .nil .nil) (.node (o300 P) .nil .nil))))) (.node (o46 P) (.node (o58 P) (.node (o103 P) (.node (o112 P) (.node (o180 P) (.node (o312 P) .nil .nil) .nil) (.node (o246 P) .nil .nil)) (.node (o146 P) (.node (o214 P) .nil .nil) (.node (o278 P) .nil .nil))) (.node (o93 P) (.node (o130 P) (.node (o196 P) (.node (o328 P) .nil .nil) .nil) (.node (o262 P) .nil .nil)) (.node (o164 P) (.node (o230 P) .nil .nil) (.node (o296 P) .nil .nil)))) (.node (o66 P) (.node (o85 P) (.node (o120 P) (.node (o188 P) (.node (o320 P) .nil .nil) .nil) (.node (o254 P) .nil .nil)) (.node (o156 P) (.node (o222 P) .nil .nil) (.node (o286 P) .nil .nil))) (.node (o104 P) (.node (o138 P) (.node (o204 P) (.node (o336 P) .nil .nil) .nil) (.node (o270 P) .nil .nil)) (.node (o172 P) (.node (o238 P) .nil .nil) (.node (o304 P) .nil .nil)))))))
noncomputable abbrev t381 (P : Params) : BT := .node (boot_o_0 P) (.node (boot_o_1 P) (.node (o345 P) (.node (boot_o_7 P) (.node (o51 P) (.node (o67 P) (.node (o105 P) (.node (o173 P) (.node (o305 P) .nil .nil) .nil) (.node (o239 P) (.node (o373 P) .nil .nil) .nil)) (.node (o139 P) (.node (o205 P) (.node (o337 P) .nil .nil) .nil) (.node (o271 P) .nil .nil))) (.node (o86 P) (.node (o121 P) (.node (o189 P) (.node (o321 P) .nil .nil) .nil) (.node (o255 P) .nil .nil)) (.node (o157 P) (.node (o223 P) (.node (o357 P) .nil .nil) .nil) (.node (o287 P) .nil .nil)))) (.node (o59 P) (.node (o75 P) (.node (o113 P) (.node (o181 P) (.node (o313 P) .nil .nil) .nil) (.node (o247 P) (.node (o381 P) .nil .nil) .nil)) (.node (o149 P) (.node (o215 P) (.node (o349 P) .nil .nil) .nil) (.node (o279 P) .nil .nil))) (.node (o94 P) (.node (o131 P) (.node (o197 P) (.node (o329 P) .nil .nil) .nil) (.node (o263 P) .nil .nil)) (.node (o165 P) (.node (o231 P) (.node (o365 P) .nil .nil) .nil) (.node (o297 P) .nil .nil))))) (.node (o43 P) (.node (o55 P) (.node (o71 P) (.node (o109 P) (.node (o177 P) (.node (o309 P) .nil .nil) .nil) (.node (o243 P) (.node (o377 P) .nil .nil) .nil)) (.node (o143 P) (.node (o209 P) (.node (o341 P) .nil .nil) .nil) (.node (o275 P) .nil .nil))) (.node (o90 P) (.node (o127 P) (.node (o193 P) (.node (o325 P) .nil .nil) .nil) (.node (o259 P) .nil .nil)) (.node (o161 P) (.node (o227 P) (.node (o361 P) .nil .nil) .nil) (.node (o293 P) .nil .nil)))) (.node (o63 P) (.node (o82 P) (.node (o117 P) (.node (o185 P) (.node (o317 P) .nil .nil) .nil) (.node (o251 P) .nil .nil)) (.node (o153 P) (.node (o219 P) (.node (o353 P) .nil .nil) .nil) (.node (o283 P) .nil .nil))) (.node (o98 P) (.node (o135 P) (.node (o201 P) (.node (o333 P) .nil .nil) .nil) (.node (o267 P) .nil .nil)) (.node (o169 P) (.node (o235 P) (.node (o369 P) .nil .nil) .nil) (.node (o301 P) .nil .nil)))))) (.node (boot_o_5 P) (.node (boot_o_9 P) (.node (o53 P) (.node (o69 P) (.node (o107 P) (.node (o175 P) (.node (o307 P) .nil .nil) .nil) (.node (o241 P) (.node (o375 P) .nil .nil) .nil)) (.node (o141 P) (.node (o207 P) (.node (o339 P) .nil .nil) .nil) (.node (o273 P) .nil .nil))) (.node (o88 P) (.node (o125 P) (.node (o191 P) (.node (o323 P) .nil .nil) .nil) (.node (o257 P) .nil .nil)) (.node (o159 P) (.node (o225 P) (.node (o359 P) .nil .nil) .nil) (.node (o289 P) .nil .nil)))) (.node (o61 P) (.node (o77 P) (.node (o115 P) (.node (o183 P) (.node (o315 P) .nil .nil) .nil) (.node (o249 P) .nil .nil)) (.node (o151 P) (.node (o217 P) (.node (o351 P) .nil .nil) .nil) (.node (o281 P) .nil .nil))) (.node (o96 P) (.node (o133 P) (.node (o199 P) (.node (o331 P) .nil .nil) .nil) (.node (o265 P) .nil .nil)) (.node (o167 P) (.node (o233 P) (.node (o367 P) .nil .nil) .nil) (.node (o299 P) .nil .nil))))) (.node (o45 P) (.node (o57 P) (.node (o73 P) (.node (o111 P) (.node (o179 P) (.node (o311 P) .nil .nil) .nil) (.node (o245 P) (.node (o379 P) .nil .nil) .nil)) (.node (o145 P) (.node (o211 P) (.node (o347 P) .nil .nil) .nil) (.node (o277 P) .nil .nil))) (.node (o92 P) (.node (o129 P) (.node (o195 P) (.node (o327 P) .nil .nil) .nil) (.node (o261 P) .nil .nil)) (.node (o163 P) (.node (o229 P) (.node (o363 P) .nil .nil) .nil) (.node (o295 P) .nil .nil)))) (.node (o65 P) (.node (o84 P) (.node (o119 P) (.node (o187 P) (.node (o319 P) .nil .nil) .nil) (.node (o253 P) .nil .nil)) (.node (o155 P) (.node (o221 P) (.node (o355 P) .nil .nil) .nil) (.node (o285 P) .nil .nil))) (.node (o100 P) (.node (o137 P) (.node (o203 P) (.node (o335 P) .nil .nil) .nil) (.node (o269 P) .nil .nil)) (.node (o171 P) (.node (o237 P) (.node (o371 P) .nil .nil) .nil) (.node (o303 P) .nil .nil))))))) (.node (boot_o_2 P) (.node (boot_o_4 P) (.node (boot_o_8 P) (.node (o52 P) (.node (o68 P) (.node (o106 P) (.node (o174 P) (.node (o306 P) .nil .nil) .nil) (.node (o240 P) (.node (o374 P) .nil .nil) .nil)) (.node (o140 P) (.node (o206 P) (.node (o338 P) .nil .nil) .nil) (.node (o272 P) .nil .nil))) (.node (o87 P) (.node (o122 P) (.node (o190 P) (.node (o322 P) .nil .nil) .nil) (.node (o256 P) .nil .nil)) (.node (o158 P) (.node (o224 P) (.node (o358 P) .nil .nil) .nil) (.node (o288 P) .nil .nil)))) (.node (o60 P) (.node (o76 P) (.node (o114 P) (.node (o182 P) (.node (o314 P) .nil .nil) .nil) (.node (o248 P) .nil .nil)) (.node (o150 P) (.node (o216 P) (.node (o350 P) .nil .nil) .nil) (.node (o280 P) .nil .nil))) (.node (o95 P) (.node (o132 P) (.node (o198 P) (.node (o330 P) .nil .nil) .nil) (.node (o264 P) .nil .nil)) (.node (o166 P) (.node (o232 P) (.node (o366 P) .nil .nil) .nil) (.node (o298 P) .nil .nil))))) (.node (o346 P) (.node (o56 P) (.node (o72 P) (.node (o110 P) (.node (o178 P) (.node (o310 P) .nil .nil) .nil) (.node (o244 P) (.node (o378 P) .nil .nil) .nil)) (.node (o144 P) (.node (o210 P) (.node (o342 P) .nil .nil) .nil) (.node (o276 P) .nil .nil))) (.node (o91 P) (.node (o128 P) (.node (o194 P) (.node (o326 P) .nil .nil) .nil) (.node (o260 P) .nil .nil)) (.node (o162 P) (.node (o228 P) (.node (o362 P) .nil .nil) .nil) (.node (o294 P) .nil .nil)))) (.node (o64 P) (.node (o83 P) (.node (o118 P) (.node (o186 P) (.node (o318 P) .nil .nil) .nil) (.node (o252 P) .nil .nil)) (.node (o154 P) (.node (o220 P) (.node (o354 P) .nil .nil) .nil) (.node (o284 P) .nil .nil))) (.node (o99 P) (.node (o136 P) (.node (o202 P) (.node (o334 P) .nil .nil) .nil) (.node (o268 P) .nil .nil)) (.node (o170 P) (.node (o236 P) (.node (o370 P) .nil .nil) .nil) (.node (o302 P) .nil .nil)))))) (.node (boot_o_6 P) (.node (boot_o_10 P) (.node (o54 P) (.node (o70 P) (.node (o108 P) (.node (o176 P) (.node (o308 P) .nil .nil) .nil) (.node (o242 P) (.node (o376 P) .nil .nil) .nil)) (.node (o142 P) (.node (o208 P) (.node (o340 P) .nil .nil) .nil) (.node (o274 P) .nil .nil))) (.node (o89 P) (.node (o126 P) (.node (o192 P) (.node (o324 P) .nil .nil) .nil) (.node (o258 P) .nil .nil)) (.node (o160 P) (.node (o226 P) (.node (o360 P) .nil .nil) .nil) (.node (o290 P) .nil .nil)))) (.node (o62 P) (.node (o78 P) (.node (o116 P) (.node (o184 P) (.node (o316 P) .nil .nil) .nil) (.node (o250 P) .nil .nil)) (.node (o152 P) (.node (o218 P) (.node (o352 P) .nil .nil) .nil) (.node (o282 P) .nil .nil))) (.node (o97 P) (.node (o134 P) (.node (o200 P) (.node (o332 P) .nil .nil) .nil) (.node (o266 P) .nil .nil)) (.node (o168 P) (.node (o234 P) (.node (o368 P) .nil .nil) .nil) (.node (o300 P) .nil .nil))))) (.node (o46 P) (.node (o58 P) (.node (o103 P) (.node (o112 P) (.node (o180 P) (.node (o312 P) .nil .nil) .nil) (.node (o246 P) (.node (o380 P) .nil .nil) .nil)) (.node (o146 P) (.node (o214 P) (.node (o348 P) .nil .nil) .nil) (.node (o278 P) .nil .nil))) (.node (o93 P) (.node (o130 P) (.node (o196 P) (.node (o328 P) .nil .nil) .nil) (.node (o262 P) .nil .nil)) (.node (o164 P) (.node (o230 P) (.node (o364 P) .nil .nil) .nil) (.node (o296 P) .nil .nil)))) (.node (o66 P) (.node (o85 P) (.node (o120 P) (.node (o188 P) (.node (o320 P) .nil .nil) .nil) (.node (o254 P) .nil .nil)) (.node (o156 P) (.node (o222 P) (.node (o356 P) .nil .nil) .nil) (.node (o286 P) .nil .nil))) (.node (o104 P) (.node (o138 P) (.node (o204 P) (.node (o336 P) .nil .nil) .nil) (.node (o270 P) .nil .nil)) (.node (o172 P) (.node (o238 P) (.node (o372 P) .nil .nil) .nil) (.node (o304 P) .nil .nil)))))))
noncomputable abbrev t479 (P : Params) : BT := .node (boot_o_0 P) (.node (boot_o_1 P) (.node (o382 P) (.node (boot_o_7 P) (.node (o51 P) (.node (o67 P) (.node (o105 P) (.node (o173 P) (.node (o305 P) .nil .nil) (.node (o439 P) .nil .nil)) (.node (o239 P) (.node (o373 P) .nil .nil) .nil)) (.node (o139 P) (.node (o205 P) (.node (o337 P) .nil .nil) (.node (o471 P) .nil .nil)) (.node (o271 P) (.node (o407 P) .nil .nil) .nil))) (.node (o86 P) (.node (o121 P) (.node (o189 P) (.node (o321 P) .nil .nil) (.node (o455 P) .nil .nil)) (.node (o255 P) (.node (o391 P) .nil .nil) .nil)) (.node (o157 P) (.node (o223 P) (.node (o357 P) .nil .nil) .nil) (.node (o287 P) (.node (o423 P) .nil .nil) .nil)))) (.node (o59 P) (.node (o75 P) (.node (o113 P) (.node (o181 P) (.node (o313 P) .nil .nil) (.node (o447 P) .nil .nil)) (.node (o247 P) (.node (o381 P) .nil .nil) .nil)) (.node (o149 P) (.node (o215 P) (.node (o349 P) .nil .nil) (.node (o479 P) .nil .nil)) (.node (o279 P) (.node (o415 P) .nil .nil) .nil))) (.node (o94 P) (.node (o131 P) (.node (o197 P) (.node (o329 P) .nil .nil) (.node (o463 P) .nil .nil)) (.node (o263 P) (.node (o399 P) .nil .nil) .nil)) (.node (o165 P) (.node (o231 P) (.node (o365 P) .nil .nil) .nil) (.node (o297 P) (.node (o431 P) .nil .nil) .nil))))) (.node (o43 P) (.node (o55 P) (.node (o71 P) (.node (o109 P) (.node (o177 P) (.node (o309 P) .nil .nil) (.node (o443 P) .nil .nil)) (.node (o243 P) (.node (o377 P) .nil .nil) .nil)) (.node (o143 P) (.node (o209 P) (.node (o341 P) .nil .nil) (.node (o475 P) .nil .nil)) (.node (o275 P) (.node (o411 P) .nil .nil) .nil))) (.node (o90 P) (.node (o127 P) (.node (o193 P) (.node (o325 P) .nil .nil) (.node (o459 P) .nil .nil)) (.node (o259 P) (.node (o395 P) .nil .nil) .nil)) (.node (o161 P) (.node (o227 P) (.node (o361 P) .nil .nil) .nil) (.node (o293 P) (.node (o427 P) .nil .nil) .nil)))) (.node (o63 P) (.node (o82 P) (.node (o117 P) (.node (o185 P) (.node (o317 P) .nil .nil) (.node (o451 P) .nil .nil)) (.node (o251 P) (.node (o387 P) .nil .nil) .nil)) (.node (o153 P) (.node (o219 P) (.node (o353 P) .nil .nil) .nil) (.node (o283 P) (.node (o419 P) .nil .nil) .nil))) (.node (o98 P) (.node (o135 P) (.node (o201 P) (.node (o333 P) .nil .nil) (.node (o467 P) .nil .nil)) (.node (o267 P) (.node (o403 P) .nil .nil) .nil)) (.node (o169 P) (.node (o235 P) (.node (o369 P) .nil .nil) .nil) (.node (o301 P) (.node (o435 P) .nil .nil) .nil)))))) (.node (boot_o_5 P) (.node (boot_o_9 P) (.node (o53 P) (.node (o69 P) (.node (o107 P) (.node (o175 P) (.node (o307 P) .nil .nil) (.node (o441 P) .nil .nil)) (.node (o241 P) (.node (o375 P) .nil .nil) .nil)) (.node (o141 P) (.node (o207 P) (.node (o339 P) .nil .nil) (.node (o473 P) .nil .nil)) (.node (o273 P) (.node (o409 P) .nil .nil) .nil))) (.node (o88 P) (.node (o125 P) (.node (o191 P) (.node (o323 P) .nil .nil) (.node (o457 P) .nil .nil)) (.node (o257 P) (.node (o393 P) .nil .nil) .nil)) (.node (o159 P) (.node (o225 P) (.node (o359 P) .nil .nil) .nil) (.node (o289 P) (.node (o425 P) .nil .nil) .nil)))) (.node (o61 P) (.node (o77 P) (.node (o115 P) (.node (o183 P) (.node (o315 P) .nil .nil) (.node (o449 P) .nil .nil)) (.node (o249 P) (.node (o385 P) .nil .nil) .nil)) (.node (o151 P) (.node (o217 P) (.node (o351 P) .nil .nil) .nil) (.node (o281 P) (.node (o417 P) .nil .nil) .nil))) (.node (o96 P) (.node (o133 P) (.node (o199 P) (.node (o331 P) .nil .nil) (.node (o465 P) .nil .nil)) (.node (o265 P) (.node (o401 P) .nil .nil) .nil)) (.node (o167 P) (.node (o233 P) (.node (o367 P) .nil .nil) .nil) (.node (o299 P) (.node (o433 P) .nil .nil) .nil))))) (.node (o45 P) (.node (o57 P) (.node (o73 P) (.node (o111 P) (.node (o179 P) (.node (o311 P) .nil .nil) (.node (o445 P) .nil .nil)) (.node (o245 P) (.node (o379 P) .nil .nil) .nil)) (.node (o145 P) (.node (o211 P) (.node (o347 P) .nil .nil) (.node (o477 P) .nil .nil)) (.node (o277 P) (.node (o413 P) .nil .nil) .nil))) (.node (o92 P) (.node (o129 P) (.node (o195 P) (.node (o327 P) .nil .nil) (.node (o461 P) .nil .nil)) (.node (o261 P) (.node (o397 P) .nil .nil) .nil)) (.node (o163 P) (.node (o229 P) (.node (o363 P) .nil .nil) .nil) (.node (o295 P) (.node (o429 P) .nil .nil) .nil)))) (.node (o65 P) (.node (o84 P) (.node (o119 P) (.node (o187 P) (.node (o319 P) .nil .nil) (.node (o453 P) .nil .nil)) (.node (o253 P) (.node (o389 P) .nil .nil) .nil)) (.node (o155 P) (.node (o221 P) (.node (o355 P) .nil .nil) .nil) (.node (o285 P) (.node (o421 P) .nil .nil) .nil))) (.node (o100 P) (.node (o137 P) (.node (o203 P) (.node (o335 P) .nil .nil) (.node (o469 P) .nil .nil)) (.node (o269 P) (.node (o405 P) .nil .nil) .nil)) (.node (o171 P) (.node (o237 P) (.node (o371 P) .nil .nil) .nil) (.node (o303 P) (.node (o437 P) .nil .nil) .nil))))))) (.node (boot_o_2 P) (.node (boot_o_4 P) (.node (boot_o_8 P) (.node (o52 P) (.node (o68 P) (.node (o106 P) (.node (o174 P) (.node (o306 P) .nil .nil) (.node (o440 P) .nil .nil)) (.node (o240 P) (.node (o374 P) .nil .nil) .nil)) (.node (o140 P) (.node (o206 P) (.node (o338 P) .nil .nil) (.node (o472 P) .nil .nil)) (.node (o272 P) (.node (o408 P) .nil .nil) .nil))) (.node (o87 P) (.node (o122 P) (.node (o190 P) (.node (o322 P) .nil .nil) (.node (o456 P) .nil .nil)) (.node (o256 P) (.node (o392 P) .nil .nil) .nil)) (.node (o158 P) (.node (o224 P) (.node (o358 P) .nil .nil) .nil) (.node (o288 P) (.node (o424 P) .nil .nil) .nil)))) (.node (o60 P) (.node (o76 P) (.node (o114 P) (.node (o182 P) (.node (o314 P) .nil .nil) (.node (o448 P) .nil .nil)) (.node (o248 P) (.node (o384 P) .nil .nil) .nil)) (.node (o150 P) (.node (o216 P) (.node (o350 P) .nil .nil) .nil) (.node (o280 P) (.node (o416 P) .nil .nil) .nil))) (.node (o95 P) (.node (o132 P) (.node (o198 P) (.node (o330 P) .nil .nil) (.node (o464 P) .nil .nil)) (.node (o264 P) (.node (o400 P) .nil .nil) .nil)) (.node (o166 P) (.node (o232 P) (.node (o366 P) .nil .nil) .nil) (.node (o298 P) (.node (o432 P) .nil .nil) .nil))))) (.node (o383 P) (.node (o56 P) (.node (o72 P) (.node (o110 P) (.node (o178 P) (.node (o310 P) .nil .nil) (.node (o444 P) .nil .nil)) (.node (o244 P) (.node (o378 P) .nil .nil) .nil)) (.node (o144 P) (.node (o210 P) (.node (o342 P) .nil .nil) (.node (o476 P) .nil .nil)) (.node (o276 P) (.node (o412 P) .nil .nil) .nil))) (.node (o91 P) (.node (o128 P) (.node (o194 P) (.node (o326 P) .nil .nil) (.node (o460 P) .nil .nil)) (.node (o260 P) (.node (o396 P) .nil .nil) .nil)) (.node (o162 P) (.node (o228 P) (.node (o362 P) .nil .nil) .nil) (.node (o294 P) (.node (o428 P) .nil .nil) .nil)))) (.node (o64 P) (.node (o83 P) (.node (o118 P) (.node (o186 P) (.node (o318 P) .nil .nil) (.node (o452 P) .nil .nil)) (.node (o252 P) (.node (o388 P) .nil .nil) .nil)) (.node (o154 P) (.node (o220 P) (.node (o354 P) .nil .nil) .nil) (.node (o284 P) (.node (o420 P) .nil .nil) .nil))) (.node (o99 P) (.node (o136 P) (.node (o202 P) (.node (o334 P) .nil .nil) (.node (o468 P) .nil .nil)) (.node (o268 P) (.node (o404 P) .nil .nil) .nil)) (.node (o170 P) (.node (o236 P) (.node (o370 P) .nil .nil) .nil) (.node (o302 P) (.node (o436 P) .nil .nil) .nil)))))) (.node (boot_o_6 P) (.node (boot_o_10 P) (.node (o54 P) (.node (o70 P) (.node (o108 P) (.node (o176 P) (.node (o308 P) .nil .nil) (.node (o442 P) .nil .nil)) (.node (o242 P) (.node (o376 P) .nil .nil) .nil)) (.node (o142 P) (.node (o208 P) (.node (o340 P) .nil .nil) (.node (o474 P) .nil .nil)) (.node (o274 P) (.node (o410 P) .nil .nil) .nil))) (.node (o89 P) (.node (o126 P) (.node (o192 P) (.node (o324 P) .nil .nil) (.node (o458 P) .nil .nil)) (.node (o258 P) (.node (o394 P) .nil .nil) .nil)) (.node (o160 P) (.node (o226 P) (.node (o360 P) .nil .nil) .nil) (.node (o290 P) (.node (o426 P) .nil .nil) .nil)))) (.node (o62 P) (.node (o78 P) (.node (o116 P) (.node (o184 P) (.node (o316 P) .nil .nil) (.node (o450 P) .nil .nil)) (.node (o250 P) (.node (o386 P) .nil .nil) .nil)) (.node (o152 P) (.node (o218 P) (.node (o352 P) .nil .nil) .nil) (.node (o282 P) (.node (o418 P) .nil .nil) .nil))) (.node (o97 P) (.node (o134 P) (.node (o200 P) (.node (o332 P) .nil .nil) (.node (o466 P) .nil .nil)) (.node (o266 P) (.node (o402 P) .nil .nil) .nil)) (.node (o168 P) (.node (o234 P) (.node (o368 P) .nil .nil) .nil) (.node (o300 P) (.node (o434 P) .nil .nil) .nil))))) (.node (o46 P) (.node (o58 P) (.node (o103 P) (.node (o112 P) (.node (o180 P) (.node (o312 P) .nil .nil) (.node (o446 P) .nil .nil)) (.node (o246 P) (.node (o380 P) .nil .nil) .nil)) (.node (o146 P) (.node (o214 P) (.node (o348 P) .nil .nil) (.node (o478 P) .nil .nil)) (.node (o278 P) (.node (o414 P) .nil .nil) .nil))) (.node (o93 P) (.node (o130 P) (.node (o196 P) (.node (o328 P) .nil .nil) (.node (o462 P) .nil .nil)) (.node (o262 P) (.node (o398 P) .nil .nil) .nil)) (.node (o164 P) (.node (o230 P) (.node (o364 P) .nil .nil) .nil) (.node (o296 P) (.node (o430 P) .nil .nil) .nil)))) (.node (o66 P) (.node (o85 P) (.node (o120 P) (.node (o188 P) (.node (o320 P) .nil .nil) (.node (o454 P) .nil .nil)) (.node (o254 P) (.node (o390 P) .nil .nil) .nil)) (.node (o156 P) (.node (o222 P) (.node (o356 P) .nil .nil) .nil) (.node (o286 P) (.node (o422 P) .nil .nil) .nil))) (.node (o104 P) (.node (o138 P) (.node (o204 P) (.node (o336 P) .nil .nil) (.node (o470 P) .nil .nil)) (.node (o270 P) (.node (o406 P) .nil .nil) .nil)) (.node (o172 P) (.node (o238 P) (.node (o372 P) .nil .nil) .nil) (.node (o304 P) (.node (o438 P) .nil .nil) .nil)))))))
noncomputable abbrev t502 (P : Params) : BT := .node (boot_o_0 P) (.node (boot_o_1 P) (.node (o480 P) (.node (boot_o_7 P) (.node (o51 P) (.node (o67 P) (.node (o105 P) (.node (o173 P) (.node (o305 P) .nil .nil) (.node (o439 P) .nil .nil)) (.node (o239 P) (.node (o373 P) .nil .nil) .nil)) (.node (o139 P) (.node (o205 P) (.node (o337 P) .nil .nil) (.node (o471 P) .nil .nil)) (.node (o271 P) (.node (o407 P) .nil .nil) .nil))) (.node (o86 P) (.node (o121 P) (.node (o189 P) (.node (o321 P) .nil .nil) (.node (o455 P) .nil .nil)) (.node (o255 P) (.node (o391 P) .nil .nil) .nil)) (.node (o157 P) (.node (o223 P) (.node (o357 P) .nil .nil) (.node (o489 P) .nil .nil)) (.node (o287 P) (.node (o423 P) .nil .nil) .nil)))) (.node (o59 P) (.node (o75 P) (.node (o113 P) (.node (o181 P) (.node (o313 P) .nil .nil) (.node (o447 P) .nil .nil)) (.node (o247 P) (.node (o381 P) .nil .nil) .nil)) (.node (o149 P) (.node (o215 P) (.node (o349 P) .nil .nil) (.node (o479 P) .nil .nil)) (.node (o279 P) (.node (o415 P) .nil .nil) .nil))) (.node (o94 P) (.node (o131 P) (.node (o197 P) (.node (o329 P) .nil .nil) (.node (o463 P) .nil .nil)) (.node (o263 P) (.node (o399 P) .nil .nil) .nil)) (.node (o165 P) (.node (o231 P) (.node (o365 P) .nil .nil) (.node (o497 P) .nil .nil)) (.node (o297 P) (.node (o431 P) .nil .nil) .nil))))) (.node (o43 P) (.node (o55 P) (.node (o71 P) (.node (o109 P) (.node (o177 P) (.node (o309 P) .nil .nil) (.node (o443 P) .nil .nil)) (.node (o243 P) (.node (o377 P) .nil .nil) .nil)) (.node (o143 P) (.node (o209 P) (.node (o341 P) .nil .nil) (.node (o475 P) .nil .nil)) (.node (o275 P) (.node (o411 P) .nil .nil) .nil))) (.node (o90 P) (.node (o127 P) (.node (o193 P) (.node (o325 P) .nil .nil) (.node (o459 P) .nil .nil)) (.node (o259 P) (.node (o395 P) .nil .nil) .nil)) (.node (o161 P) (.node (o227 P) (.node (o361 P) .nil .nil) (.node (o493 P) .nil .nil)) (.node (o293 P) (.node (o427 P) .nil .nil) .nil)))) (.node (o63 P) (.node (o82 P) (.node (o117 P) (.node (o185 P) (.node (o317 P) .nil .nil) (.node (o451 P) .nil .nil)) (.node (o251 P) (.node (o387 P) .nil .nil) .nil)) (.node (o153 P) (.node (o219 P) (.node (o353 P) .nil .nil) (.node (o485 P) .nil .nil)) (.node (o283 P) (.node (o419 P) .nil .nil) .nil))) (.node (o98 P) (.node (o135 P) (.node (o201 P) (.node (o333 P) .nil .nil) (.node (o467 P) .nil .nil)) (.node (o267 P) (.node (o403 P) .nil .nil) .nil)) (.node (o169 P) (.node (o235 P) (.node (o369 P) .nil .nil) (.node (o501 P) .nil .nil)) (.node (o301 P) (.node (o435 P) .nil .nil) .nil)))))) (.node (boot_o_5 P) (.node (boot_o_9 P) (.node (o53 P) (.node (o69 P) (.node (o107 P) (.node (o175 P) (.node (o307 P) .nil .nil) (.node (o441 P) .nil .nil)) (.node (o241 P) (.node (o375 P) .nil .nil) .nil)) (.node (o141 P) (.node (o207 P) (.node (o339 P) .nil .nil) (.node (o473 P) .nil .nil)) (.node (o273 P) (.node (o409 P) .nil .nil) .nil))) (.node (o88 P) (.node (o125 P) (.node (o191 P) (.node (o323 P) .nil .nil) (.node (o457 P) .nil .nil)) (.node (o257 P) (.node (o393 P) .nil .nil) .nil)) (.node (o159 P) (.node (o225 P) (.node (o359 P) .nil .nil) (.node (o491 P) .nil .nil)) (.node (o289 P) (.node (o425 P) .nil .nil) .nil)))) (.node (o61 P) (.node (o77 P) (.node (o115 P) (.node (o183 P) (.node (o315 P) .nil .nil) (.node (o449 P) .nil .nil)) (.node (o249 P) (.node (o385 P) .nil .nil) .nil)) (.node (o151 P) (.node (o217 P) (.node (o351 P) .nil .nil) (.node (o483 P) .nil .nil)) (.node (o281 P) (.node (o417 P) .nil .nil) .nil))) (.node (o96 P) (.node (o133 P) (.node (o199 P) (.node (o331 P) .nil .nil) (.node (o465 P) .nil .nil)) (.node (o265 P) (.node (o401 P) .nil .nil) .nil)) (.node (o167 P) (.node (o233 P) (.node (o367 P) .nil .nil) (.node (o499 P) .nil .nil)) (.node (o299 P) (.node (o433 P) .nil .nil) .nil))))) (.node (o45 P) (.node (o57 P) (.node (o73 P) (.node (o111 P) (.node (o179 P) (.node (o311 P) .nil .nil) (.node (o445 P) .nil .nil)) (.node (o245 P) (.node (o379 P) .nil .nil) .nil)) (.node (o145 P) (.node (o211 P) (.node (o347 P) .nil .nil) (.node (o477 P) .nil .nil)) (.node (o277 P) (.node (o413 P) .nil .nil) .nil))) (.node (o92 P) (.node (o129 P) (.node (o195 P) (.node (o327 P) .nil .nil) (.node (o461 P) .nil .nil)) (.node (o261 P) (.node (o397 P) .nil .nil) .nil)) (.node (o163 P) (.node (o229 P) (.node (o363 P) .nil .nil) (.node (o495 P) .nil .nil)) (.node (o295 P) (.node (o429 P) .nil .nil) .nil)))) (.node (o65 P) (.node (o84 P) (.node (o119 P) (.node (o187 P) (.node (o319 P) .nil .nil) (.node (o453 P) .nil .nil)) (.node (o253 P) (.node (o389 P) .nil .nil) .nil)) (.node (o155 P) (.node (o221 P) (.node (o355 P) .nil .nil) (.node (o487 P) .nil .nil)) (.node (o285 P) (.node (o421 P) .nil .nil) .nil))) (.node (o100 P) (.node (o137 P) (.node (o203 P) (.node (o335 P) .nil .nil) (.node (o469 P) .nil .nil)) (.node (o269 P) (.node (o405 P) .nil .nil) .nil)) (.node (o171 P) (.node (o237 P) (.node (o371 P) .nil .nil) .nil) (.node (o303 P) (.node (o437 P) .nil .nil) .nil))))))) (.node (boot_o_2 P) (.node (boot_o_4 P) (.node (boot_o_8 P) (.node (o52 P) (.node (o68 P) (.node (o106 P) (.node (o174 P) (.node (o306 P) .nil .nil) (.node (o440 P) .nil .nil)) (.node (o240 P) (.node (o374 P) .nil .nil) .nil)) (.node (o140 P) (.node (o206 P) (.node (o338 P) .nil .nil) (.node (o472 P) .nil .nil)) (.node (o272 P) (.node (o408 P) .nil .nil) .nil))) (.node (o87 P) (.node (o122 P) (.node (o190 P) (.node (o322 P) .nil .nil) (.node (o456 P) .nil .nil)) (.node (o256 P) (.node (o392 P) .nil .nil) .nil)) (.node (o158 P) (.node (o224 P) (.node (o358 P) .nil .nil) (.node (o490 P) .nil .nil)) (.node (o288 P) (.node (o424 P) .nil .nil) .nil)))) (.node (o60 P) (.node (o76 P) (.node (o114 P) (.node (o182 P) (.node (o314 P) .nil .nil) (.node (o448 P) .nil .nil)) (.node (o248 P) (.node (o384 P) .nil .nil) .nil)) (.node (o150 P) (.node (o216 P) (.node (o350 P) .nil .nil) (.node (o482 P) .nil .nil)) (.node (o280 P) (.node (o416 P) .nil .nil) .nil))) (.node (o95 P) (.node (o132 P) (.node (o198 P) (.node (o330 P) .nil .nil) (.node (o464 P) .nil .nil)) (.node (o264 P) (.node (o400 P) .nil .nil) .nil)) (.node (o166 P) (.node (o232 P) (.node (o366 P) .nil .nil) (.node (o498 P) .nil .nil)) (.node (o298 P) (.node (o432 P) .nil .nil) .nil))))) (.node (o481 P) (.node (o56 P) (.node (o72 P) (.node (o110 P) (.node (o178 P) (.node (o310 P) .nil .nil) (.node (o444 P) .nil .nil)) (.node (o244 P) (.node (o378 P) .nil .nil) .nil)) (.node (o144 P) (.node (o210 P) (.node (o342 P) .nil .nil) (.node (o476 P) .nil .nil)) (.node (o276 P) (.node (o412 P) .nil .nil) .nil))) (.node (o91 P) (.node (o128 P) (.node (o194 P) (.node (o326 P) .nil .nil) (.node (o460 P) .nil .nil)) (.node (o260 P) (.node (o396 P) .nil .nil) .nil)) (.node (o162 P) (.node (o228 P) (.node (o362 P) .nil .nil) (.node (o494 P) .nil .nil)) (.node (o294 P) (.node (o428 P) .nil .nil) .nil)))) (.node (o64 P) (.node (o83 P) (.node (o118 P) (.node (o186 P) (.node (o318 P) .nil .nil) (.node (o452 P) .nil .nil)) (.node (o252 P) (.node (o388 P) .nil .nil) .nil)) (.node (o154 P) (.node (o220 P) (.node (o354 P) .nil .nil) (.node (o486 P) .nil .nil)) (.node (o284 P) (.node (o420 P) .nil .nil) .nil))) (.node (o99 P) (.node (o136 P) (.node (o202 P) (.node (o334 P) .nil .nil) (.node (o468 P) .nil .nil)) (.node (o268 P) (.node (o404 P) .nil .nil) .nil)) (.node (o170 P) (.node (o236 P) (.node (o370 P) .nil .nil) (.node (o502 P) .nil .nil)) (.node (o302 P) (.node (o436 P) .nil .nil) .nil)))))) (.node (boot_o_6 P) (.node (boot_o_10 P) (.node (o54 P) (.node (o70 P) (.node (o108 P) (.node (o176 P) (.node (o308 P) .nil .nil) (.node (o442 P) .nil .nil)) (.node (o242 P) (.node (o376 P) .nil .nil) .nil)) (.node (o142 P) (.node (o208 P) (.node (o340 P) .nil .nil) (.node (o474 P) .nil .nil)) (.node (o274 P) (.node (o410 P) .nil .nil) .nil))) (.node (o89 P) (.node (o126 P) (.node (o192 P) (.node (o324 P) .nil .nil) (.node (o458 P) .nil .nil)) (.node (o258 P) (.node (o394 P) .nil .nil) .nil)) (.node (o160 P) (.node (o226 P) (.node (o360 P) .nil .nil) (.node (o492 P) .nil .nil)) (.node (o290 P) (.node (o426 P) .nil .nil) .nil)))) (.node (o62 P) (.node (o78 P) (.node (o116 P) (.node (o184 P) (.node (o316 P) .nil .nil) (.node (o450 P) .nil .nil)) (.node (o250 P) (.node (o386 P) .nil .nil) .nil)) (.node (o152 P) (.node (o218 P) (.node (o352 P) .nil .nil) (.node (o484 P) .nil .nil)) (.node (o282 P) (.node (o418 P) .nil .nil) .nil))) (.node (o97 P) (.node (o134 P) (.node (o200 P) (.node (o332 P) .nil .nil) (.node (o466 P) .nil .nil)) (.node (o266 P) (.node (o402 P) .nil .nil) .nil)) (.node (o168 P) (.node (o234 P) (.node (o368 P) .nil .nil) (.node (o500 P) .nil .nil)) (.node (o300 P) (.node (o434 P) .nil .nil) .nil))))) (.node (o46 P) (.node (o58 P) (.node (o103 P) (.node (o112 P) (.node (o180 P) (.node (o312 P) .nil .nil) (.node (o446 P) .nil .nil)) (.node (o246 P) (.node (o380 P) .nil .nil) .nil)) (.node (o146 P) (.node (o214 P) (.node (o348 P) .nil .nil) (.node (o478 P) .nil .nil)) (.node (o278 P) (.node (o414 P) .nil .nil) .nil))) (.node (o93 P) (.node (o130 P) (.node (o196 P) (.node (o328 P) .nil .nil) (.node (o462 P) .nil .nil)) (.node (o262 P) (.node (o398 P) .nil .nil) .nil)) (.node (o164 P) (.node (o230 P) (.node (o364 P) .nil .nil) (.node (o496 P) .nil .nil)) (.node (o296 P) (.node (o430 P) .nil .nil) .nil)))) (.node (o66 P) (.node (o85 P) (.node (o120 P) (.node (o188 P) (.node (o320 P) .nil .nil) (.node (o454 P) .nil .nil)) (.node (o254 P) (.node (o390 P) .nil .nil) .nil)) (.node (o156 P) (.node (o222 P) (.node (o356 P) .nil .nil) (.node (o488 P) .nil .nil)) (.node (o286 P) (.node (o422 P) .nil .nil) .nil))) (.node (o104 P) (.node (o138 P) (.node (o204 P) (.node (o336 P) .nil .nil) (.node (o470 P) .nil .nil)) (.node (o270 P) (.node (o406 P) .nil .nil) .nil)) (.node (o172 P) (.node (o238 P) (.node (o372 P) .nil .nil) .nil) (.node (o304 P) (.node (o438 P) .nil .nil) .nil)))))))
noncomputable abbrev t526 (P : Params) : BT := .node (boot_o_0 P) (.node (boot_o_1 P) (.node (o503 P) (.node (boot_o_7 P) (.node (o51 P) (.node (o67 P) (.node (o105 P) (.node (o173 P) (.node (o305 P) .nil .nil) (.node (o439 P) .nil .nil)) (.node (o239 P) (.node (o373 P) .nil .nil) (.node (o507 P) .nil .nil))) (.node (o139 P) (.node (o205 P) (.node (o337 P) .nil .nil) (.node (o471 P) .nil .nil)) (.node (o271 P) (.node (o407 P) .nil .nil) .nil))) (.node (o86 P) (.node (o121 P) (.node (o189 P) (.node (o321 P) .nil .nil) (.node (o455 P) .nil .nil)) (.node (o255 P) (.node (o391 P) .nil .nil) (.node (o523 P) .nil .nil))) (.node (o157 P) (.node (o223 P) (.node (o357 P) .nil .nil) (.node (o489 P) .nil .nil)) (.node (o287 P) (.node (o423 P) .nil .nil) .nil)))) (.node (o59 P) (.node (o75 P) (.node (o113 P) (.node (o181 P) (.node (o313 P) .nil .nil) (.node (o447 P) .nil .nil)) (.node (o247 P) (.node (o381 P) .nil .nil) (.node (o515 P) .nil .nil))) (.node (o149 P) (.node (o215 P) (.node (o349 P) .nil .nil) (.node (o479 P) .nil .nil)) (.node (o279 P) (.node (o415 P) .nil .nil) .nil))) (.node (o94 P) (.node (o131 P) (.node (o197 P) (.node (o329 P) .nil .nil) (.node (o463 P) .nil .nil)) (.node (o263 P) (.node (o399 P) .nil .nil) .nil)) (.node (o165 P) (.node (o231 P) (.node (o365 P) .nil .nil) (.node (o497 P) .nil .nil)) (.node (o297 P) (.node (o431 P) .nil .nil) .nil))))) (.node (o43 P) (.node (o55 P) (.node (o71 P) (.node (o109 P) (.node (o177 P) (.node (o309 P) .nil .nil) (.node (o443 P) .nil .nil)) (.node (o243 P) (.node (o377 P) .nil .nil) (.node (o511 P) .nil .nil))) (.node (o143 P) (.node (o209 P) (.node (o341 P) .nil .nil) (.node (o475 P) .nil .nil)) (.node (o275 P) (.node (o411 P) .nil .nil) .nil))) (.node (o90 P) (.node (o127 P) (.node (o193 P) (.node (o325 P) .nil .nil) (.node (o459 P) .nil .nil)) (.node (o259 P) (.node (o395 P) .nil .nil) .nil)) (.node (o161 P) (.node (o227 P) (.node (o361 P) .nil .nil) (.node (o493 P) .nil .nil)) (.node (o293 P) (.node (o427 P) .nil .nil) .nil)))) (.node (o63 P) (.node (o82 P) (.node (o117 P) (.node (o185 P) (.node (o317 P) .nil .nil) (.node (o451 P) .nil .nil)) (.node (o251 P) (.node (o387 P) .nil .nil) (.node (o519 P) .nil .nil))) (.node (o153 P) (.node (o219 P) (.node (o353 P) .nil .nil) (.node (o485 P) .nil .nil)) (.node (o283 P) (.node (o419 P) .nil .nil) .nil))) (.node (o98 P) (.node (o135 P) (.node (o201 P) (.node (o333 P) .nil .nil) (.node (o467 P) .nil .nil)) (.node (o267 P) (.node (o403 P) .nil .nil) .nil)) (.node (o169 P) (.node (o235 P) (.node (o369 P) .nil .nil) (.node (o501 P) .nil .nil)) (.node (o301 P) (.node (o435 P) .nil .nil) .nil)))))) (.node (boot_o_5 P) (.node (boot_o_9 P) (.node (o53 P) (.node (o69 P) (.node (o107 P) (.node (o175 P) (.node (o307 P) .nil .nil) (.node (o441 P) .nil .nil)) (.node (o241 P) (.node (o375 P) .nil .nil) (.node (o509 P) .nil .nil))) (.node (o141 P) (.node (o207 P) (.node (o339 P) .nil .nil) (.node (o473 P) .nil .nil)) (.node (o273 P) (.node (o409 P) .nil .nil) .nil))) (.node (o88 P) (.node (o125 P) (.node (o191 P) (.node (o323 P) .nil .nil) (.node (o457 P) .nil .nil)) (.node (o257 P) (.node (o393 P) .nil .nil) (.node (o525 P) .nil .nil))) (.node (o159 P) (.node (o225 P) (.node (o359 P) .nil .nil) (.node (o491 P) .nil .nil)) (.node (o289 P) (.node (o425 P) .nil .nil) .nil)))) (.node (o61 P) (.node (o77 P) (.node (o115 P) (.node (o183 P) (.node (o315 P) .nil .nil) (.node (o449 P) .nil .nil)) (.node (o249 P) (.node (o385 P) .nil .nil) (.node (o517 P) .nil .nil))) (.node (o151 P) (.node (o217 P) (.node (o351 P) .nil .nil) (.node (o483 P) .nil .nil)) (.node (o281 P) (.node (o417 P) .nil .nil) .nil))) (.node (o96 P) (.node (o133 P) (.node (o199 P) (.node (o331 P) .nil .nil) (.node (o465 P) .nil .nil)) (.node (o265 P) (.node (o401 P) .nil .nil) .nil)) (.node (o167 P) (.node (o233 P) (.node (o367 P) .nil .nil) (.node (o499 P) .nil .nil)) (.node (o299 P) (.node (o433 P) .nil .nil) .nil))))) (.node (o45 P) (.node (o57 P) (.node (o73 P) (.node (o111 P) (.node (o179 P) (.node (o311 P) .nil .nil) (.node (o445 P) .nil .nil)) (.node (o245 P) (.node (o379 P) .nil .nil) (.node (o513 P) .nil .nil))) (.node (o145 P) (.node (o211 P) (.node (o347 P) .nil .nil) (.node (o477 P) .nil .nil)) (.node (o277 P) (.node (o413 P) .nil .nil) .nil))) (.node (o92 P) (.node (o129 P) (.node (o195 P) (.node (o327 P) .nil .nil) (.node (o461 P) .nil .nil)) (.node (o261 P) (.node (o397 P) .nil .nil) .nil)) (.node (o163 P) (.node (o229 P) (.node (o363 P) .nil .nil) (.node (o495 P) .nil .nil)) (.node (o295 P) (.node (o429 P) .nil .nil) .nil)))) (.node (o65 P) (.node (o84 P) (.node (o119 P) (.node (o187 P) (.node (o319 P) .nil .nil) (.node (o453 P) .nil .nil)) (.node (o253 P) (.node (o389 P) .nil .nil) (.node (o521 P) .nil .nil))) (.node (o155 P) (.node (o221 P) (.node (o355 P) .nil .nil) (.node (o487 P) .nil .nil)) (.node (o285 P) (.node (o421 P) .nil .nil) .nil))) (.node (o100 P) (.node (o137 P) (.node (o203 P) (.node (o335 P) .nil .nil) (.node (o469 P) .nil .nil)) (.node (o269 P) (.node (o405 P) .nil .nil) .nil)) (.node (o171 P) (.node (o237 P) (.node (o371 P) .nil .nil) (.node (o505 P) .nil .nil)) (.node (o303 P) (.node (o437 P) .nil .nil) .nil))))))) (.node (boot_o_2 P) (.node (boot_o_4 P) (.node (boot_o_8 P) (.node (o52 P) (.node (o68 P) (.node (o106 P) (.node (o174 P) (.node (o306 P) .nil .nil) (.node (o440 P) .nil .nil)) (.node (o240 P) (.node (o374 P) .nil .nil) (.node (o508 P) .nil .nil))) (.node (o140 P) (.node (o206 P) (.node (o338 P) .nil .nil) (.node (o472 P) .nil .nil)) (.node (o272 P) (.node (o408 P) .nil .nil) .nil))) (.node (o87 P) (.node (o122 P) (.node (o190 P) (.node (o322 P) .nil .nil) (.node (o456 P) .nil .nil)) (.node (o256 P) (.node (o392 P) .nil .nil) (.node (o524 P) .nil .nil))) (.node (o158 P) (.node (o224 P) (.node (o358 P) .nil .nil) (.node (o490 P) .nil .nil)) (.node (o288 P) (.node (o424 P) .nil .nil) .nil)))) (.node (o60 P) (.node (o76 P) (.node (o114 P) (.node (o182 P) (.node (o314 P) .nil .nil) (.node (o448 P) .nil .nil)) (.node (o248 P) (.node (o384 P) .nil .nil) (.node (o516 P) .nil .nil))) (.node (o150 P) (.node (o216 P) (.node (o350 P) .nil .nil) (.node (o482 P) .nil .nil)) (.node (o280 P) (.node (o416 P) .nil .nil) .nil))) (.node (o95 P) (.node (o132 P) (.node (o198 P) (.node (o330 P) .nil .nil) (.node (o464 P) .nil .nil)) (.node (o264 P) (.node (o400 P) .nil .nil) .nil)) (.node (o166 P) (.node (o232 P) (.node (o366 P) .nil .nil) (.node (o498 P) .nil .nil)) (.node (o298 P) (.node (o432 P) .nil .nil) .nil))))) (.node (o504 P) (.node (o56 P) (.node (o72 P) (.node (o110 P) (.node (o178 P) (.node (o310 P) .nil .nil) (.node (o444 P) .nil .nil)) (.node (o244 P) (.node (o378 P) .nil .nil) (.node (o512 P) .nil .nil))) (.node (o144 P) (.node (o210 P) (.node (o342 P) .nil .nil) (.node (o476 P) .nil .nil)) (.node (o276 P) (.node (o412 P) .nil .nil) .nil))) (.node (o91 P) (.node (o128 P) (.node (o194 P) (.node (o326 P) .nil .nil) (.node (o460 P) .nil .nil)) (.node (o260 P) (.node (o396 P) .nil .nil) .nil)) (.node (o162 P) (.node (o228 P) (.node (o362 P) .nil .nil) (.node (o494 P) .nil .nil)) (.node (o294 P) (.node (o428 P) .nil .nil) .nil)))) (.node (o64 P) (.node (o83 P) (.node (o118 P) (.node (o186 P) (.node (o318 P) .nil .nil) (.node (o452 P) .nil .nil)) (.node (o252 P) (.node (o388 P) .nil .nil) (.node (o520 P) .nil .nil))) (.node (o154 P) (.node (o220 P) (.node (o354 P) .nil .nil) (.node (o486 P) .nil .nil)) (.node (o284 P) (.node (o420 P) .nil .nil) .nil))) (.node (o99 P) (.node (o136 P) (.node (o202 P) (.node (o334 P) .nil .nil) (.node (o468 P) .nil .nil)) (.node (o268 P) (.node (o404 P) .nil .nil) .nil)) (.node (o170 P) (.node (o236 P) (.node (o370 P) .nil .nil) (.node (o502 P) .nil .nil)) (.node (o302 P) (.node (o436 P) .nil .nil) .nil)))))) (.node (boot_o_6 P) (.node (boot_o_10 P) (.node (o54 P) (.node (o70 P) (.node (o108 P) (.node (o176 P) (.node (o308 P) .nil .nil) (.node (o442 P) .nil .nil)) (.node (o242 P) (.node (o376 P) .nil .nil) (.node (o510 P) .nil .nil))) (.node (o142 P) (.node (o208 P) (.node (o340 P) .nil .nil) (.node (o474 P) .nil .nil)) (.node (o274 P) (.node (o410 P) .nil .nil) .nil))) (.node (o89 P) (.node (o126 P) (.node (o192 P) (.node (o324 P) .nil .nil) (.node (o458 P) .nil .nil)) (.node (o258 P) (.node (o394 P) .nil .nil) (.node (o526 P) .nil .nil))) (.node (o160 P) (.node (o226 P) (.node (o360 P) .nil .nil) (.node (o492 P) .nil .nil)) (.node (o290 P) (.node (o426 P) .nil .nil) .nil)))) (.node (o62 P) (.node (o78 P) (.node (o116 P) (.node (o184 P) (.node (o316 P) .nil .nil) (.node (o450 P) .nil .nil)) (.node (o250 P) (.node (o386 P) .nil .nil) (.node (o518 P) .nil .nil))) (.node (o152 P) (.node (o218 P) (.node (o352 P) .nil .nil) (.node (o484 P) .nil .nil)) (.node (o282 P) (.node (o418 P) .nil .nil) .nil))) (.node (o97 P) (.node (o134 P) (.node (o200 P) (.node (o332 P) .nil .nil) (.node (o466 P) .nil .nil)) (.node (o266 P) (.node (o402 P) .nil .nil) .nil)) (.node (o168 P) (.node (o234 P) (.node (o368 P) .nil .nil) (.node (o500 P) .nil .nil)) (.node (o300 P) (.node (o434 P) .nil .nil) .nil))))) (.node (o46 P) (.node (o58 P) (.node (o103 P) (.node (o112 P) (.node (o180 P) (.node (o312 P) .nil .nil) (.node (o446 P) .nil .nil)) (.node (o246 P) (.node (o380 P) .nil .nil) (.node (o514 P) .nil .nil))) (.node (o146 P) (.node (o214 P) (.node (o348 P) .nil .nil) (.node (o478 P) .nil .nil)) (.node (o278 P) (.node (o414 P) .nil .nil) .nil))) (.node (o93 P) (.node (o130 P) (.node (o196 P) (.node (o328 P) .nil .nil) (.node (o462 P) .nil .nil)) (.node (o262 P) (.node (o398 P) .nil .nil) .nil)) (.node (o164 P) (.node (o230 P) (.node (o364 P) .nil .nil) (.node (o496 P) .nil .nil)) (.node (o296 P) (.node (o430 P) .nil .nil) .nil)))) (.node (o66 P) (.node (o85 P) (.node (o120 P) (.node (o188 P) (.node (o320 P) .nil .nil) (.node (o454 P) .nil .nil)) (.node (o254 P) (.node (o390 P) .nil .nil) (.node (o522 P) .nil .nil))) (.node (o156 P) (.node (o222 P) (.node (o356 P) .nil .nil) (.node (o488 P) .nil .nil)) (.node (o286 P) (.node (o422 P) .nil .nil) .nil))) (.node (o104 P) (.node (o138 P) (.node (o204 P) (.node (o336 P) .nil .nil) (.node (o470 P) .nil .nil)) (.node (o270 P) (.node (o406 P) .nil .nil) .nil)) (.node (o172 P) (.node (o238 P) (.node (o372 P) .nil .nil) (.node (o506 P) .nil .nil)) (.node (o304 P) (.node (o438 P) .nil .nil) .nil)))))))
noncomputable abbrev t591 (P : Params) : BT := .node (boot_o_0 P) (.node (boot_o_1 P) (.node (o527 P) (.node (boot_o_7 P) (.node (o51 P) (.node (o67 P) (.node (o105 P) (.node (o173 P) (.node (o305 P) (.node (o573 P) .nil .nil) .nil) (.node (o439 P) .nil .nil)) (.node (o239 P) (.node (o373 P) .nil .nil) (.node (o507 P) .nil .nil))) (.node (o139 P) (.node (o205 P) (.node (o337 P) .nil .nil) (.node (o471 P) .nil .nil)) (.node (o271 P) (.node (o407 P) .nil .nil) (.node (o541 P) .nil .nil)))) (.node (o86 P) (.node (o121 P) (.node (o189 P) (.node (o321 P) (.node (o589 P) .nil .nil) .nil) (.node (o455 P) .nil .nil)) (.node (o255 P) (.node (o391 P) .nil .nil) (.node (o523 P) .nil .nil))) (.node (o157 P) (.node (o223 P) (.node (o357 P) .nil .nil) (.node (o489 P) .nil .nil)) (.node (o287 P) (.node (o423 P) .nil .nil) (.node (o557 P) .nil .nil))))) (.node (o59 P) (.node (o75 P) (.node (o113 P) (.node (o181 P) (.node (o313 P) (.node (o581 P) .nil .nil) .nil) (.node (o447 P) .nil .nil)) (.node (o247 P) (.node (o381 P) .nil .nil) (.node (o515 P) .nil .nil))) (.node (o149 P) (.node (o215 P) (.node (o349 P) .nil .nil) (.node (o479 P) .nil .nil)) (.node (o279 P) (.node (o415 P) .nil .nil) (.node (o549 P) .nil .nil)))) (.node (o94 P) (.node (o131 P) (.node (o197 P) (.node (o329 P) .nil .nil) (.node (o463 P) .nil .nil)) (.node (o263 P) (.node (o399 P) .nil .nil) (.node (o533 P) .nil .nil))) (.node (o165 P) (.node (o231 P) (.node (o365 P) .nil .nil) (.node (o497 P) .nil .nil)) (.node (o297 P) (.node (o431 P) .nil .nil) (.node (o565 P) .nil .nil)))))) (.node (o43 P) (.node (o55 P) (.node (o71 P) (.node (o109 P) (.node (o177 P) (.node (o309 P) (.node (o577 P) .nil .nil) .nil) (.node (o443 P) .nil .nil)) (.node (o243 P) (.node (o377 P) .nil .nil) (.node (o511 P) .nil .nil))) (.node (o143 P) (.node (o209 P) (.node (o341 P) .nil .nil) (.node (o475 P) .nil .nil)) (.node (o275 P) (.node (o411 P) .nil .nil) (.node (o545 P) .nil .nil)))) (.node (o90 P) (.node (o127 P) (.node (o193 P) (.node (o325 P) .nil .nil) (.node (o459 P) .nil .nil)) (.node (o259 P) (.node (o395 P) .nil .nil) (.node (o529 P) .nil .nil))) (.node (o161 P) (.node (o227 P) (.node (o361 P) .nil .nil) (.node (o493 P) .nil .nil)) (.node (o293 P) (.node (o427 P) .nil .nil) (.node (o561 P) .nil .nil))))) (.node (o63 P) (.node (o82 P) (.node (o117 P) (.node (o185 P) (.node (o317 P) (.node (o585 P) .nil .nil) .nil) (.node (o451 P) .nil .nil)) (.node (o251 P) (.node (o387 P) .nil .nil) (.node (o519 P) .nil .nil))) (.node (o153 P) (.node (o219 P) (.node (o353 P) .nil .nil) (.node (o485 P) .nil .nil)) (.node (o283 P) (.node (o419 P) .nil .nil) (.node (o553 P) .nil .nil)))) (.node (o98 P) (.node (o135 P) (.node (o201 P) (.node (o333 P) .nil .nil) (.node (o467 P) .nil .nil)) (.node (o267 P) (.node (o403 P) .nil .nil) (.node (o537 P) .nil .nil))) (.node (o169 P) (.node (o235 P) (.node (o369 P) .nil .nil) (.node (o501 P) .nil .nil)) (.node (o301 P) (.node (o435 P) .nil .nil) (.node (o569 P) .nil .nil))))))) (.node (boot_o_5 P) (.node (boot_o_9 P) (.node (o53 P) (.node (o69 P) (.node (o107 P) (.node (o175 P) (.node (o307 P) (.node (o575 P) .nil .nil) .nil) (.node (o441 P) .nil .nil)) (.node (o241 P) (.node (o375 P) .nil .nil) (.node (o509 P) .nil .nil))) (.node (o141 P) (.node (o207 P) (.node (o339 P) .nil .nil) (.node (o473 P) .nil .nil)) (.node (o273 P) (.node (o409 P) .nil .nil) (.node (o543 P) .nil .nil)))) (.node (o88 P) (.node (o125 P) (.node (o191 P) (.node (o323 P) (.node (o591 P) .nil .nil) .nil) (.node (o457 P) .nil .nil)) (.node (o257 P) (.node (o393 P) .nil .nil) (.node (o525 P) .nil .nil))) (.node (o159 P) (.node (o225 P) (.node (o359 P) .nil .nil) (.node (o491 P) .nil .nil)) (.node (o289 P) (.node (o425 P) .nil .nil) (.node (o559 P) .nil .nil))))) (.node (o61 P) (.node (o77 P) (.node (o115 P) (.node (o183 P) (.node (o315 P) (.node (o583 P) .nil .nil) .nil) (.node (o449 P) .nil .nil)) (.node (o249 P) (.node (o385 P) .nil .nil) (.node (o517 P) .nil .nil))) (.node (o151 P) (.node (o217 P) (.node (o351 P) .nil .nil) (.node (o483 P) .nil .nil)) (.node (o281 P) (.node (o417 P) .nil .nil) (.node (o551 P) .nil .nil)))) (.node (o96 P) (.node (o133 P) (.node (o199 P) (.node (o331 P) .nil .nil) (.node (o465 P) .nil .nil)) (.node (o265 P) (.node (o401 P) .nil .nil) (.node (o535 P) .nil .nil))) (.node (o167 P) (.node (o233 P) (.node (o367 P) .nil .nil) (.node (o499 P) .nil .nil)) (.node (o299 P) (.node (o433 P) .nil .nil) (.node (o567 P) .nil .nil)))))) (.node (o45 P) (.node (o57 P) (.node (o73 P) (.node (o111 P) (.node (o179 P) (.node (o311 P) (.node (o579 P) .nil .nil) .nil) (.node (o445 P) .nil .nil)) (.node (o245 P) (.node (o379 P) .nil .nil) (.node (o513 P) .nil .nil))) (.node (o145 P) (.node (o211 P) (.node (o347 P) .nil .nil) (.node (o477 P) .nil .nil)) (.node (o277 P) (.node (o413 P) .nil .nil) (.node (o547 P) .nil .nil)))) (.node (o92 P) (.node (o129 P) (.node (o195 P) (.node (o327 P) .nil .nil) (.node (o461 P) .nil .nil)) (.node (o261 P) (.node (o397 P) .nil .nil) (.node (o531 P) .nil .nil))) (.node (o163 P) (.node (o229 P) (.node (o363 P) .nil .nil) (.node (o495 P) .nil .nil)) (.node (o295 P) (.node (o429 P) .nil .nil) (.node (o563 P) .nil .nil))))) (.node (o65 P) (.node (o84 P) (.node (o119 P) (.node (o187 P) (.node (o319 P) (.node (o587 P) .nil .nil) .nil) (.node (o453 P) .nil .nil)) (.node (o253 P) (.node (o389 P) .nil .nil) (.node (o521 P) .nil .nil))) (.node (o155 P) (.node (o221 P) (.node (o355 P) .nil .nil) (.node (o487 P) .nil .nil)) (.node (o285 P) (.node (o421 P) .nil .nil) (.node (o555 P) .nil .nil)))) (.node (o100 P) (.node (o137 P) (.node (o203 P) (.node (o335 P) .nil .nil) (.node (o469 P) .nil .nil)) (.node (o269 P) (.node (o405 P) .nil .nil) (.node (o539 P) .nil .nil))) (.node (o171 P) (.node (o237 P) (.node (o371 P) .nil .nil) (.node (o505 P) .nil .nil)) (.node (o303 P) (.node (o437 P) .nil .nil) (.node (o571 P) .nil .nil)))))))) (.node (boot_o_2 P) (.node (boot_o_4 P) (.node (boot_o_8 P) (.node (o52 P) (.node (o68 P) (.node (o106 P) (.node (o174 P) (.node (o306 P) (.node (o574 P) .nil .nil) .nil) (.node (o440 P) .nil .nil)) (.node (o240 P) (.node (o374 P) .nil .nil) (.node (o508 P) .nil .nil))) (.node (o140 P) (.node (o206 P) (.node (o338 P) .nil .nil) (.node (o472 P) .nil .nil)) (.node (o272 P) (.node (o408 P) .nil .nil) (.node (o542 P) .nil .nil)))) (.node (o87 P) (.node (o122 P) (.node (o190 P) (.node (o322 P) (.node (o590 P) .nil .nil) .nil) (.node (o456 P) .nil .nil)) (.node (o256 P) (.node (o392 P) .nil .nil) (.node (o524 P) .nil .nil))) (.node (o158 P) (.node (o224 P) (.node (o358 P) .nil .nil) (.node (o490 P) .nil .nil)) (.node (o288 P) (.node (o424 P) .nil .nil) (.node (o558 P) .nil .nil))))) (.node (o60 P) (.node (o76 P) (.node (o114 P) (.node (o182 P) (.node (o314 P) (.node (o582 P) .nil .nil) .nil) (.node (o448 P) .nil .nil)) (.node (o248 P) (.node (o384 P) .nil .nil) (.node (o516 P) .nil .nil))) (.node (o150 P) (.node (o216 P) (.node (o350 P) .nil .nil) (.node (o482 P) .nil .nil)) (.node (o280 P) (.node (o416 P) .nil .nil) (.node (o550 P) .nil .nil)))) (.node (o95 P) (.node (o132 P) (.node (o198 P) (.node (o330 P) .nil .nil) (.node (o464 P) .nil .nil)) (.node (o264 P) (.node (o400 P) .nil .nil) (.node (o534 P) .nil .nil))) (.node (o166 P) (.node (o232 P) (.node (o366 P) .nil .nil) (.node (o498 P) .nil .nil)) (.node (o298 P) (.node (o432 P) .nil .nil) (.node (o566 P) .nil .nil)))))) (.node (o528 P) (.node (o56 P) (.node (o72 P) (.node (o110 P) (.node (o178 P) (.node (o310 P) (.node (o578 P) .nil .nil) .nil) (.node (o444 P) .nil .nil)) (.node (o244 P) (.node (o378 P) .nil .nil) (.node (o512 P) .nil .nil))) (.node (o144 P) (.node (o210 P) (.node (o342 P) .nil .nil) (.node (o476 P) .nil .nil)) (.node (o276 P) (.node (o412 P) .nil .nil) (.node (o546 P) .nil .nil)))) (.node (o91 P) (.node (o128 P) (.node (o194 P) (.node (o326 P) .nil .nil) (.node (o460 P) .nil .nil)) (.node (o260 P) (.node (o396 P) .nil .nil) (.node (o530 P) .nil .nil))) (.node (o162 P) (.node (o228 P) (.node (o362 P) .nil .nil) (.node (o494 P) .nil .nil)) (.node (o294 P) (.node (o428 P) .nil .nil) (.node (o562 P) .nil .nil))))) (.node (o64 P) (.node (o83 P) (.node (o118 P) (.node (o186 P) (.node (o318 P) (.node (o586 P) .nil .nil) .nil) (.node (o452 P) .nil .nil)) (.node (o252 P) (.node (o388 P) .nil .nil) (.node (o520 P) .nil .nil))) (.node (o154 P) (.node (o220 P) (.node (o354 P) .nil .nil) (.node (o486 P) .nil .nil)) (.node (o284 P) (.node (o420 P) .nil .nil) (.node (o554 P) .nil .nil)))) (.node (o99 P) (.node (o136 P) (.node (o202 P) (.node (o334 P) .nil .nil) (.node (o468 P) .nil .nil)) (.node (o268 P) (.node (o404 P) .nil .nil) (.node (o538 P) .nil .nil))) (.node (o170 P) (.node (o236 P) (.node (o370 P) .nil .nil) (.node (o502 P) .nil .nil)) (.node (o302 P) (.node (o436 P) .nil .nil) (.node (o570 P) .nil .nil))))))) (.node (boot_o_6 P) (.node (boot_o_10 P) (.node (o54 P) (.node (o70 P) (.node (o108 P) (.node (o176 P) (.node (o308 P) (.node (o576 P) .nil .nil) .nil) (.node (o442 P) .nil .nil)) (.node (o242 P) (.node (o376 P) .nil .nil) (.node (o510 P) .nil .nil))) (.node (o142 P) (.node (o208 P) (.node (o340 P) .nil .nil) (.node (o474 P) .nil .nil)) (.node (o274 P) (.node (o410 P) .nil .nil) (.node (o544 P) .nil .nil)))) (.node (o89 P) (.node (o126 P) (.node (o192 P) (.node (o324 P) .nil .nil) (.node (o458 P) .nil .nil)) (.node (o258 P) (.node (o394 P) .nil .nil) (.node (o526 P) .nil .nil))) (.node (o160 P) (.node (o226 P) (.node (o360 P) .nil .nil) (.node (o492 P) .nil .nil)) (.node (o290 P) (.node (o426 P) .nil .nil) (.node (o560 P) .nil .nil))))) (.node (o62 P) (.node (o78 P) (.node (o116 P) (.node (o184 P) (.node (o316 P) (.node (o584 P) .nil .nil) .nil) (.node (o450 P) .nil .nil)) (.node (o250 P) (.node (o386 P) .nil .nil) (.node (o518 P) .nil .nil))) (.node (o152 P) (.node (o218 P) (.node (o352 P) .nil .nil) (.node (o484 P) .nil .nil)) (.node (o282 P) (.node (o418 P) .nil .nil) (.node (o552 P) .nil .nil)))) (.node (o97 P) (.node (o134 P) (.node (o200 P) (.node (o332 P) .nil .nil) (.node (o466 P) .nil .nil)) (.node (o266 P) (.node (o402 P) .nil .nil) (.node (o536 P) .nil .nil))) (.node (o168 P) (.node (o234 P) (.node (o368 P) .nil .nil) (.node (o500 P) .nil .nil)) (.node (o300 P) (.node (o434 P) .nil .nil) (.node (o568 P) .nil .nil)))))) (.node (o46 P) (.node (o58 P) (.node (o103 P) (.node (o112 P) (.node (o180 P) (.node (o312 P) (.node (o580 P) .nil .nil) .nil) (.node (o446 P) .nil .nil)) (.node (o246 P) (.node (o380 P) .nil .nil) (.node (o514 P) .nil .nil))) (.node (o146 P) (.node (o214 P) (.node (o348 P) .nil .nil) (.node (o478 P) .nil .nil)) (.node (o278 P) (.node (o414 P) .nil .nil) (.node (o548 P) .nil .nil)))) (.node (o93 P) (.node (o130 P) (.node (o196 P) (.node (o328 P) .nil .nil) (.node (o462 P) .nil .nil)) (.node (o262 P) (.node (o398 P) .nil .nil) (.node (o532 P) .nil .nil))) (.node (o164 P) (.node (o230 P) (.node (o364 P) .nil .nil) (.node (o496 P) .nil .nil)) (.node (o296 P) (.node (o430 P) .nil .nil) (.node (o564 P) .nil .nil))))) (.node (o66 P) (.node (o85 P) (.node (o120 P) (.node (o188 P) (.node (o320 P) (.node (o588 P) .nil .nil) .nil) (.node (o454 P) .nil .nil)) (.node (o254 P) (.node (o390 P) .nil .nil) (.node (o522 P) .nil .nil))) (.node (o156 P) (.node (o222 P) (.node (o356 P) .nil .nil) (.node (o488 P) .nil .nil)) (.node (o286 P) (.node (o422 P) .nil .nil) (.node (o556 P) .nil .nil)))) (.node (o104 P) (.node (o138 P) (.node (o204 P) (.node (o336 P) .nil .nil) (.node (o470 P) .nil .nil)) (.node (o270 P) (.node (o406 P) .nil .nil) (.node (o540 P) .nil .nil))) (.node (o172 P) (.node (o238 P) (.node (o372 P) .nil .nil) (.node (o506 P) .nil .nil)) (.node (o304 P) (.node (o438 P) .nil .nil) (.node (o572 P) .nil .nil))))))))
noncomputable abbrev t638 (P : Params) : BT := .node (boot_o_0 P) (.node (boot_o_1 P) (.node (o592 P) (.node (boot_o_7 P) (.node (o51 P) (.node (o67 P) (.node (o105 P) (.node (o173 P) (.node (o305 P) (.node (o573 P) .nil .nil) .nil) (.node (o439 P) .nil .nil)) (.node (o239 P) (.node (o373 P) .nil .nil) (.node (o507 P) .nil .nil))) (.node (o139 P) (.node (o205 P) (.node (o337 P) (.node (o607 P) .nil .nil) .nil) (.node (o471 P) .nil .nil)) (.node (o271 P) (.node (o407 P) .nil .nil) (.node (o541 P) .nil .nil)))) (.node (o86 P) (.node (o121 P) (.node (o189 P) (.node (o321 P) (.node (o589 P) .nil .nil) .nil) (.node (o455 P) .nil .nil)) (.node (o255 P) (.node (o391 P) .nil .nil) (.node (o523 P) .nil .nil))) (.node (o157 P) (.node (o223 P) (.node (o357 P) (.node (o623 P) .nil .nil) .nil) (.node (o489 P) .nil .nil)) (.node (o287 P) (.node (o423 P) .nil .nil) (.node (o557 P) .nil .nil))))) (.node (o59 P) (.node (o75 P) (.node (o113 P) (.node (o181 P) (.node (o313 P) (.node (o581 P) .nil .nil) .nil) (.node (o447 P) .nil .nil)) (.node (o247 P) (.node (o381 P) .nil .nil) (.node (o515 P) .nil .nil))) (.node (o149 P) (.node (o215 P) (.node (o349 P) (.node (o615 P) .nil .nil) .nil) (.node (o479 P) .nil .nil)) (.node (o279 P) (.node (o415 P) .nil .nil) (.node (o549 P) .nil .nil)))) (.node (o94 P) (.node (o131 P) (.node (o197 P) (.node (o329 P) (.node (o599 P) .nil .nil) .nil) (.node (o463 P) .nil .nil)) (.node (o263 P) (.node (o399 P) .nil .nil) (.node (o533 P) .nil .nil))) (.node (o165 P) (.node (o231 P) (.node (o365 P) (.node (o631 P) .nil .nil) .nil) (.node (o497 P) .nil .nil)) (.node (o297 P) (.node (o431 P) .nil .nil) (.node (o565 P) .nil .nil)))))) (.node (o43 P) (.node (o55 P) (.node (o71 P) (.node (o109 P) (.node (o177 P) (.node (o309 P) (.node (o577 P) .nil .nil) .nil) (.node (o443 P) .nil .nil)) (.node (o243 P) (.node (o377 P) .nil .nil) (.node (o511 P) .nil .nil))) (.node (o143 P) (.node (o209 P) (.node (o341 P) (.node (o611 P) .nil .nil) .nil) (.node (o475 P) .nil .nil)) (.node (o275 P) (.node (o411 P) .nil .nil) (.node (o545 P) .nil .nil)))) (.node (o90 P) (.node (o127 P) (.node (o193 P) (.node (o325 P) (.node (o595 P) .nil .nil) .nil) (.node (o459 P) .nil .nil)) (.node (o259 P) (.node (o395 P) .nil .nil) (.node (o529 P) .nil .nil))) (.node (o161 P) (.node (o227 P) (.node (o361 P) (.node (o627 P) .nil .nil) .nil) (.node (o493 P) .nil .nil)) (.node (o293 P) (.node (o427 P) .nil .nil) (.node (o561 P) .nil .nil))))) (.node (o63 P) (.node (o82 P) (.node (o117 P) (.node (o185 P) (.node (o317 P) (.node (o585 P) .nil .nil) .nil) (.node (o451 P) .nil .nil)) (.node (o251 P) (.node (o387 P) .nil .nil) (.node (o519 P) .nil .nil))) (.node (o153 P) (.node (o219 P) (.node (o353 P) (.node (o619 P) .nil .nil) .nil) (.node (o485 P) .nil .nil)) (.node (o283 P) (.node (o419 P) .nil .nil) (.node (o553 P) .nil .nil)))) (.node (o98 P) (.node (o135 P) (.node (o201 P) (.node (o333 P) (.node (o603 P) .nil .nil) .nil) (.node (o467 P) .nil .nil)) (.node (o267 P) (.node (o403 P) .nil .nil) (.node (o537 P) .nil .nil))) (.node (o169 P) (.node (o235 P) (.node (o369 P) (.node (o635 P) .nil .nil) .nil) (.node (o501 P) .nil .nil)) (.node (o301 P) (.node (o435 P) .nil .nil) (.node (o569 P) .nil .nil))))))) (.node (boot_o_5 P) (.node (boot_o_9 P) (.node (o53 P) (.node (o69 P) (.node (o107 P) (.node (o175 P) (.node (o307 P) (.node (o575 P) .nil .nil) .nil) (.node (o441 P) .nil .nil)) (.node (o241 P) (.node (o375 P) .nil .nil) (.node (o509 P) .nil .nil))) (.node (o141 P) (.node (o207 P) (.node (o339 P) (.node (o609 P) .nil .nil) .nil) (.node (o473 P) .nil .nil)) (.node (o273 P) (.node (o409 P) .nil .nil) (.node (o543 P) .nil .nil)))) (.node (o88 P) (.node (o125 P) (.node (o191 P) (.node (o323 P) (.node (o591 P) .nil .nil) .nil) (.node (o457 P) .nil .nil)) (.node (o257 P) (.node (o393 P) .nil .nil) (.node (o525 P) .nil .nil))) (.node (o159 P) (.node (o225 P) (.node (o359 P) (.node (o625 P) .nil .nil) .nil) (.node (o491 P) .nil .nil)) (.node (o289 P) (.node (o425 P) .nil .nil) (.node (o559 P) .nil .nil))))) (.node (o61 P) (.node (o77 P) (.node (o115 P) (.node (o183 P) (.node (o315 P) (.node (o583 P) .nil .nil) .nil) (.node (o449 P) .nil .nil)) (.node (o249 P) (.node (o385 P) .nil .nil) (.node (o517 P) .nil .nil))) (.node (o151 P) (.node (o217 P) (.node (o351 P) (.node (o617 P) .nil .nil) .nil) (.node (o483 P) .nil .nil)) (.node (o281 P) (.node (o417 P) .nil .nil) (.node (o551 P) .nil .nil)))) (.node (o96 P) (.node (o133 P) (.node (o199 P) (.node (o331 P) (.node (o601 P) .nil .nil) .nil) (.node (o465 P) .nil .nil)) (.node (o265 P) (.node (o401 P) .nil .nil) (.node (o535 P) .nil .nil))) (.node (o167 P) (.node (o233 P) (.node (o367 P) (.node (o633 P) .nil .nil) .nil) (.node (o499 P) .nil .nil)) (.node (o299 P) (.node (o433 P) .nil .nil) (.node (o567 P) .nil .nil)))))) (.node (o45 P) (.node (o57 P) (.node (o73 P) (.node (o111 P) (.node (o179 P) (.node (o311 P) (.node (o579 P) .nil .nil) .nil) (.node (o445 P) .nil .nil)) (.node (o245 P) (.node (o379 P) .nil .nil) (.node (o513 P) .nil .nil))) (.node (o145 P) (.node (o211 P) (.node (o347 P) (.node (o613 P) .nil .nil) .nil) (.node (o477 P) .nil .nil)) (.node (o277 P) (.node (o413 P) .nil .nil) (.node (o547 P) .nil .nil)))) (.node (o92 P) (.node (o129 P) (.node (o195 P) (.node (o327 P) (.node (o597 P) .nil .nil) .nil) (.node (o461 P) .nil .nil)) (.node (o261 P) (.node (o397 P) .nil .nil) (.node (o531 P) .nil .nil))) (.node (o163 P) (.node (o229 P) (.node (o363 P) (.node (o629 P) .nil .nil) .nil) (.node (o495 P) .nil .nil)) (.node (o295 P) (.node (o429 P) .nil .nil) (.node (o563 P) .nil .nil))))) (.node (o65 P) (.node (o84 P) (.node (o119 P) (.node (o187 P) (.node (o319 P) (.node (o587 P) .nil .nil) .nil) (.node (o453 P) .nil .nil)) (.node (o253 P) (.node (o389 P) .nil .nil) (.node (o521 P) .nil .nil))) (.node (o155 P) (.node (o221 P) (.node (o355 P) (.node (o621 P) .nil .nil) .nil) (.node (o487 P) .nil .nil)) (.node (o285 P) (.node (o421 P) .nil .nil) (.node (o555 P) .nil .nil)))) (.node (o100 P) (.node (o137 P) (.node (o203 P) (.node (o335 P) (.node (o605 P) .nil .nil) .nil) (.node (o469 P) .nil .nil)) (.node (o269 P) (.node (o405 P) .nil .nil) (.node (o539 P) .nil .nil))) (.node (o171 P) (.node (o237 P) (.node (o371 P) (.node (o637 P) .nil .nil) .nil) (.node (o505 P) .nil .nil)) (.node (o303 P) (.node (o437 P) .nil .nil) (.node (o571 P) .nil .nil)))))))) (.node (boot_o_2 P) (.node (boot_o_4 P) (.node (boot_o_8 P) (.node (o52 P) (.node (o68 P) (.node (o106 P) (.node (o174 P) (.node (o306 P) (.node (o574 P) .nil .nil) .nil) (.node (o440 P) .nil .nil)) (.node (o240 P) (.node (o374 P) .nil .nil) (.node (o508 P) .nil .nil))) (.node (o140 P) (.node (o206 P) (.node (o338 P) (.node (o608 P) .nil .nil) .nil) (.node (o472 P) .nil .nil)) (.node (o272 P) (.node (o408 P) .nil .nil) (.node (o542 P) .nil .nil)))) (.node (o87 P) (.node (o122 P) (.node (o190 P) (.node (o322 P) (.node (o590 P) .nil .nil) .nil) (.node (o456 P) .nil .nil)) (.node (o256 P) (.node (o392 P) .nil .nil) (.node (o524 P) .nil .nil))) (.node (o158 P) (.node (o224 P) (.node (o358 P) (.node (o624 P) .nil .nil) .nil) (.node (o490 P) .nil .nil)) (.node (o288 P) (.node (o424 P) .nil .nil) (.node (o558 P) .nil .nil))))) (.node (o60 P) (.node (o76 P) (.node (o114 P) (.node (o182 P) (.node (o314 P) (.node (o582 P) .nil .nil) .nil) (.node (o448 P) .nil .nil)) (.node (o248 P) (.node (o384 P) .nil .nil) (.node (o516 P) .nil .nil))) (.node (o150 P) (.node (o216 P) (.node (o350 P) (.node (o616 P) .nil .nil) .nil) (.node (o482 P) .nil .nil)) (.node (o280 P) (.node (o416 P) .nil .nil) (.node (o550 P) .nil .nil)))) (.node (o95 P) (.node (o132 P) (.node (o198 P) (.node (o330 P) (.node (o600 P) .nil .nil) .nil) (.node (o464 P) .nil .nil)) (.node (o264 P) (.node (o400 P) .nil .nil) (.node (o534 P) .nil .nil))) (.node (o166 P) (.node (o232 P) (.node (o366 P) (.node (o632 P) .nil .nil) .nil) (.node (o498 P) .nil .nil)) (.node (o298 P) (.node (o432 P) .nil .nil) (.node (o566 P) .nil .nil)))))) (.node (o593 P) (.node (o56 P) (.node (o72 P) (.node (o110 P) (.node (o178 P) (.node (o310 P) (.node (o578 P) .nil .nil) .nil) (.node (o444 P) .nil .nil)) (.node (o244 P) (.node (o378 P) .nil .nil) (.node (o512 P) .nil .nil))) (.node (o144 P) (.node (o210 P) (.node (o342 P) (.node (o612 P) .nil .nil) .nil) (.node (o476 P) .nil .nil)) (.node (o276 P) (.node (o412 P) .nil .nil) (.node (o546 P) .nil .nil)))) (.node (o91 P) (.node (o128 P) (.node (o194 P) (.node (o326 P) (.node (o596 P) .nil .nil) .nil) (.node (o460 P) .nil .nil)) (.node (o260 P) (.node (o396 P) .nil .nil) (.node (o530 P) .nil .nil))) (.node (o162 P) (.node (o228 P) (.node (o362 P) (.node (o628 P) .nil .nil) .nil) (.node (o494 P) .nil .nil)) (.node (o294 P) (.node (o428 P) .nil .nil) (.node (o562 P) .nil .nil))))) (.node (o64 P) (.node (o83 P) (.node (o118 P) (.node (o186 P) (.node (o318 P) (.node (o586 P) .nil .nil) .nil) (.node (o452 P) .nil .nil)) (.node (o252 P) (.node (o388 P) .nil .nil) (.node (o520 P) .nil .nil))) (.node (o154 P) (.node (o220 P) (.node (o354 P) (.node (o620 P) .nil .nil) .nil) (.node (o486 P) .nil .nil)) (.node (o284 P) (.node (o420 P) .nil .nil) (.node (o554 P) .nil .nil)))) (.node (o99 P) (.node (o136 P) (.node (o202 P) (.node (o334 P) (.node (o604 P) .nil .nil) .nil) (.node (o468 P) .nil .nil)) (.node (o268 P) (.node (o404 P) .nil .nil) (.node (o538 P) .nil .nil))) (.node (o170 P) (.node (o236 P) (.node (o370 P) (.node (o636 P) .nil .nil) .nil) (.node (o502 P) .nil .nil)) (.node (o302 P) (.node (o436 P) .nil .nil) (.node (o570 P) .nil .nil))))))) (.node (boot_o_6 P) (.node (boot_o_10 P) (.node (o54 P) (.node (o70 P) (.node (o108 P) (.node (o176 P) (.node (o308 P) (.node (o576 P) .nil .nil) .nil) (.node (o442 P) .nil .nil)) (.node (o242 P) (.node (o376 P) .nil .nil) (.node (o510 P) .nil .nil))) (.node (o142 P) (.node (o208 P) (.node (o340 P) (.node (o610 P) .nil .nil) .nil) (.node (o474 P) .nil .nil)) (.node (o274 P) (.node (o410 P) .nil .nil) (.node (o544 P) .nil .nil)))) (.node (o89 P) (.node (o126 P) (.node (o192 P) (.node (o324 P) (.node (o594 P) .nil .nil) .nil) (.node (o458 P) .nil .nil)) (.node (o258 P) (.node (o394 P) .nil .nil) (.node (o526 P) .nil .nil))) (.node (o160 P) (.node (o226 P) (.node (o360 P) (.node (o626 P) .nil .nil) .nil) (.node (o492 P) .nil .nil)) (.node (o290 P) (.node (o426 P) .nil .nil) (.node (o560 P) .nil .nil))))) (.node (o62 P) (.node (o78 P) (.node (o116 P) (.node (o184 P) (.node (o316 P) (.node (o584 P) .nil .nil) .nil) (.node (o450 P) .nil .nil)) (.node (o250 P) (.node (o386 P) .nil .nil) (.node (o518 P) .nil .nil))) (.node (o152 P) (.node (o218 P) (.node (o352 P) (.node (o618 P) .nil .nil) .nil) (.node (o484 P) .nil .nil)) (.node (o282 P) (.node (o418 P) .nil .nil) (.node (o552 P) .nil .nil)))) (.node (o97 P) (.node (o134 P) (.node (o200 P) (.node (o332 P) (.node (o602 P) .nil .nil) .nil) (.node (o466 P) .nil .nil)) (.node (o266 P) (.node (o402 P) .nil .nil) (.node (o536 P) .nil .nil))) (.node (o168 P) (.node (o234 P) (.node (o368 P) (.node (o634 P) .nil .nil) .nil) (.node (o500 P) .nil .nil)) (.node (o300 P) (.node (o434 P) .nil .nil) (.node (o568 P) .nil .nil)))))) (.node (o46 P) (.node (o58 P) (.node (o103 P) (.node (o112 P) (.node (o180 P) (.node (o312 P) (.node (o580 P) .nil .nil) .nil) (.node (o446 P) .nil .nil)) (.node (o246 P) (.node (o380 P) .nil .nil) (.node (o514 P) .nil .nil))) (.node (o146 P) (.node (o214 P) (.node (o348 P) (.node (o614 P) .nil .nil) .nil) (.node (o478 P) .nil .nil)) (.node (o278 P) (.node (o414 P) .nil .nil) (.node (o548 P) .nil .nil)))) (.node (o93 P) (.node (o130 P) (.node (o196 P) (.node (o328 P) (.node (o598 P) .nil .nil) .nil) (.node (o462 P) .nil .nil)) (.node (o262 P) (.node (o398 P) .nil .nil) (.node (o532 P) .nil .nil))) (.node (o164 P) (.node (o230 P) (.node (o364 P) (.node (o630 P) .nil .nil) .nil) (.node (o496 P) .nil .nil)) (.node (o296 P) (.node (o430 P) .nil .nil) (.node (o564 P) .nil .nil))))) (.node (o66 P) (.node (o85 P) (.node (o120 P) (.node (o188 P) (.node (o320 P) (.node (o588 P) .nil .nil) .nil) (.node (o454 P) .nil .nil)) (.node (o254 P) (.node (o390 P) .nil .nil) (.node (o522 P) .nil .nil))) (.node (o156 P) (.node (o222 P) (.node (o356 P) (.node (o622 P) .nil .nil) .nil) (.node (o488 P) .nil .nil)) (.node (o286 P) (.node (o422 P) .nil .nil) (.node (o556 P) .nil .nil)))) (.node (o104 P) (.node (o138 P) (.node (o204 P) (.node (o336 P) (.node (o606 P) .nil .nil) .nil) (.node (o470 P) .nil .nil)) (.node (o270 P) (.node (o406 P) .nil .nil) (.node (o540 P) .nil .nil))) (.node (o172 P) (.node (o238 P) (.node (o372 P) (.node (o638 P) .nil .nil) .nil) (.node (o506 P) .nil .nil)) (.node (o304 P) (.node (o438 P) .nil .nil) (.node (o572 P) .nil .nil))))))))
noncomputable abbrev h46 (P : Params) : Heap := { objs := #[boot_o_0 P, boot_o_1 P, boot_o_2 P, boot_o_3 P, boot_o_4 P, boot_o_5 P, boot_o_6 P, boot_o_7 P, boot_o_8 P, boot_o_9 P, boot_o_10 P, o43 P, o44 P, o45 P, o46 P] }
noncomputable abbrev h1 (P : Params) : Heap := { objs := #[boot_o_0 P, boot_o_1 P, boot_o_2 P, o592 P, boot_o_4 P, boot_o_5 P, boot_o_6 P, boot_o_7 P, boot_o_8 P, boot_o_9 P, boot_o_10 P, o43 P, o593 P, o45 P, o46 P, o51 P, o52 P, o53 P, o54 P, o55 P, o56 P, o57 P, o58 P, o59 P, o60 P, o61 P, o62 P, o63 P, o64 P, o65 P, o66 P, o67 P, o68 P, o69 P, o70 P, o71 P, o72 P, o73 P, o103 P, o75 P, o76 P, o77 P, o78 P, o82 P, o83 P, o84 P, o85 P, o86 P, o87 P, o88 P, o89 P, o90 P, o91 P, o92 P, o93 P, o94 P, o95 P, o96 P, o97 P, o98 P, o99 P, o100 P, o104 P, o105 P, o106 P, o107 P, o108 P, o109 P, o110 P, o111 P, o112 P, o113 P, o114 P, o115 P, o116 P, o117 P, o118 P, o119 P, o120 P, o121 P, o122 P, o125 P, o126 P, o127 P, o128 P, o129 P, o130 P, o131 P, o132 P, o133 P, o134 P, o135 P, o136 P, o137 P, o138 P, o139 P, o140 P, o141 P, o142 P, o143 P, o144 P, o145 P, o146 P, o149 P, o150 P, o151 P, o152 P, o153 P, o154 P, o155 P, o156 P, o157 P, o158 P, o159 P, o160 P, o161 P, o162 P, o163 P, o164 P, o165 P, o166 P, o167 P, o168 P, o169 P, o170 P, o171 P, o172 P, o173 P, o174 P, o175 P, o176 P, o177 P, o178 P, o179 P, o180 P, o181 P, o182 P, o183 P, o184 P, o185 P, o186 P, o187 P, o188 P, o189 P, o190 P, o191 P, o192 P, o193 P, o194 P, o195 P, o196 P, o197 P, o198 P, o199 P, o200 P, o201 P, o202 P, o203 P, o204 P, o205 P, o206 P, o207 P, o208 P, o209 P, o210 P, o211 P, o214 P, o215 P, o216 P, o217 P, o218 P, o219 P, o220 P, o221 P, o222 P, o223 P, o224 P, o225 P, o226 P, o227 P, o228 P, o229 P, o230 P, o231 P, o232 P, o233 P, o234 P, o235 P, o236 P, o237 P, o238 P, o239 P, o240 P, o241 P, o242 P, o243 P, o244 P, o245 P, o246 P, o247 P, o248 P, o249 P, o250 P, o251 P, o252 P, o253 P, o254 P, o255 P, o256 P, o257 P, o258 P, o259 P, o260 P, o261 P, o262 P, o263 P, o264 P, o265 P, o266 P, o267 P, o268 P, o269 P, o270 P, o271 P, o272 P, o273 P, o274 P, o275 P, o276 P, o277 P, o278 P, o279 P, o280 P, o281 P, o282 P, o283 P, o284 P, o285 P, o286 P, o287 P, o288 P, o289 P, o290 P, o293 P, o294 P, o295 P, o296 P, o297 P, o298 P, o299 P, o300 P, o301 P, o302 P, o303 P, o304 P, o305 P, o306 P, o307 P, o308 P, o309 P, o310 P, o311 P, o312 P, o313 P, o314 P, o315 P, o316 P, o317 P, o318 P, o319 P, o320 P, o321 P, o322 P, o323 P, o324 P, o325 P, o326 P, o327 P, o328 P, o329 P, o330 P, o331 P, o332 P, o333 P, o334 P, o335 P, o336 P, o337 P, o338 P, o339 P, o340 P, o341 P, o342 P, o347 P, o348 P, o349 P, o350 P, o351 P, o352 P, o353 P, o354 P, o355 P, o356 P, o357 P, o358 P, o359 P, o360 P, o361 P, o362 P, o363 P, o364 P, o365 P, o366 P, o367 P, o368 P, o369 P, o370 P, o371 P, o372 P, o373 P, o374 P, o375 P, o376 P, o377 P, o378 P, o379 P, o380 P, o381 P, o384 P, o385 P, o386 P, o387 P, o388 P, o389 P, o390 P, o391 P, o392 P, o393 P, o394 P, o395 P, o396 P, o397 P, o398 P, o399 P, o400 P, o401 P, o402 P, o403 P, o404 P, o405 P, o406 P, o407 P, o408 P, o409 P, o410 P, o411 P, o412 P, o413 P, o414 P, o415 P, o416 P, o417 P, o418 P, o419 P, o420 P, o421 P, o422 P, o423 P, o424 P, o425 P, o426 P, o427 P, o428 P, o429 P, o430 P, o431 P, o432 P, o433 P, o434 P, o435 P, o436 P, o437 P, o438 P, o439 P, o440 P, o441 P, o442 P, o443 P, o444 P, o445 P, o446 P, o447 P, o448 P, o449 P, o450 P, o451 P, o452 P, o453 P, o454 P, o455 P, o456 P, o457 P, o458 P, o459 P, o460 P, o461 P, o462 P, o463 P, o464 P, o465 P, o466 P, o467 P, o468 P, o469 P, o470 P, o471 P, o472 P, o473 P, o474 P, o475 P, o476 P, o477 P, o478 P, o479 P, o482 P, o483 P, o484 P, o485 P, o486 P, o487 P, o488 P, o489 P, o490 P, o491 P, o492 P, o493 P, o494 P, o495 P, o496 P, o497 P, o498 P, o499 P, o500 P, o501 P, o502 P, o505 P, o506 P, o507 P, o508 P, o509 P, o510 P, o511 P, o512 P, o513 P, o514 P, o515 P, o516 P, o517 P, o518 P, o519 P, o520 P, o521 P, o522 P, o523 P, o524 P, o525 P, o526 P, o529 P, o530 P, o531 P, o532 P, o533 P, o534 P, o535 P, o536 P, o537 P, o538 P, o539 P, o540 P, o541 P, o542 P, o543 P, o544 P, o545 P, o546 P, o547 P, o548 P, o549 P, o550 P, o551 P, o552 P, o553 P, o554 P, o555 P, o556 P, o557 P, o558 P, o559 P, o560 P, o561 P, o562 P, o563 P, o564 P, o565 P, o566 P, o567 P, o568 P, o569 P, o570 P, o571 P, o572 P, o573 P, o574 P, o575 P, o576 P, o577 P, o578 P, o579 P, o580 P, o581 P, o582 P, o583 P, o584 P, o585 P, o586 P, o587 P, o588 P, o589 P, o590 P, o591 P, o594 P, o595 P, o596 P, o597 P, o598 P, o599 P, o600 P, o601 P, o602 P, o603 P, o604 P, o605 P, o606 P, o607 P, o608 P, o609 P, o610 P, o611 P, o612 P, o613 P, o614 P, o615 P, o616 P, o617 P, o618 P, o619 P, o620 P, o621 P, o622 P, o623 P, o624 P, o625 P, o626 P, o627 P, o628 P, o629 P, o630 P, o631 P, o632 P, o633 P, o634 P, o635 P, o636 P, o637 P, o638 P] }
noncomputable abbrev env0 : Env := { scope := prg.main.scope, locals := mainNs, globals := mainNs, cells := [], code := .ref 13, frame := some 14 }
noncomputable abbrev cd : Code := .body bd env0
abbrev q0 : Pos := ⟨0, 0, 0, 0⟩
abbrev B1 : List Frame := [topFrame q0]
abbrev an : Option Value := some (.ref 6)
abbrev stT (t : BT) (n k : Nat) (os : OsState) : SharedT := { tree := t, n := n, life := {}, gens := #[], drawn := {}, toks := k, os := os }
theorem te1 : segRunT = PySem.W.Fast.tw10110043849684766642 := PySem.W.Fast.te10110043849684766642
theorem te2 : treeTable = PySem.W.Fast.tw14364793385576792824 := PySem.W.Fast.te14364793385576792824
theorem te3 : topGo = PySem.W.Fast.tw15667345088766844465 := PySem.W.Fast.te15667345088766844465
theorem te4 : segRun = PySem.W.Fast.tw14374325043358763698 := PySem.W.Fast.te14374325043358763698
theorem te5 : topRun = PySem.W.Fast.tw14082659384304107361 := PySem.W.Fast.te14082659384304107361
theorem te6 : denote = PySem.W.Fast.tw11892475500146522536 := PySem.W.Fast.te11892475500146522536
noncomputable abbrev sts (i n : Nat) : List Stmt := (bd.drop i).take n
end Mine
end

section
open PySem PySem.W PyProof.Rows
set_option maxRecDepth 100000
set_option maxHeartbeats 8000000
namespace Mine
theorem p0q (w : World) (os : OsState) : PySem.W.Fast.tw10110043849684766642 PySem.W.Fast.tw14364793385576792824 prg w 11 an 1 266 (stT (t47 (World.params w)) 15 187 os) (piecesOf (sts 0 3) env0 cd ⟨0, 0, 0, 0⟩ B1) = some (Flow.next, stT (t78 (World.params w)) 43 230 os, cd, ⟨5, 0, 13, 29⟩) := by kernel_rfl
theorem p0 (w : World) (os : OsState) : segRunT treeTable prg w 11 an 1 266 (stT (t47 (World.params w)) 15 187 os) (piecesOf (sts 0 3) env0 cd ⟨0, 0, 0, 0⟩ B1) = some (Flow.next, stT (t78 (World.params w)) 43 230 os, cd, ⟨5, 0, 13, 29⟩) := by rw [te1, te2]; exact p0q w os
theorem p1q (w : World) (os : OsState) : PySem.W.Fast.tw10110043849684766642 PySem.W.Fast.tw14364793385576792824 prg w 11 an 1 248 (stT (t78 (World.params w)) 43 230 os) (piecesOf (sts 3 1) env0 cd ⟨5, 0, 13, 29⟩ B1) = some (Flow.next, stT (t100 (World.params w)) 62 257 os, cd, ⟨14, 0, 19, 25⟩) := by kernel_rfl
theorem p1 (w : World) (os : OsState) : segRunT treeTable prg w 11 an 1 248 (stT (t78 (World.params w)) 43 230 os) (piecesOf (sts 3 1) env0 cd ⟨5, 0, 13, 29⟩ B1) = some (Flow.next, stT (t100 (World.params w)) 62 257 os, cd, ⟨14, 0, 19, 25⟩) := by rw [te1, te2]; exact p1q w os
theorem p2q (w : World) (os : OsState) : PySem.W.Fast.tw10110043849684766642 PySem.W.Fast.tw14364793385576792824 prg w 11 an 1 251 (stT (t100 (World.params w)) 62 257 os) (piecesOf (sts 4 1) env0 cd ⟨14, 0, 19, 25⟩ B1) = some (Flow.next, stT (t122 (World.params w)) 81 287 os, cd, ⟨20, 0, 28, 24⟩) := by kernel_rfl
theorem p2 (w : World) (os : OsState) : segRunT treeTable prg w 11 an 1 251 (stT (t100 (World.params w)) 62 257 os) (piecesOf (sts 4 1) env0 cd ⟨14, 0, 19, 25⟩ B1) = some (Flow.next, stT (t122 (World.params w)) 81 287 os, cd, ⟨20, 0, 28, 24⟩) := by rw [te1, te2]; exact p2q w os
theorem p3q (w : World) (os : OsState) : PySem.W.Fast.tw10110043849684766642 PySem.W.Fast.tw14364793385576792824 prg w 11 an 1 226 (stT (t122 (World.params w)) 81 287 os) (piecesOf (sts 5 1) env0 cd ⟨20, 0, 28, 24⟩ B1) = some (Flow.next, stT (t146 (World.params w)) 103 318 os, cd, ⟨29, 0, 33, 30⟩) := by kernel_rfl
theorem p3 (w : World) (os : OsState) : segRunT treeTable prg w 11 an 1 226 (stT (t122 (World.params w)) 81 287 os) (piecesOf (sts 5 1) env0 cd ⟨20, 0, 28, 24⟩ B1) = some (Flow.next, stT (t146 (World.params w)) 103 318 os, cd, ⟨29, 0, 33, 30⟩) := by rw [te1, te2]; exact p3q w os
theorem p4q (w : World) (os : OsState) : PySem.W.Fast.tw10110043849684766642 PySem.W.Fast.tw14364793385576792824 prg w 11 an 1 415 (stT (t146 (World.params w)) 103 318 os) (piecesOf (sts 6 1) env0 cd ⟨29, 0, 33, 30⟩ B1) = some (Flow.next, stT (t211 (World.params w)) 166 395 os, cd, ⟨34, 0, 58, 45⟩) := by kernel_rfl
theorem p4 (w : World) (os : OsState) : segRunT treeTable prg w 11 an 1 415 (stT (t146 (World.params w)) 103 318 os) (piecesOf (sts 6 1) env0 cd ⟨29, 0, 33, 30⟩ B1) = some (Flow.next, stT (t211 (World.params w)) 166 395 os, cd, ⟨34, 0, 58, 45⟩) := by rw [te1, te2]; exact p4q w os
theorem p5q (w : World) (os : OsState) : PySem.W.Fast.tw10110043849684766642 PySem.W.Fast.tw14364793385576792824 prg w 11 an 1 384 (stT (t211 (World.params w)) 166 395 os) (piecesOf (sts 7 16) env0 cd ⟨34, 0, 58, 45⟩ B1) = some (Flow.next, stT (t290 (World.params w)) 243 502 os, cd, ⟨104, 0, 106, 26⟩) := by kernel_rfl
theorem p5 (w : World) (os : OsState) : segRunT treeTable prg w 11 an 1 384 (stT (t211 (World.params w)) 166 395 os) (piecesOf (sts 7 16) env0 cd ⟨34, 0, 58, 45⟩ B1) = some (Flow.next, stT (t290 (World.params w)) 243 502 os, cd, ⟨104, 0, 106, 26⟩) := by rw [te1, te2]; exact p5q w os
theorem p6f (w : World) (os : OsState) : PySem.W.Fast.tw10110043849684766642 PySem.W.Fast.tw14364793385576792824 prg (w.withFollow "special-get-raises" false) 11 an 1 375 (stT (t290 (World.params (w.withFollow "special-get-raises" false))) 243 502 os) (piecesOf (sts 23 8) env0 cd ⟨104, 0, 106, 26⟩ B1) = some (Flow.next, stT (t342 (World.params (w.withFollow "special-get-raises" false))) 293 587 os, cd, ⟨140, 0, 143, 35⟩) := by kernel_rfl
theorem p6t (w : World) (os : OsState) : PySem.W.Fast.tw10110043849684766642 PySem.W.Fast.tw14364793385576792824 prg (w.withFollow "special-get-raises" true) 11 an 1 375 (stT (t290 (World.params (w.withFollow "special-get-raises" true))) 243 502 os) (piecesOf (sts 23 8) env0 cd ⟨104, 0, 106, 26⟩ B1) = some (Flow.next, stT (t342 (World.params (w.withFollow "special-get-raises" true))) 293 587 os, cd, ⟨140, 0, 143, 35⟩) := by kernel_rfl
theorem p6q (w : World) (os : OsState) : PySem.W.Fast.tw10110043849684766642 PySem.W.Fast.tw14364793385576792824 prg w 11 an 1 375 (stT (t290 (World.params w)) 243 502 os) (piecesOf (sts 23 8) env0 cd ⟨104, 0, 106, 26⟩ B1) = some (Flow.next, stT (t342 (World.params w)) 293 587 os, cd, ⟨140, 0, 143, 35⟩) := @byRow2 "special-get-raises" (fun w => ∀ os : OsState, PySem.W.Fast.tw10110043849684766642 PySem.W.Fast.tw14364793385576792824 prg w 11 an 1 375 (stT (t290 (World.params w)) 243 502 os) (piecesOf (sts 23 8) env0 cd ⟨104, 0, 106, 26⟩ B1) = some (Flow.next, stT (t342 (World.params w)) 293 587 os, cd, ⟨140, 0, 143, 35⟩)) p6f p6t w os
theorem p6 (w : World) (os : OsState) : segRunT treeTable prg w 11 an 1 375 (stT (t290 (World.params w)) 243 502 os) (piecesOf (sts 23 8) env0 cd ⟨104, 0, 106, 26⟩ B1) = some (Flow.next, stT (t342 (World.params w)) 293 587 os, cd, ⟨140, 0, 143, 35⟩) := by rw [te1, te2]; exact p6q w os
theorem p7q (w : World) (os : OsState) : PySem.W.Fast.tw10110043849684766642 PySem.W.Fast.tw14364793385576792824 prg w 11 an 1 165 (stT (t342 (World.params w)) 293 587 os) (piecesOf (sts 31 6) env0 cd ⟨140, 0, 143, 35⟩ B1) = some (Flow.next, stT (t381 (World.params w)) 328 634 os, cd, ⟨182, 0, 182, 8⟩) := by kernel_rfl
theorem p7 (w : World) (os : OsState) : segRunT treeTable prg w 11 an 1 165 (stT (t342 (World.params w)) 293 587 os) (piecesOf (sts 31 6) env0 cd ⟨140, 0, 143, 35⟩ B1) = some (Flow.next, stT (t381 (World.params w)) 328 634 os, cd, ⟨182, 0, 182, 8⟩) := by rw [te1, te2]; exact p7q w os
theorem p8q (w : World) (os : OsState) : PySem.W.Fast.tw10110043849684766642 PySem.W.Fast.tw14364793385576792824 prg w 11 an 1 576 (stT (t381 (World.params w)) 328 634 os) (piecesOf (sts 37 1) env0 cd ⟨182, 0, 182, 8⟩ B1) = some (Flow.next, stT (t479 (World.params w)) 424 754 os, cd, ⟨183, 0, 239, 16⟩) := by kernel_rfl
theorem p8 (w : World) (os : OsState) : segRunT treeTable prg w 11 an 1 576 (stT (t381 (World.params w)) 328 634 os) (piecesOf (sts 37 1) env0 cd ⟨182, 0, 182, 8⟩ B1) = some (Flow.next, stT (t479 (World.params w)) 424 754 os, cd, ⟨183, 0, 239, 16⟩) := by rw [te1, te2]; exact p8q w os
theorem p9q (w : World) (os : OsState) : PySem.W.Fast.tw10110043849684766642 PySem.W.Fast.tw14364793385576792824 prg w 11 an 1 263 (stT (t479 (World.params w)) 424 754 os) (piecesOf (sts 38 3) env0 cd ⟨183, 0, 239, 16⟩ B1) = some (Flow.next, stT (t502 (World.params w)) 445 809 os, cd, ⟨264, 0, 264, 8⟩) := by kernel_rfl
theorem p9 (w : World) (os : OsState) : segRunT treeTable prg w 11 an 1 263 (stT (t479 (World.params w)) 424 754 os) (piecesOf (sts 38 3) env0 cd ⟨183, 0, 239, 16⟩ B1) = some (Flow.next, stT (t502 (World.params w)) 445 809 os, cd, ⟨264, 0, 264, 8⟩) := by rw [te1, te2]; exact p9q w os
theorem p10q (w : World) (os : OsState) : PySem.W.Fast.tw10110043849684766642 PySem.W.Fast.tw14364793385576792824 prg w 11 an 1 264 (stT (t502 (World.params w)) 445 809 os) (piecesOf (sts 41 2) env0 cd ⟨264, 0, 264, 8⟩ B1) = some (Flow.next, stT (t526 (World.params w)) 467 859 os, cd, ⟨273, 0, 273, 8⟩) := by kernel_rfl
theorem p10 (w : World) (os : OsState) : segRunT treeTable prg w 11 an 1 264 (stT (t502 (World.params w)) 445 809 os) (piecesOf (sts 41 2) env0 cd ⟨264, 0, 264, 8⟩ B1) = some (Flow.next, stT (t526 (World.params w)) 467 859 os, cd, ⟨273, 0, 273, 8⟩) := by rw [te1, te2]; exact p10q w os
theorem p11q (w : World) (os : OsState) : PySem.W.Fast.tw10110043849684766642 PySem.W.Fast.tw14364793385576792824 prg w 11 an 1 418 (stT (t526 (World.params w)) 467 859 os) (piecesOf (sts 43 1) env0 cd ⟨273, 0, 273, 8⟩ B1) = some (Flow.next, stT (t591 (World.params w)) 530 939 os, cd, ⟨274, 0, 303, 17⟩) := by kernel_rfl
theorem p11 (w : World) (os : OsState) : segRunT treeTable prg w 11 an 1 418 (stT (t526 (World.params w)) 467 859 os) (piecesOf (sts 43 1) env0 cd ⟨273, 0, 273, 8⟩ B1) = some (Flow.next, stT (t591 (World.params w)) 530 939 os, cd, ⟨274, 0, 303, 17⟩) := by rw [te1, te2]; exact p11q w os
theorem p12q (w : World) (os : OsState) : PySem.W.Fast.tw10110043849684766642 PySem.W.Fast.tw14364793385576792824 prg w 11 an 1 253 (stT (t591 (World.params w)) 530 939 os) (piecesOf (sts 44 10) env0 cd ⟨274, 0, 303, 17⟩ B1) = some (Flow.next, stT (t638 (World.params w)) 575 1018 os, cd, ⟨337, 0, 370, 83⟩) := by kernel_rfl
theorem p12 (w : World) (os : OsState) : segRunT treeTable prg w 11 an 1 253 (stT (t591 (World.params w)) 530 939 os) (piecesOf (sts 44 10) env0 cd ⟨274, 0, 303, 17⟩ B1) = some (Flow.next, stT (t638 (World.params w)) 575 1018 os, cd, ⟨337, 0, 370, 83⟩) := by rw [te1, te2]; exact p12q w os
theorem pre0 (w : World) (os : OsState) : topGo treeTable prg w 11 an 12 ⟨boot_heap w.params, #[], boot_drawn, boot_toks, os⟩ (topStub prg) = some (⟨h46 w.params, #[], {}, 187, os⟩, ⟨denote treeTable cd, cd, q0, B1⟩) := by
  rw [te3, te2, te6]; kernel_rfl
theorem blk0 (w : World) (os : OsState) : segRun treeTable prg w 11 an 1 1 ⟨h46 w.params, #[], {}, 187, os⟩ (blockOf bd env0 cd q0 B1) = some (Flow.next, (stT (t47 w.params) 15 187 os).abs, cd, q0) := by
  rw [te4, te2]; kernel_rfl
theorem fin0 (w : World) (os : OsState) : topRun treeTable prg w 11 an 2 (stT (t638 w.params) 575 1018 os).abs ⟨doneF .next, cd, ⟨337, 0, 370, 83⟩, B1⟩ = some ⟨h1 w.params, #[], {}, 1018, os⟩ := by
  rw [te5, te2]; kernel_rfl
end Mine
end

section
open PySem PySem.W PyProof.Rows
set_option maxRecDepth 100000
set_option maxHeartbeats 8000000
namespace Mine
abbrev rE : List Stmt := []
noncomputable abbrev r12 : List Stmt := sts 44 10 ++ rE
theorem c12 (w : World) (os : OsState) : topRun treeTable prg w 11 an (253 + (2)) (stT (t591 w.params) 530 939 os).abs (restOf r12 env0 cd ⟨274, 0, 303, 17⟩ [topFrame q0]) = some ⟨h1 w.params, #[], {}, 1018, os⟩ := @piece_app treeTable prg w 11 an env0 q0 253 (2) (stT (t591 w.params) 530 939 os).abs (stT (t638 w.params) 575 1018 os).abs ⟨h1 w.params, #[], {}, 1018, os⟩ (sts 44 10) rE cd ⟨274, 0, 303, 17⟩ ⟨337, 0, 370, 83⟩ (segRun_of (p12 w os)) (fin0 w os)
noncomputable abbrev r11 : List Stmt := sts 43 1 ++ r12
theorem c11 (w : World) (os : OsState) : topRun treeTable prg w 11 an (418 + (253 + (2))) (stT (t526 w.params) 467 859 os).abs (restOf r11 env0 cd ⟨273, 0, 273, 8⟩ [topFrame q0]) = some ⟨h1 w.params, #[], {}, 1018, os⟩ := @piece_app treeTable prg w 11 an env0 q0 418 (253 + (2)) (stT (t526 w.params) 467 859 os).abs (stT (t591 w.params) 530 939 os).abs ⟨h1 w.params, #[], {}, 1018, os⟩ (sts 43 1) r12 cd ⟨273, 0, 273, 8⟩ ⟨274, 0, 303, 17⟩ (segRun_of (p11 w os)) (c12 w os)
noncomputable abbrev r10 : List Stmt := sts 41 2 ++ r11
theorem c10 (w : World) (os : OsState) : topRun treeTable prg w 11 an (264 + (418 + (253 + (2)))) (stT (t502 w.params) 445 809 os).abs (restOf r10 env0 cd ⟨264, 0, 264, 8⟩ [topFrame q0]) = some ⟨h1 w.params, #[], {}, 1018, os⟩ := @piece_app treeTable prg w 11 an env0 q0 264 (418 + (253 + (2))) (stT (t502 w.params) 445 809 os).abs (stT (t526 w.params) 467 859 os).abs ⟨h1 w.params, #[], {}, 1018, os⟩ (sts 41 2) r11 cd ⟨264, 0, 264, 8⟩ ⟨273, 0, 273, 8⟩ (segRun_of (p10 w os)) (c11 w os)
noncomputable abbrev r9 : List Stmt := sts 38 3 ++ r10
theorem c9 (w : World) (os : OsState) : topRun treeTable prg w 11 an (263 + (264 + (418 + (253 + (2))))) (stT (t479 w.params) 424 754 os).abs (restOf r9 env0 cd ⟨183, 0, 239, 16⟩ [topFrame q0]) = some ⟨h1 w.params, #[], {}, 1018, os⟩ := @piece_app treeTable prg w 11 an env0 q0 263 (264 + (418 + (253 + (2)))) (stT (t479 w.params) 424 754 os).abs (stT (t502 w.params) 445 809 os).abs ⟨h1 w.params, #[], {}, 1018, os⟩ (sts 38 3) r10 cd ⟨183, 0, 239, 16⟩ ⟨264, 0, 264, 8⟩ (segRun_of (p9 w os)) (c10 w os)
noncomputable abbrev r8 : List Stmt := sts 37 1 ++ r9
theorem c8 (w : World) (os : OsState) : topRun treeTable prg w 11 an (576 + (263 + (264 + (418 + (253 + (2)))))) (stT (t381 w.params) 328 634 os).abs (restOf r8 env0 cd ⟨182, 0, 182, 8⟩ [topFrame q0]) = some ⟨h1 w.params, #[], {}, 1018, os⟩ := @piece_app treeTable prg w 11 an env0 q0 576 (263 + (264 + (418 + (253 + (2))))) (stT (t381 w.params) 328 634 os).abs (stT (t479 w.params) 424 754 os).abs ⟨h1 w.params, #[], {}, 1018, os⟩ (sts 37 1) r9 cd ⟨182, 0, 182, 8⟩ ⟨183, 0, 239, 16⟩ (segRun_of (p8 w os)) (c9 w os)
noncomputable abbrev r7 : List Stmt := sts 31 6 ++ r8
theorem c7 (w : World) (os : OsState) : topRun treeTable prg w 11 an (165 + (576 + (263 + (264 + (418 + (253 + (2))))))) (stT (t342 w.params) 293 587 os).abs (restOf r7 env0 cd ⟨140, 0, 143, 35⟩ [topFrame q0]) = some ⟨h1 w.params, #[], {}, 1018, os⟩ := @piece_app treeTable prg w 11 an env0 q0 165 (576 + (263 + (264 + (418 + (253 + (2)))))) (stT (t342 w.params) 293 587 os).abs (stT (t381 w.params) 328 634 os).abs ⟨h1 w.params, #[], {}, 1018, os⟩ (sts 31 6) r8 cd ⟨140, 0, 143, 35⟩ ⟨182, 0, 182, 8⟩ (segRun_of (p7 w os)) (c8 w os)
noncomputable abbrev r6 : List Stmt := sts 23 8 ++ r7
theorem c6 (w : World) (os : OsState) : topRun treeTable prg w 11 an (375 + (165 + (576 + (263 + (264 + (418 + (253 + (2)))))))) (stT (t290 w.params) 243 502 os).abs (restOf r6 env0 cd ⟨104, 0, 106, 26⟩ [topFrame q0]) = some ⟨h1 w.params, #[], {}, 1018, os⟩ := @piece_app treeTable prg w 11 an env0 q0 375 (165 + (576 + (263 + (264 + (418 + (253 + (2))))))) (stT (t290 w.params) 243 502 os).abs (stT (t342 w.params) 293 587 os).abs ⟨h1 w.params, #[], {}, 1018, os⟩ (sts 23 8) r7 cd ⟨104, 0, 106, 26⟩ ⟨140, 0, 143, 35⟩ (segRun_of (p6 w os)) (c7 w os)
noncomputable abbrev r5 : List Stmt := sts 7 16 ++ r6
theorem c5 (w : World) (os : OsState) : topRun treeTable prg w 11 an (384 + (375 + (165 + (576 + (263 + (264 + (418 + (253 + (2))))))))) (stT (t211 w.params) 166 395 os).abs (restOf r5 env0 cd ⟨34, 0, 58, 45⟩ [topFrame q0]) = some ⟨h1 w.params, #[], {}, 1018, os⟩ := @piece_app treeTable prg w 11 an env0 q0 384 (375 + (165 + (576 + (263 + (264 + (418 + (253 + (2)))))))) (stT (t211 w.params) 166 395 os).abs (stT (t290 w.params) 243 502 os).abs ⟨h1 w.params, #[], {}, 1018, os⟩ (sts 7 16) r6 cd ⟨34, 0, 58, 45⟩ ⟨104, 0, 106, 26⟩ (segRun_of (p5 w os)) (c6 w os)
noncomputable abbrev r4 : List Stmt := sts 6 1 ++ r5
theorem c4 (w : World) (os : OsState) : topRun treeTable prg w 11 an (415 + (384 + (375 + (165 + (576 + (263 + (264 + (418 + (253 + (2)))))))))) (stT (t146 w.params) 103 318 os).abs (restOf r4 env0 cd ⟨29, 0, 33, 30⟩ [topFrame q0]) = some ⟨h1 w.params, #[], {}, 1018, os⟩ := @piece_app treeTable prg w 11 an env0 q0 415 (384 + (375 + (165 + (576 + (263 + (264 + (418 + (253 + (2))))))))) (stT (t146 w.params) 103 318 os).abs (stT (t211 w.params) 166 395 os).abs ⟨h1 w.params, #[], {}, 1018, os⟩ (sts 6 1) r5 cd ⟨29, 0, 33, 30⟩ ⟨34, 0, 58, 45⟩ (segRun_of (p4 w os)) (c5 w os)
noncomputable abbrev r3 : List Stmt := sts 5 1 ++ r4
theorem c3 (w : World) (os : OsState) : topRun treeTable prg w 11 an (226 + (415 + (384 + (375 + (165 + (576 + (263 + (264 + (418 + (253 + (2))))))))))) (stT (t122 w.params) 81 287 os).abs (restOf r3 env0 cd ⟨20, 0, 28, 24⟩ [topFrame q0]) = some ⟨h1 w.params, #[], {}, 1018, os⟩ := @piece_app treeTable prg w 11 an env0 q0 226 (415 + (384 + (375 + (165 + (576 + (263 + (264 + (418 + (253 + (2)))))))))) (stT (t122 w.params) 81 287 os).abs (stT (t146 w.params) 103 318 os).abs ⟨h1 w.params, #[], {}, 1018, os⟩ (sts 5 1) r4 cd ⟨20, 0, 28, 24⟩ ⟨29, 0, 33, 30⟩ (segRun_of (p3 w os)) (c4 w os)
noncomputable abbrev r2 : List Stmt := sts 4 1 ++ r3
theorem c2 (w : World) (os : OsState) : topRun treeTable prg w 11 an (251 + (226 + (415 + (384 + (375 + (165 + (576 + (263 + (264 + (418 + (253 + (2)))))))))))) (stT (t100 w.params) 62 257 os).abs (restOf r2 env0 cd ⟨14, 0, 19, 25⟩ [topFrame q0]) = some ⟨h1 w.params, #[], {}, 1018, os⟩ := @piece_app treeTable prg w 11 an env0 q0 251 (226 + (415 + (384 + (375 + (165 + (576 + (263 + (264 + (418 + (253 + (2))))))))))) (stT (t100 w.params) 62 257 os).abs (stT (t122 w.params) 81 287 os).abs ⟨h1 w.params, #[], {}, 1018, os⟩ (sts 4 1) r3 cd ⟨14, 0, 19, 25⟩ ⟨20, 0, 28, 24⟩ (segRun_of (p2 w os)) (c3 w os)
noncomputable abbrev r1 : List Stmt := sts 3 1 ++ r2
theorem c1 (w : World) (os : OsState) : topRun treeTable prg w 11 an (248 + (251 + (226 + (415 + (384 + (375 + (165 + (576 + (263 + (264 + (418 + (253 + (2))))))))))))) (stT (t78 w.params) 43 230 os).abs (restOf r1 env0 cd ⟨5, 0, 13, 29⟩ [topFrame q0]) = some ⟨h1 w.params, #[], {}, 1018, os⟩ := @piece_app treeTable prg w 11 an env0 q0 248 (251 + (226 + (415 + (384 + (375 + (165 + (576 + (263 + (264 + (418 + (253 + (2)))))))))))) (stT (t78 w.params) 43 230 os).abs (stT (t100 w.params) 62 257 os).abs ⟨h1 w.params, #[], {}, 1018, os⟩ (sts 3 1) r2 cd ⟨5, 0, 13, 29⟩ ⟨14, 0, 19, 25⟩ (segRun_of (p1 w os)) (c2 w os)
noncomputable abbrev r0 : List Stmt := sts 0 3 ++ r1
theorem c0 (w : World) (os : OsState) : topRun treeTable prg w 11 an (266 + (248 + (251 + (226 + (415 + (384 + (375 + (165 + (576 + (263 + (264 + (418 + (253 + (2)))))))))))))) (stT (t47 w.params) 15 187 os).abs (restOf r0 env0 cd ⟨0, 0, 0, 0⟩ [topFrame q0]) = some ⟨h1 w.params, #[], {}, 1018, os⟩ := @piece_app treeTable prg w 11 an env0 q0 266 (248 + (251 + (226 + (415 + (384 + (375 + (165 + (576 + (263 + (264 + (418 + (253 + (2))))))))))))) (stT (t47 w.params) 15 187 os).abs (stT (t78 w.params) 43 230 os).abs ⟨h1 w.params, #[], {}, 1018, os⟩ (sts 0 3) r1 cd ⟨0, 0, 0, 0⟩ ⟨5, 0, 13, 29⟩ (segRun_of (p0 w os)) (c1 w os)
theorem bd_eq : bd = r0 := by kernel_rfl
theorem run0 (w : World) (os : OsState) : topRun treeTable prg w 11 an (12 + (1 + (266 + (248 + (251 + (226 + (415 + (384 + (375 + (165 + (576 + (263 + (264 + (418 + (253 + (2)))))))))))))))) ⟨boot_heap w.params, #[], boot_drawn, boot_toks, os⟩ (topStub prg) = some ⟨h1 w.params, #[], {}, 1018, os⟩ :=
  @go_top treeTable prg w 11 an 12 (1 + (266 + (248 + (251 + (226 + (415 + (384 + (375 + (165 + (576 + (263 + (264 + (418 + (253 + (2))))))))))))))) _ _ _ _ _ (pre0 w os) (@piece_block treeTable prg w 11 an env0 q0 1 (266 + (248 + (251 + (226 + (415 + (384 + (375 + (165 + (576 + (263 + (264 + (418 + (253 + (2)))))))))))))) _ _ _ bd cd q0 q0 (blk0 w os) ((congrArg (fun b => topRun treeTable prg w 11 an (266 + (248 + (251 + (226 + (415 + (384 + (375 + (165 + (576 + (263 + (264 + (418 + (253 + (2)))))))))))))) (stT (t47 w.params) 15 187 os).abs (restOf b env0 cd q0 [topFrame q0])) bd_eq).trans (c0 w os)))
end Mine
end

section
open PySem PySem.W PyProof.Rows
set_option maxRecDepth 100000
set_option maxHeartbeats 8000000
namespace Mine
noncomputable def view : Program := { prg with main := { prg.main with body := [nth bd 0, nth bd 2, nth bd 3, nth bd 4, nth bd 5, nth bd 6, nth bd 8, nth bd 10, nth bd 12, nth bd 13, nth bd 15, nth bd 16, nth bd 17, nth bd 18, nth bd 19, nth bd 20, nth bd 21, nth bd 22, nth bd 23, nth bd 24, nth bd 25, nth bd 26, nth bd 27, nth bd 28, nth bd 29, nth bd 30, nth bd 31, nth bd 32, nth bd 33, nth bd 34, nth bd 35, nth bd 37, nth bd 39, nth bd 41, nth bd 43, nth bd 45, nth bd 46, nth bd 47, nth bd 48, nth bd 49, nth bd 50, nth bd 51, nth bd 52, nth bd 53] } }
abbrev lz : List Str := ["UNDOERS", "Limits"]
abbrev sh (h : Heap) (os : OsState) : Shared := ⟨h, #[], {}, 1018, os⟩
noncomputable abbrev Xt : Shared → Bool := fun s => xlAt view [] s && recOk (RowW.records PySem.Challenge.rw_nz0194_01.row.toRowW) s
theorem size0 (w : World) : ((boot_heap w.params).isNs mainGlobals && (#[] : Array GenState).size == 0, (boot_heap w.params).objs.size, (boot_heap w.params).nsMap mainGlobals "__annotations__") = (true, 11, an) := by kernel_rfl
theorem look1 (w : World) (os : OsState) : (staticsOk (importedModules prg.main.body) (boot_heap w.params) (h1 w.params) && namesBound prg (h1 w.params) && gensDone (sh (h1 w.params) os) && laidKept (boot_heap w.params) (h1 w.params)) = true := by kernel_rfl
theorem opn1 : opening prg = plainProg prg.main.scope.names := by kernel_rfl
theorem opn2 (s : Shared) : fenceModules? prg s = some s := by kernel_rfl
theorem opn (w : World) : (fencedOpening treeTable prg w 8308).map (fun s => (s.heap, s.gens, s.drawn, s.toks)) = some (boot_heap w.params, Array.mk [], boot_drawn, boot_toks) := boot_open opn1 (by decide) opn2 w
theorem lk1 (w : World) (os : OsState) : (seen ((recsOf view).map (·.name)) (ownsOf view) [] { (sh (h1 w.params) os) with gens := #[] }, (h1 w.params).bltView, (h1 w.params).keysOk (looseW view lz) ((recsOf view).map (·.name)) ((litsOf view).map (·.1)) ((clssOf view (looseW view lz)).map (·.name)) && (h1 w.params).accountedOkI (importedModules prg.main.body) && (h1 w.params).isNs mainGlobals && (h1 w.params).isNs builtinsNs && tablesOk view (h1 w.params) && Xt (sh (h1 w.params) os) && (if (true : Bool) then (#[] : Array GenState).size == 0 else !leftWithCleanup (#[] : Array GenState))) = (expectedOf view, bltViewBooted, true) := by kernel_rfl
theorem lk4 (w : World) (os : OsState) : (tabsOk view (sh (h1 w.params) os), pinSeenD view (drecsOf view) (sh (h1 w.params) os)) = (true, pinGoodD (drecsOf view)) := by kernel_rfl
theorem lk6 (w : World) (os : OsState) : plainSeenE view (looseW view lz) (sh (h1 w.params) os) = plainGoodE view (looseW view lz) := by kernel_rfl
theorem lk7 (w : World) (os : OsState) : (plainSeenD view lz (sh (h1 w.params) os), wideSeen view (sh (h1 w.params) os), clsSeenW view lz (sh (h1 w.params) os)) = (plainGoodD view lz, wideGood view, clsGoodW view lz) := by kernel_rfl
theorem look2 (w : World) (os : OsState) : openSeen view lz (importedModules prg.main.body) Xt true (sh (h1 w.params) os) = openGood view lz :=
  looks_pair (congrArg (·.1) (lk1 w os)) (looks_pair (congrArg (·.2.1) (lk1 w os)) (looks_pair (congrArg (·.2.2) (lk1 w os)) (looks_pair (congrArg (·.1) (lk4 w os)) (looks_pair (congrArg (·.2) (lk4 w os)) (looks_pair (lk6 w os) (lk7 w os))))))
end Mine
end

section
open PySem PySem.W PyProof.Rows
set_option maxRecDepth 100000
set_option maxHeartbeats 8000000
namespace Mine
theorem leftO {α : Type} (Yf : Shared → α) (Ya : World → α) (hY : ∀ w os, Yf (sh (h1 w.params) os) = Ya w) : LeftO prg view lz Xt Yf Ya 8308 true :=
  LeftO.of_pieces (m₀ := 11) (ann := an) opn size0 run0 (by decide) (fun w => funext fun os => looks_pair (look1 w os) (looks_pair (look2 w os) (hY w os)))
noncomputable abbrev rl : OpenLaw := PySem.Challenge.rw_nz0194_01
theorem tz3 : @namesResolve = @PySem.W.Fast.tw8377067652309620493 := PySem.W.Fast.te8377067652309620493
theorem tz4 : @noRoadLSs = @PySem.W.Fast.tw8326940854005059898 := PySem.W.Fast.te8326940854005059898
theorem tz5 : @namesMeet = @PySem.W.Fast.tw17119622794617984870 := PySem.W.Fast.te17119622794617984870
theorem tz6 : @readsOut = @PySem.W.Fast.tw13343964577679436407 := PySem.W.Fast.te13343964577679436407
theorem tz7 : @attrL = @PySem.W.Fast.tw17868728402115742887 := PySem.W.Fast.te17868728402115742887
theorem tz8 : @defStands = @PySem.W.Fast.tw9558739934217749035 := PySem.W.Fast.te9558739934217749035
theorem tz9 : @OpenLaw.namesIt = @PySem.W.Fast.tw16286561074155671207 := PySem.W.Fast.te16286561074155671207
theorem ws_a : (sreFenced prg.main && ((moduleNames prg.main.body).isEmpty || lookedIntoSs (moduleNames prg.main.body) prg.main.body)) = true := by kernel_rfl
theorem ws_bq : PySem.W.Fast.tw8377067652309620493 prg = true := by kernel_rfl
theorem ws_b : namesResolve prg = true := (congrFun tz3 prg).trans ws_bq
theorem ws_c : (prg.boundNames.all fun n => !worldNames.contains n) = true := by kernel_rfl
theorem ws_dr : (["vars", "dir", "locals"] : List Str).filter (readsOut prg prg.main.body) = [] := by rw [tz6]; kernel_rfl
theorem ws_dq : PySem.W.Fast.tw8326940854005059898 { strict := !(importedModules prg.main.body).all cThrough.contains, foot := none, bare := [] } prg.main.body = true := by kernel_rfl
theorem ws_d : noRoadLSs { strict := !(importedModules prg.main.body).all cThrough.contains, foot := none, bare := (["vars", "dir", "locals"] : List Str).filter (readsOut prg prg.main.body) } prg.main.body = true := by rw [ws_dr, tz4]; exact ws_dq
theorem ws_eq : (PySem.W.Fast.tw17119622794617984870 prg prg.main.body fun _ n => PySem.W.Fast.tw17868728402115742887 n) = true := by kernel_rfl
theorem ws_e : (namesMeet prg prg.main.body fun _ n => attrL n) = true := by rw [tz5, tz7]; exact ws_eq
theorem ws_f : looksOpen rl.row.prog = true := look_both (look_both (look_both (look_both ws_a ws_b) ws_c) ws_d) ws_e
theorem ws_g : rl.row.wellSaid = true := by unfold OpenRow.wellSaid OpenRow.partSaid; rw [ws_f]; kernel_rfl
theorem ws_h1 : (decide (rl.foot ≤ (behindTheImports rl.prog).length) && rl.footing.all footLine && noClassBlock rl.prog rl.footing && rl.most.all (fun n => decide (63 ≤ n)) && rl.bound.all (fun n => decide (2 ^ 63 ≤ n))) = true := by kernel_rfl
theorem ws_h2q : PySem.W.Fast.tw8326940854005059898 { strict := true, foot := some rl.bound', writes := rl.writes, may := rl.may } rl.footing = true := by kernel_rfl
theorem ws_h2 : noRoadLSs { strict := true, foot := some rl.bound', writes := rl.writes, may := rl.may } rl.footing = true := by rw [tz4]; exact ws_h2q
theorem ws_h3 : (defStands rl.about rl.above && rl.namesIt && (["type", "isinstance", "issubclass", "getattr", "hasattr"] : List Str).all (fun n => rl.about != [n])) = true := by kernel_rfl
theorem ws_h4 : (rl.bound'.all (fun n => !builtinNamed n || rl.about == [n] || !rl.reads n)) = true := by kernel_rfl
theorem ws_h5 : ((!rl.writes || (rl.prog.main.body.flatMap importedNames).all fun n => !rl.reads n) && (rl.prog.main.body.flatMap importedNames).all (fun n => !rl.reads n || (drawsOf n rl.prog.main.body).all fun mn => mn.2 != ("attrgetter" : Str) && mn.2 != ("methodcaller" : Str))) = true := by kernel_rfl
theorem ws_h6q : (PySem.W.Fast.tw17119622794617984870 rl.prog rl.footing (fun sc n => (!(["type", "isinstance", "issubclass", "getattr", "hasattr"] : List Str).contains n || sc.names.lookup n == some .globalImplicit) &&
    (rl.may != some n || sc.kind == .module || sc.names.lookup n == some .globalImplicit))) = true := by kernel_rfl
theorem ws_h6 : (namesMeet rl.prog rl.footing (fun sc n => (!(["type", "isinstance", "issubclass", "getattr", "hasattr"] : List Str).contains n || sc.names.lookup n == some .globalImplicit) &&
    (rl.may != some n || sc.kind == .module || sc.names.lookup n == some .globalImplicit))) = true := by rw [tz5]; exact ws_h6q
theorem ws_h7 : (rl.own.contains rl.name && rl.own.eraseDups.length == rl.own.length && rl.own.all (fun n => !builtinNamed n)) = true := by kernel_rfl
theorem ws_h8q : (PySem.W.Fast.tw17119622794617984870 rl.prog rl.above (fun _ n => !rl.own.contains n)) = true := by kernel_rfl
theorem ws_h8 : (namesMeet rl.prog rl.above (fun _ n => !rl.own.contains n)) = true := by rw [tz5]; exact ws_h8q
theorem ws_h9q : (PySem.W.Fast.tw17119622794617984870 rl.prog rl.footing fun sc n => sc.kind == .module || sc.names.lookup n != some .globalExplicit) = true := by kernel_rfl
theorem ws_h9 : (namesMeet rl.prog rl.footing fun sc n => sc.kind == .module || sc.names.lookup n != some .globalExplicit) = true := by rw [tz5]; exact ws_h9q
theorem and5 {a b c d e f : Bool} (h : (b && c && d && e && f) = true) (g : a = true) : (a && b && c && d && e && f) = true := by cases a <;> simp_all
theorem and3 {a b c d : Bool} (g : a = true) (h : (b && c && d) = true) : (a && b && c && d) = true := by cases a <;> simp_all
theorem and2 {a b c : Bool} (g : a = true) (h : (b && c) = true) : (a && b && c) = true := by cases a <;> simp_all
theorem wellSaid : PySem.Challenge.rw_nz0194_01.wellSaid = true := by
  unfold OpenLaw.wellSaid
  exact look_both (look_both (and3 (look_both (and2 (look_both (and3 (look_both (and5 ws_h1 ws_g) ws_h2) ws_h3) ws_h4) ws_h5) ws_h6) ws_h7) ws_h8) ws_h9
local macro_rules
  | `(tactic| o_law) => `(tactic| refine holds_law wellSaid fun said => ?_)
local macro_rules
  | `(tactic| o_head $H) => do
    let hw := Lean.mkIdent `hw
    let hc := Lean.mkIdent `hc
    `(tactic| (
      refine holds_open (q := view) (loose := lz) (Xt := Xt) (XP := XL view []) (Yf := Hook.obs $H) (Ya := Hook.val $H) (YP := Hook.says $H) (N := 8308) (leftO _ _ (fun w os => by as_aux_lemma => kernel_rfl)) (Hook.of $H) (Hook.keeps $H) (fun s e => xl_of s (Bool.and_eq_true_iff.mp e).1) XL.keeps (by rfl) (by rfl) (by rfl) (fun s e => recFacts_of (Bool.and_eq_true_iff.mp e).2) (by rfl) (by assumption) (by decide +kernel) ⟨rfl, rfl, rfl, rfl, rfl, by decide +kernel⟩ ?$hw ?$hc))
open_top hd for PySem.Challenge.rw_nz0194_01
end Mine
end

section
open PySem PySem.W PyProof.Rows
namespace Mine
abbrev Led := List (Addr × Obj)
noncomputable abbrev lo : List Str := looseW view [Str.ofString "UNDOERS", Str.ofString "Limits"]
abbrev penO (n : Int) (t : Tok) (k : Int) (u : Tok) (c : Nat) : Obj := listOf #[.int n t, .int k u] c
abbrev tupO (vs : Array Value) : Obj := { cls := .type "tuple", data := .seq vs }

def Con (w : World) (f : Addr) (vs : List Value) (room units : Nat) (news : Led) (Post : Value → Led → Prop) : Prop :=
  ∀ (mean : ExcName → Option Value) (mg mb : Str → Option Value) (dp un : Nat) (gd : Option (List Code)) (cn : Str) (cs : Scope) (a : Addr) (ccd : Value) (cl : List (Str × Addr)) (outer : List Env) (A₀ : Around) (base h₀ : Heap) (L : Addr) (m : Str → Option Value) (s : Shared) (Q E : Value → Shared → Prop),
    Below A₀ base outer h₀ → Fr h₀ L s.heap m → (hd.heap_1 w.params).In h₀ → News h₀ L s.heap news → Top view lo mean mg mb h₀ → cs.kind = .function → dp + room < recursionLimit → un + units < cLine →
    (∀ r news' h' tk', Post r news' → Fr h₀ L h' m → News h₀ L h' news' → Q r { s with heap := h', toks := tk' }) →
    wpAny (model PySem.Challenge.rw_nz0194_01.row.prog w) (ktrTop dp un gd cn cs L a ccd cl outer) (call (.ref f) vs) Q E s

/-- a goal the walk leaves to the hand -/
structure Hold (P : Prop) : Prop where
  it : P
theorem Hold.of {P : Prop} (h : Hold P) : P := h.it
theorem Hold.out {P : Prop} (h : P) : Hold P := ⟨h⟩

theorem no_import : importsNone view = true := by decide +kernel

theorem mem_split {p : Addr} {o : Obj} {pre post : Led} : ∀ x ∈ (p, o) :: (pre ++ post), x ∈ pre ++ (p, o) :: post := fun x hx => by
  rcases List.mem_cons.mp hx with h | h
  · exact List.mem_append_right _ (h ▸ .head _)
  · rcases List.mem_append.mp h with h | h
    · exact List.mem_append_left _ h
    · exact List.mem_append_right _ (.tail _ h)
theorem mem_join {p : Addr} {o : Obj} {pre post : Led} : ∀ x ∈ pre ++ (p, o) :: post, x ∈ (p, o) :: (pre ++ post) := fun x hx => by
  rcases List.mem_append.mp hx with h | h
  · exact .tail _ (List.mem_append_left _ h)
  · rcases List.mem_cons.mp h with h | h
    · exact h ▸ .head _
    · exact .tail _ (List.mem_append_right _ h)
theorem off_split {p : Addr} {pre post : Led} (h1 : ∀ q ∈ pre, q.1 ≠ p) (h2 : ∀ q ∈ post, q.1 ≠ p) : OwnOff (pre ++ post) [p] := fun x hx b hb => by
  rw [List.mem_singleton.mp hb]
  exact (List.mem_append.mp hx).elim (h1 x) (h2 x)
theorem of_allLt {d : Addr} : ∀ {l : Led}, AllLt d l → ∀ p ∈ l, p.1 < d
  | [], _, _, h => (nomatch h)
  | _ :: _, h, p, hp => by
    rcases List.mem_cons.mp hp with e | e
    · exact e ▸ h.1
    · exact of_allLt h.2 p e
theorem drop2 {a b c : Addr × Obj} {rest : Led} : ∀ x ∈ a :: c :: rest, x ∈ a :: b :: c :: rest := fun x hx => by
  rcases List.mem_cons.mp hx with e | e
  · exact e ▸ .head _
  · exact .tail _ (.tail _ e)
theorem memTail {x : Addr × Obj} {a b : Led} (h : x ∈ a ++ b) : List.Mem x (a ++ b) := h
theorem ownOff_nil {own : Led} : OwnOff own [] := fun _ _ _ h => (nomatch h)
theorem ownOff_cons {own : Led} {a : Addr} {adr : List Addr} (h : ∀ z ∈ own, z.1 ≠ a) (h' : OwnOff own adr) : OwnOff own (a :: adr) := fun z hz b hb => by
  rcases List.mem_cons.mp hb with e | e
  · exact e ▸ h z hz
  · exact h' z hz b e
theorem ownOff_app {own own' : Led} {adr : List Addr} (h : OwnOff own adr) (h' : OwnOff own' adr) : OwnOff (own ++ own') adr := fun z hz => (List.mem_append.mp hz).elim (h z) (h' z)
theorem ownOff_one {q : Addr} {o : Obj} {adr : List Addr} (h : ∀ b ∈ adr, q ≠ b) : OwnOff [(q, o)] adr := fun z hz b hb => by
  rw [List.mem_singleton.mp hz]; exact h b hb
theorem ownOff_lt {own : Led} {B : Addr} (h : AllLt B own) {adr : List Addr} (hb : ∀ b ∈ adr, B ≤ b) : OwnOff own adr := fun z hz b hb' => by
  exact Nat.ne_of_lt (Nat.lt_of_lt_of_le (of_allLt h z hz) (hb b hb'))
theorem allLt_app {d : Addr} {a b : Led} (h : ∀ z ∈ a, z.1 < d) (h' : ∀ z ∈ b, z.1 < d) : AllLt d (a ++ b) := allLt_of fun z hz => (List.mem_append.mp hz).elim (h z) (h' z)
theorem allLt_mono {a b : Addr} {l : Led} (h : AllLt a l) (hab : a ≤ b) : AllLt b l := allLt_of fun z hz => Nat.lt_of_lt_of_le (of_allLt h z hz) hab
theorem off_of_lt {d : Addr} {l : Led} (h : ∀ p ∈ l, p.1 < d) : ∀ p ∈ l, p.1 ≠ d := fun p hp => Nat.ne_of_lt (h p hp)

section
variable {prog : Program} {w : World} {A : Around} {h₀ : Heap} {L : Addr} {m : Str → Option Value} {env : Env} {elt : Expr} {x : Str} {scope : Scope} {cl : List (Str × Addr)} {s : Shared} {S : Led → Prop} {P : Nat → Value → Prop} {Fin : List Value → Led → Prop}
/-- a comprehension by an invariant over what it has built and the ledger -/
theorem comp_inv {n : Nat} (J : Nat → List Value → Led → Prop)
    (turn : ∀ i v ys nx I oI C oC D m₂ h tk (E' : Value → Shared → Prop), i < n → J i ys nx → P i v → LCg.NsObj oC m₂ → m₂ x = some v → Fr h₀ L h m → News h₀ L h ((I, oI) :: (C, oC) :: (D, LCg.lst ys) :: nx) → LCg.Off3 I C D nx → ((@Ne Nat I C) ∧ (@Ne Nat I D) ∧ (@Ne Nat C D)) →
      wpAny (model prog w) A (eval elt (compEnvC scope cl C env)) (LCg.CompEnd h₀ L m { s with heap := h, toks := tk } I oI C oC D (LCg.lst ys) S (fun y nx' => J (i + 1) (ys ++ [y]) nx')) E' { s with heap := h, toks := tk })
    (fin : ∀ ys nx, J n ys nx → Fin ys nx) {nx : Led} (start : J 0 [] nx) : LCg.CompRest prog w A h₀ L m env elt x scope cl s S P Fin n 0 [] nx := by
  have key : ∀ (j i : Nat) (ys : List Value) (nx : Led), i + j = n → J i ys nx → LCg.CompRest prog w A h₀ L m env elt x scope cl s S P Fin j i ys nx := by
    intro j
    induction j with
    | zero =>
      intro i ys nx hi hj
      have e : i = n := by omega
      exact LCg.CompRest.zero (fin ys nx (e ▸ hj))
    | succ j ih =>
      intro i ys nx hi hj
      refine LCg.CompRest.succ ?_
      intro v I oI C oC D m₂ h tk E' hv hC hx F N off ne
      refine wpAny_mono (turn i v ys nx I oI C oC D m₂ h tk E' (by omega) hj hv hC hx F N off ne) (fun y s₂ hq => ?_) fun _ _ e => e
      obtain ⟨h', tk', nw, e, F', N', off', hS, hJ⟩ := hq
      exact ⟨h', tk', nw, e, F', N', off', hS, ih (i + 1) _ nw (by omega) hJ⟩
  exact key n 0 [] nx (by omega) start
end

theorem small_range {a b : Int} (h0 : a ≤ b) (h1 : b < 1000000) (h2 : -1000000 < a) : Builtin.Range.small a b 1 = true ∧ Builtin.Range.rangeSize a b 1 = (((b - a).toNat : Nat) : Int) := by
  have e : Builtin.Range.rangeSize a b 1 = (((b - a).toNat : Nat) : Int) := by rw [rangeSize_one]; split <;> omega
  refine ⟨?_, e⟩
  unfold Builtin.Range.small
  rw [e]
  simp only [Builtin.Range.rangeFitsLong, Bool.and_eq_true, decide_eq_true_eq, Bool.or_eq_true, beq_iff_eq]
  refine ⟨⟨⟨⟨by omega, by omega⟩, by omega⟩, by omega⟩, .inr ?_⟩
  rw [if_pos (by decide)]
  simp only [Bool.and_eq_true, decide_eq_true_eq]
  omega
theorem carried_snoc {vs : List Value} {ds : List PyData} {v : Value} {d : PyData} (h : CarriedAll vs ds) (hv : Carried v d) : CarriedAll (vs ++ [v]) (ds ++ [d]) := h.appendLM (.cons hv .nil)
section
variable {prog : Program} {w : World} {A : Around} {h₀ : Heap} {L : Addr} {m : Str → Option Value} {env : Env} {elt : Expr} {x : Str} {scope : Scope} {cl : List (Str × Addr)}
theorem src_range0 {Fin : Shared → List Value → Led → Prop} {r : Addr} {b : Int} {t u v : Tok} {news : Led} {s₁ : Shared}
    (hh : A.handled = none) (F : Fr h₀ L s₁.heap m) (N : News h₀ L s₁.heap news) (hr : IsRange s₁.heap r 0 b 1 t u v) (h0 : 0 ≤ b) (h1 : b < 1000)
    (h : ∀ g, LCg.CompRest prog w A h₀ L m env elt x scope cl { s₁ with heap := g } (fun _ => True) (fun i v => ∃ t, v = .int (0 + (i : Int)) t) (Fin { s₁ with heap := g }) b.toNat 0 [] news) :
    LCg.CompSrc prog w A h₀ L m env elt x scope cl Fin (.ref r) s₁ :=
  LCg.CompSrc.range hh F N hr (small_range h0 (by omega) (by omega)).1 (by rw [(small_range h0 (by omega) (by omega)).2]; simp) (by rw [sizeLine_eq]; omega) h
end

section
variable {prog : Program} {w : World} {A : Around} {E : Value → Shared → Prop} {s : Shared} {env : Env} {h₀ : Heap} {x : Str} {body : List Stmt} {Q : Flow → Shared → Prop}

/-- the end of a loop's turn: the iterator as it stood, the rest by the invariant -/
def TurnEnd' (h₀ : Heap) (L : Addr) (I : Addr) (oI : Obj) (J : (Str → Option Value) → Led → Prop) (s₁ : Shared) (Q : Flow → Shared → Prop) (f : Flow) (s₂ : Shared) : Prop :=
  match f with
  | .ret v => Q (.ret v) s₂
  | .brk => Q .next s₂
  | _ => ∃ h' tk m' nx, s₂ = { s₁ with heap := h', toks := tk } ∧ Fr h₀ L h' m' ∧ News h₀ L h' ((I, oI) :: nx) ∧ (∀ p ∈ nx, p.1 ≠ I) ∧ J m' nx
structure TurnEnd (h₀ : Heap) (L : Addr) (I : Addr) (oI : Obj) (J : (Str → Option Value) → Led → Prop) (s₁ : Shared) (Q : Flow → Shared → Prop) (f : Flow) (s₂ : Shared) : Prop where
  it : TurnEnd' h₀ L I oI J s₁ Q f s₂
theorem TurnEnd.intro {L I : Addr} {oI : Obj} {J : (Str → Option Value) → Led → Prop} {s₁ : Shared} {h' : Heap} {tk : Nat} {m' : Str → Option Value} (nx : Led) (F : Fr h₀ L h' m') (N : News h₀ L h' ((I, oI) :: nx)) (ha : ∀ p ∈ nx, p.1 ≠ I) (hJ : J m' nx) :
    TurnEnd h₀ L I oI J s₁ Q .next { s₁ with heap := h', toks := tk } := ⟨⟨h', tk, m', nx, rfl, F, N, ha, hJ⟩⟩

theorem range_J {r : Addr} {a b : Int} {t u v : Tok} {n : Nat} {m₀ : Str → Option Value} {news : Led} (J : Nat → (Str → Option Value) → Led → Prop)
    (hh : A.handled = none) (hr : IsRange s.heap r a b 1 t u v) (hsm : Builtin.Range.small a b 1 = true) (hn : Builtin.Range.rangeSize a b 1 = (n : Int)) (F : Fr h₀ env.locals s.heap m₀) (N : News h₀ env.locals s.heap news) (hj : J 0 m₀ news)
    (turn : ∀ i t' m₁ nx I oI h tk, i < n → J i m₁ nx → (∀ p ∈ nx, p.1 ≠ I) → Fr h₀ env.locals h (fun y => if y = x then some (.int (a + (i : Int)) t') else m₁ y) → News h₀ env.locals h ((I, oI) :: nx) →
      wpAny (model prog w) A (execs body env) (TurnEnd h₀ env.locals I oI (J (i + 1)) { s with heap := h, toks := tk } Q) E { s with heap := h, toks := tk })
    (done : ∀ m₁ nx h tk, J n m₁ nx → Fr h₀ env.locals h m₁ → News h₀ env.locals h nx → Q .next { s with heap := h, toks := tk }) :
    wpAny (model prog w) A (pyIter (.ref r)) (fun it s₂ => LoopAtV prog w A h₀ env x body Q E it s₂) E s := by
  refine wpAny_pyIter_range hr hsm ?_
  have W : Walks prog w A s.heap.objs.size [s.heap.objs.size] [s.heap.objs.size] n (fun i v => i < n ∧ ∃ t, v = .int (a + i * 1) t)
      (fun i h => IsRangeIter h s.heap.objs.size (a + (i : Nat) * 1) ((n : Int) - (i : Nat)) 1) := (Walks.range hh _ a 1 n).bound
  refine ⟨_, _, _, n, _, _, m₀, news, J, rfl, W, ?_, ?_, ?_, (by show IsRangeIter _ _ _ _ _; rw [hn]; simpa using Heap.get?_push_size _ rfl), F.push _, (fun p hp => ⟨Heap.get?_push_of_some _ (N p hp).1, (N p hp).2⟩), hj, ?_, ?_⟩
  · intro hm
    exact absurd F.ns.lt ((List.mem_singleton.mp hm) ▸ Nat.lt_irrefl _)
  · intro b hb
    rw [List.mem_singleton.mp hb]
    exact next_is_new F
  · intro p hp hI
    exact absurd (Heap.lt_size (N p hp).1) ((List.mem_singleton.mp hI) ▸ Nat.lt_irrefl _)
  · rintro i v m₁ nx s₁ own ⟨hh', tk', rfl⟩ hin ⟨_, t', rfl⟩ hJ hoff hown hget hall hst F₁ N₁
    obtain ⟨oI, hI⟩ : ∃ oI, hh'.get? s.heap.objs.size = some oI := ⟨_, hst⟩
    have hm := hall _ (List.mem_singleton.mpr rfl) (next_is_new F) _ hI
    rw [Int.mul_one] at F₁
    refine wpAny_mono (turn i t' m₁ nx s.heap.objs.size oI hh' tk' hin hJ (fun p hp q => hoff p hp (List.mem_singleton.mpr q)) F₁ (fun p hp => by
      rcases List.mem_cons.mp hp with e | e
      · exact e ▸ N₁ _ (List.mem_append_left _ hm)
      · exact N₁ _ (List.mem_append_right _ e))) (fun f s₂ p => ?_) fun _ _ e => e
    have fin : (∃ h' tk m' nx, s₂ = { s with heap := h', toks := tk } ∧ Fr h₀ env.locals h' m' ∧ News h₀ env.locals h' ((s.heap.objs.size, oI) :: nx) ∧ (∀ p ∈ nx, p.1 ≠ s.heap.objs.size) ∧ J (i + 1) m' nx) →
        LoopStepU h₀ env.locals [s.heap.objs.size] own (J (i + 1)) { s with heap := hh', toks := tk' } .next s₂ := by
      rintro ⟨h', tk, m', nx', e, F', N', ha, hj'⟩
      refine ⟨rfl, h', tk, m', nx', e, F', fun p hp => ?_, fun p hp hb => ha p hp (List.mem_singleton.mp hb), hj'⟩
      rcases List.mem_append.mp hp with e | e
      · have h1 : p.1 = s.heap.objs.size := List.mem_singleton.mp (hown p e)
        have h2 := hget p e
        have h3 : hh'.get? p.1 = some oI := h1 ▸ hI
        have h4 : p = (s.heap.objs.size, oI) := Prod.ext h1 (Option.some.inj (h2.symm.trans h3))
        rw [h4]
        exact N' _ (.head _)
      · exact N' _ (.tail _ e)
    replace p := p.it
    cases f with
    | ret v => exact .ret p
    | brk => exact .brk p
    | next => exact .next (fin p)
    | cont => exact .cont (fin p)
  · rintro h' tk m' news' F' N' _ hJ
    exact done m' news' h' tk hJ F' N'
end

/-- the groups of a match, as the ledger bears them: a pair of places in a text of n signs, or nothing -/
inductive GroupsAt (led : Led) (n : Nat) : List Value → List (Option (Int × Int)) → Prop
  | nil : GroupsAt led n [] []
  | none {vs gs} : GroupsAt led n vs gs → GroupsAt led n (.none :: vs) (none :: gs)
  | some {q : Addr} {a b : Int} {ta tb : Tok} {vs gs} : (q, tupO #[.int a ta, .int b tb]) ∈ led → 0 ≤ a → a ≤ b → b ≤ (n : Int) → GroupsAt led n vs gs → GroupsAt led n (.ref q :: vs) (some (a, b) :: gs)
theorem GroupsAt.mono {led led' : Led} {n : Nat} {vs : List Value} {gs : List (Option (Int × Int))} (h : GroupsAt led n vs gs) (hs : ∀ p ∈ led, p ∈ led') : GroupsAt led' n vs gs := by
  induction h with
  | nil => exact .nil
  | none _ ih => exact .none ih
  | some hm h1 h2 h3 _ ih => exact .some (hs _ hm) h1 h2 h3 ih
theorem GroupsAt.append {led : Led} {n : Nat} {vs vs' : List Value} {gs gs' : List (Option (Int × Int))} (h : GroupsAt led n vs gs) (h' : GroupsAt led n vs' gs') : GroupsAt led n (vs ++ vs') (gs ++ gs') := by
  induction h with
  | nil => exact h'
  | none _ ih => exact .none ih
  | some hm h1 h2 h3 _ ih => exact .some hm h1 h2 h3 ih
theorem GroupsAt.length {led : Led} {n : Nat} {vs : List Value} {gs : List (Option (Int × Int))} (h : GroupsAt led n vs gs) : vs.length = gs.length := by
  induction h with
  | nil => rfl
  | none _ ih => simp [ih]
  | some _ _ _ _ _ ih => simp [ih]
theorem GroupsAt.at {led : Led} {n : Nat} {vs : List Value} {gs : List (Option (Int × Int))} (h : GroupsAt led n vs gs) : ∀ {i : Nat}, i < vs.length → ∃ v g, vs[i]? = Option.some v ∧ gs[i]? = Option.some g ∧ GroupsAt led n [v] [g] := by
  induction h with
  | nil => intro i hi; simp at hi
  | none h ih =>
    intro i hi
    cases i with
    | zero => exact ⟨_, _, rfl, rfl, .none .nil⟩
    | succ i =>
      obtain ⟨v, g, q1, q2, q3⟩ := ih (i := i) (by simpa using hi)
      exact ⟨v, g, by simpa using q1, by simpa using q2, q3⟩
  | some hm h1 h2 h3 h ih =>
    intro i hi
    cases i with
    | zero => exact ⟨_, _, rfl, rfl, .some hm h1 h2 h3 .nil⟩
    | succ i =>
      obtain ⟨v, g, q1, q2, q3⟩ := ih (i := i) (by simpa using hi)
      exact ⟨v, g, by simpa using q1, by simpa using q2, q3⟩
section
variable {prog : Program} {w : World} {A : Around} {E : Value → Shared → Prop} {s : Shared} {h₀ : Heap} {L l : Addr} {news : Led} {Q : Value → Shared → Prop}
theorem item_led {value slice : Expr} {vs : List Value} {c : Nat} {k : Int} {u : Tok} {x : Value} (N : News h₀ L s.heap news) (hm : (l, listOf vs.toArray c) ∈ news) (h0 : 0 ≤ k) (hfit : k < 2 ^ 63) (hx : vs[k.toNat]? = some x) (h : Q x s)
    (hs : subscripted slice false (.ref l) (.int k u) = operate [.ref l, .int k u] (getItem (.ref l) (.int k u)) := by with_unfolding_all rfl) (hg : ∀ r, letTemporaryGo value (.ref l) r = pure () := by intro _; with_unfolding_all rfl) :
    wpAny (model prog w) A (subscriptTail value slice (.ref l) (.int k u)) Q E s :=
  item_list ⟨_, (N _ hm).1, rfl, _, rfl⟩ h0 hfit (by simpa using hx) h hs hg
end
end Mine
end

section
open PySem PySem.W PyProof.Rows PyProof.V PySem.Spec
namespace Mine
/-- what a match is: the text, the whole and the groups (pairs of places, or nothing) -/
structure MData where
  text : Str
  gs : List (Option (Int × Int))
/-- the names that are asked -/
inductive Nm where
  | amp | tick | quote | plus
  | num (k : Nat)
deriving DecidableEq
def names : List (Str × Nm) := [(Str.ofString "main::&", .amp), (Str.ofString "main::`", .tick), (Str.ofString "main::'", .quote), (Str.ofString "main::+", .plus), (Str.ofString "main::1", .num 1), (Str.ofString "main::2", .num 2), (Str.ofString "main::3", .num 3), (Str.ofString "main::4", .num 4), (Str.ofString "main::5", .num 5), (Str.ofString "main::10", .num 10), (Str.ofString "main::40000000000000000000000001", .num 40000000000000000000000001)]
def sl (x : Str) : Option (Int × Int) → PyData
  | some (a, b) => .str (Txt.slice x (some a) (some b))
  | none => .none
def lastG (l : List (Option (Int × Int))) : Option (Int × Int) := l.foldl (fun acc g => match g with | some p => some p | none => acc) none
def valM (M : MData) : Nm → PyData
  | .amp => sl M.text (M.gs[0]?).join
  | .tick => match (M.gs[0]?).join with | some (a, _) => .str (Txt.slice M.text none (some a)) | none => .none
  | .quote => match (M.gs[0]?).join with | some (_, b) => .str (Txt.slice M.text (some b) none) | none => .none
  | .plus => sl M.text (lastG M.gs.tail)
  | .num k => sl M.text (M.gs[k]?).join
def valN : Option MData → Nm → PyData
  | none, _ => .none
  | some M, n => valM M n
/-- the dict tells what the match says of each name -/
def Tells (D : List (PyData × PyData)) (M : Option MData) : Prop := ∀ p ∈ names, (lookup (.str p.1) D).getD .none = valN M p.2

def keyOf : Nat → Str
  | 1 => Str.ofString "main::1"
  | 2 => Str.ofString "main::2"
  | 3 => Str.ofString "main::3"
  | _ => Str.ofString "main::4"
theorem keys_ok : ∀ k ∈ [1, 2, 3, 4], ∀ p ∈ names, (p.1 = keyOf k ↔ p.2 = .num k) := by decide +kernel
theorem plus_ok : ∀ p ∈ names, (p.1 = Str.ofString "main::+" ↔ p.2 = .plus) := by decide +kernel
theorem lastG_snoc_some (l : List (Option (Int × Int))) (p : Int × Int) : lastG (l ++ [some p]) = some p := by simp [lastG]
theorem lastG_snoc_none (l : List (Option (Int × Int))) : lastG (l ++ [none]) = lastG l := by simp [lastG]

theorem get_snoc {α : Type} {l : List α} {x : α} {j : Nat} (h : j ≠ l.length) : (l ++ [x])[j]? = l[j]? := by
  rcases Nat.lt_or_gt_of_ne h with q | q
  · rw [List.getElem?_append_left q]
  · rw [List.getElem?_eq_none (by simp; omega), List.getElem?_eq_none (by omega)]
theorem tail_snoc {α : Type} {l : List α} {x : α} (h : l ≠ []) : (l ++ [x]).tail = l.tail ++ [x] := by
  cases l with
  | nil => exact absurd rfl h
  | cons a r => rfl

theorem Tells.none_ {D : List (PyData × PyData)} {x : Str} {gs : List (Option (Int × Int))} (h : Tells D (some ⟨x, gs⟩)) (hg : gs ≠ []) : Tells D (some ⟨x, gs ++ [none]⟩) := by
  intro p hp
  rw [h p hp]
  have h0 : (0 : Nat) ≠ gs.length := fun e => hg (List.eq_nil_of_length_eq_zero e.symm)
  show valM _ _ = valM _ _
  cases p.2 with
  | amp => simp only [valM, get_snoc h0]
  | tick => simp only [valM, get_snoc h0]
  | quote => simp only [valM, get_snoc h0]
  | plus => simp only [valM, tail_snoc hg, lastG_snoc_none]
  | num k =>
    simp only [valM]
    by_cases e : k = gs.length
    · subst e; simp
    · rw [get_snoc e]

theorem Tells.some_ {D : List (PyData × PyData)} {x : Str} {gs : List (Option (Int × Int))} {k : Nat} {a b : Int} (h : Tells D (some ⟨x, gs⟩)) (hk : gs.length = k) (hk4 : k ∈ [1, 2, 3, 4]) :
    Tells (putD (.str (Str.ofString "main::+")) (.str (Txt.slice x (some a) (some b))) (putD (.str (keyOf k)) (.str (Txt.slice x (some a) (some b))) D)) (some ⟨x, gs ++ [some (a, b)]⟩) := by
  intro p hp
  have hg : gs ≠ [] := fun e => by subst e; simp at hk; subst hk; simp at hk4
  have h0 : (0 : Nat) ≠ gs.length := fun e => hg (List.eq_nil_of_length_eq_zero e.symm)
  have q1 := plus_ok p hp
  have q2 := keys_ok k hk4 p hp
  have q3 := h p hp
  rw [lookup_putD_str, lookup_putD_str]
  show _ = valM _ _
  replace q3 : _ = valM _ _ := q3
  revert q1 q2 q3
  cases p.2 with
  | amp => intro q1 q2 q3; rw [if_neg (fun e => nomatch q1.mp e), if_neg (fun e => nomatch q2.mp e), q3]; simp only [valM, get_snoc h0]
  | tick => intro q1 q2 q3; rw [if_neg (fun e => nomatch q1.mp e), if_neg (fun e => nomatch q2.mp e), q3]; simp only [valM, get_snoc h0]
  | quote => intro q1 q2 q3; rw [if_neg (fun e => nomatch q1.mp e), if_neg (fun e => nomatch q2.mp e), q3]; simp only [valM, get_snoc h0]
  | plus => intro q1 q2 q3; rw [if_pos (q1.mpr rfl)]; simp only [valM, tail_snoc hg, lastG_snoc_some]; rfl
  | num j =>
    intro q1 q2 q3
    rw [if_neg (fun e => nomatch q1.mp e)]
    by_cases e : j = k
    · subst e; rw [if_pos (q2.mpr rfl)]; simp only [valM]; rw [← hk]; simp; rfl
    · rw [if_neg (fun w => e (by have := q2.mp w; injection this)), q3]
      simp only [valM]
      rw [get_snoc (by rw [hk]; exact e)]
theorem Tells.start (x : Str) (a b : Int) (D : List (PyData × PyData))
    (hD : D = [(.str (Str.ofString "main::&"), .str (Txt.slice x (some a) (some b))), (.str (Str.ofString "main::`"), .str (Txt.slice x none (some a))), (.str (Str.ofString "main::'"), .str (Txt.slice x (some b) none))]) :
    Tells D (some ⟨x, [some (a, b)]⟩) := by
  subst hD
  intro p hp
  simp only [names, List.mem_cons, List.not_mem_nil, or_false] at hp
  rcases hp with rfl | rfl | rfl | rfl | rfl | rfl | rfl | rfl | rfl | rfl | rfl <;> kernel_rfl
/-- a match as the ledger bears it -/
inductive MatchAt (led : Led) : Value → Option MData → Prop
  | none : MatchAt led .none none
  | some {mt g : Addr} {x : Str} {t : Tok} {vs : List Value} {gs : List (Option (Int × Int))} {w : Int × Int} {c : Nat} : (mt, tupO #[.str x t, .ref g]) ∈ led → (g, listOf vs.toArray c) ∈ led → GroupsAt led x.length vs (some w :: gs) → gs.length ≤ 4 → x.length ≤ 8 → MatchAt led (.ref mt) (some ⟨x, some w :: gs⟩)
theorem MatchAt.mono {led led' : Led} {v : Value} {M : Option MData} (h : MatchAt led v M) (hs : ∀ p ∈ led, p ∈ led') : MatchAt led' v M := by
  cases h with
  | none => exact .none
  | some h1 h2 h3 h4 h5 => exact .some (hs _ h1) (hs _ h2) (h3.mono hs) h4 h5
/-- a dict as the ledger bears it -/
def DictAt (w : World) (led : Led) (d : Addr) (D : List (PyData × PyData)) : Prop :=
  (d == sysModules) = false ∧ ∃ o kvs, (d, o) ∈ led ∧ o.IsDictOf (strKind PySem.Challenge.rw_nz0194_01.row.prog w) kvs ∧ FlatPairs PyData.str kvs D
theorem DictAt.mono {w : World} {led led' : Led} {d : Addr} {D : List (PyData × PyData)} (h : DictAt w led d D) (hs : ∀ p ∈ led, p ∈ led') : DictAt w led' d D :=
  let ⟨h1, o, kvs, h2, h3⟩ := h; ⟨h1, o, kvs, hs _ h2, h3⟩
/-- the dict at d tells the match v -/
def Told (w : World) (led : Led) (v : Value) (d : Addr) : Prop := ∃ M D, MatchAt led v M ∧ DictAt w led d D ∧ Tells D M
theorem Told.mono {w : World} {led led' : Led} {v : Value} {d : Addr} (h : Told w led v d) (hs : ∀ p ∈ led, p ∈ led') : Told w led' v d :=
  let ⟨M, D, h1, h2, h3⟩ := h; ⟨M, D, h1.mono hs, h2.mono hs, h3⟩
theorem Tells.empty : Tells [] none := fun _ _ => rfl
end Mine
end

section
open PySem PySem.W PyProof.Rows PyProof.V PySem.Spec
namespace Mine
section
variable {prog : Program} {w : World} {A : Around} {E : Value → Shared → Prop} {s : Shared} {h₀ : Heap} {L : Addr} {m : Str → Option Value} {env : Env}
/-- a comprehension's source that is a tuple of the frame's base -/
structure TupSrc (prog : Program) (w : World) (A : Around) (h₀ : Heap) (L : Addr) (m : Str → Option Value) (env : Env) (elt : Expr) (x : Str) (scope : Scope) (cl : List (Str × Addr)) (Fin : Shared → List Value → Led → Prop) (xv : Value) (s₁ : Shared) : Prop where
  it : ∃ ax its news, xv = .ref ax ∧ A.handled = none ∧ Fr h₀ L s₁.heap m ∧ News h₀ L s₁.heap news ∧ h₀.IsTuple ax its ∧ its.size ≤ sizeLine ∧
    ∀ g, LCg.CompRest prog w A h₀ L m env elt x scope cl { s₁ with heap := g } (fun _ => True) (fun i v => its[i]? = some v) (Fin { s₁ with heap := g }) its.size 0 [] news
theorem tup_in {h h' : Heap} {ax : Addr} {its : Array Value} (x : h.IsTuple ax its) (k : ∀ b o, h.get? b = some o → h'.get? b = some o) : h'.IsTuple ax its := let ⟨o, e, r⟩ := x; ⟨o, k _ _ e, r⟩
theorem ListComp_Tup {elt iter : Expr} {x : Str} {px : Pos} {scope : Scope} {cl : List (Str × Addr)} {pos : Pos} {Q : Value → Shared → Prop} (_F₀ : Fr h₀ L s.heap m)
    (hclos : closureFor scope env = pure cl) (hcell : ∀ y ∈ scope.names, y.2 ≠ .cell) (hkind : scope.kind = .function)
    (hnames : ∀ y ∈ scope.names, y.2 = .local → scope.names.lookup y.1 = some .local) (hx : scope.names.lookup x = some .local)
    (h : wpAny (model prog w) A (eval iter env) (TupSrc prog w A h₀ L m env elt x scope cl (fun s₂ => LCg.FinE h₀ L m s₂ Q)) E s)
    (hs : ∀ x, foldedSetIterable iter env x = pure x := by intro _; rfl) :
    wpAny (model prog w) A (eval (.ListComp elt [⟨.Name x px, iter, [], 0⟩] scope pos) env) Q E s := by
  rw [eval_ListComp]
  refine wpAny_comprehension_free (use := none) rfl hs hclos hkind hnames (wpAny_mono h (fun xv s₁ h₁ => ?_) fun _ _ e => e)
  obtain ⟨ax, its, news, rfl, hh, F, N, hT, hsz, R⟩ := h₁.it
  have hl := tup_in hT F.keep
  have hlt : ax < s₁.heap.objs.size := by obtain ⟨_, e, _⟩ := hl; exact Heap.lt_size e
  refine wpAny_pyIter_tuple hl ?_
  have up : ∀ (it : Obj) b o, s₁.heap.get? b = some o → (s₁.heap.push it).get? b = some o := fun _ b o e => Heap.get?_push_of_some _ e
  refine LCg.block_U (S := fun _ => True) (Walks.tuple hh s₁.heap.objs.size ax (Nat.ne_of_lt hlt) its) hsz (fun i h st => by obtain ⟨o, e, _⟩ := st.1; exact ⟨o, e⟩)
    (fun i h h' o nw st e e' k _ _ => ⟨by obtain ⟨o', q, r⟩ := st.1; rw [e] at q; cases q; exact ⟨o, e', r⟩, tup_in hT k⟩) hcell hkind hx ⟨⟨_, Heap.get?_push_size _ rfl, rfl, rfl⟩, hl.push _⟩ (fun b hb => ?_)
    (F.keeps (up _)) (N.grown (up _)) (Nat.ne_of_lt F.ns.lt) (next_is_new F) (fun p hp => Nat.ne_of_lt (Heap.lt_size (N p hp).1)) trivial (R _) ?_
  · show b < (s₁.heap.push _).objs.size
    rw [Heap.size_push]
    rcases List.mem_cons.mp hb with rfl | hb
    · exact Nat.lt_succ_self _
    · rw [List.mem_singleton.mp hb]; exact Nat.lt_succ_of_lt hlt
  · intro D C h tk m' ys news' F' N' o1 hn hC₀ hD₀ hCL hDL hCD offC fin
    refine ⟨m', hn, fun h'' hs'' => fin D h'' tk (F'.change hs'' hCL hC₀) (fun p hp => ?_) o1⟩
    refine ⟨hs''.extBut _ _ ?_ (N' p hp).1, (N' p hp).2⟩
    rcases List.mem_cons.mp hp with rfl | hp
    · exact Ne.symm hCD
    · exact offC p hp
end
end Mine
end

section
open PySem PySem.W PyProof.Rows
namespace Mine
example : True := by w_top off; trivial
def DrawPost (p : Addr) (many : Int) (rest : Led) (r : Value) (news' : Led) : Prop :=
  ∃ ri tr n' t' k' u' c', r = .int ri tr ∧ 0 ≤ ri ∧ ri < many ∧ 0 ≤ n' ∧ 0 ≤ k' ∧ news' = (p, penO n' t' k' u' c') :: rest


theorem divmodK {w : World} {A : Around} {E : Value → Shared → Prop} {s : Shared} {a b : Int} {t u : Tok} {Q : Value → Shared → Prop} {base g : Heap} {outer : List Env} {L f : Addr} {m mg mb : Str → Option Value} {mean : ExcName → Option Value} {news : Led} {qual : Str} {scope : Scope} {cd : Value}
    (B : Below A base outer g) (T : Top view lo mean mg mb g) (F : Fr g L s.heap m) (N : News g L s.heap news) (hdp : A.depth + 101 < recursionLimit) (hb : b ≠ 0)
    (h : ∀ q t1 t2 h' tk', Fr g L h' m → News g L h' ((q, { cls := .type "tuple", data := .seq #[.int (a.fdiv b) t1, .int (a.fmod b) t2] }) :: news) → (∀ p ∈ news, p.1 < q) →
      Q (.ref q) { s with heap := h', toks := tk' })
    (hg : scope.isGenerator = false := by rfl) (hc : scope.isCoroutine = false := by rfl) :
    wpAny (model PySem.Challenge.rw_nz0194_01.row.prog w) (A.deeper (envOf qual scope L f cd)) (call (.builtin "divmod") [.int a t, .int b u]) Q E s :=
  divmod_N F N hb (fun h' F' N' => h _ _ _ h' _ F' N' fun p hp => Heap.lt_size (N p hp).1) (Or.inr (PylongRoom.of (T.nolimit.keeps F.keep) (by show A.depth + 1 + 100 < _; omega)
    (SeerAt.of (Heap.NoSeer.keeps (T.seer no_import) F.keep) rfl (Around.frames_deeper B.stack) hg hc rfl rfl)))

local macro_rules | `(tactic| walk_at "call builtin:divmod") => `(tactic| (k_here; k_dflt (refine' divmodK ?k1 ?k2 ?k3 ?k4 ?k5 ?k6 ?_; (case k1 => k_asm); (case k2 => k_asm); (case k3 => k_asm); (case k4 => k_asm); (case k5 => (dsimp only [ktrTop]; omega)); (case k6 => omega); k_whole); intro q' t1' t2' h' tk' F' N' l1; (try k_lt l1); (try k_sweep)))

set_option maxRecDepth 100000 in
set_option maxHeartbeats 8000000 in
theorem draw (w : World) (p : Addr) (n k many : Int) (t u tm : Tok) (c : Nat) (rest : Led) (off : OwnOff rest [p]) (hn : 0 ≤ n) (hk0 : 0 ≤ k) (hm : 1 ≤ many) :
    Con w 545 [.ref p, .int many tm] 102 8 ((p, penO n t k u c) :: rest) (DrawPost p many rest) := by
  unfold Con
  k_fill
  intro mean mg mb dp un gd cn cs a ccd cl outer A₀ base h₀ L m s Q E B F X N T hk hd hu ret
  refine wpAny_call ?_
  k_dflt ktr_enter
  k_steps
  all_goals (
    (rename News _ _ _ _ => kN)
    (rename Fr _ _ _ _ => kF)
    (have kN' := cb_drop kN (fun x hx => List.Mem.tail _ hx))
    refine ret _ _ _ _ ⟨_, _, _, _, _, _, _, rfl, fmod_lo _ (by omega), fmod_hi _ (by omega), Int.fdiv_nonneg ?_ (by omega), ?_, rfl⟩ kF kN')
  all_goals ((try simp only [List.getD_cons_zero, List.getD_cons_succ, Int.toNat_zero, Int.toNat_one]); omega)
end Mine
end

section
open PySem PySem.W PyProof.Rows
namespace Mine
example : True := by w_top off; trivial
local macro_rules | `(tactic| walk_at "zz") => `(tactic| skip)

section
variable {w : World} {mean : ExcName → Option Value} {mg mb : Str → Option Value} {dp un : Nat} {gd : Option (List Code)} {cn : Str} {cs : Scope} {a : Addr} {ccd : Value} {cl : List (Str × Addr)} {outer : List Env} {A₀ : Around} {base h₀ : Heap} {L : Addr} {m : Str → Option Value} {s : Shared} {Q E : Value → Shared → Prop} {led : Led} {g : Obj → Led}

theorem draw_use {p : Addr} {n k many : Int} {t u tm : Tok} {c : Nat}
    (B : Below A₀ base outer h₀) (F : Fr h₀ L s.heap m) (X : (hd.heap_1 w.params).In h₀) (N : News h₀ L s.heap led) (U : UpdF p (penO n t k u c) led g) (T : Top view lo mean mg mb h₀) (hk : cs.kind = .function)
    (hn : 0 ≤ n) (hk0 : 0 ≤ k) (hm : 1 ≤ many) (hd : dp + 102 < recursionLimit) (hu : un + 8 < cLine)
    (ret : ∀ r tr n' t' k' u' c' h' tk', 0 ≤ r → r < many → 0 ≤ n' → 0 ≤ k' → Fr h₀ L h' m → News h₀ L h' (g (penO n' t' k' u' c')) → Q (.int r tr) { s with heap := h', toks := tk' }) :
    wpAny (model PySem.Challenge.rw_nz0194_01.row.prog w) (ktrTop dp un gd cn cs L a ccd cl outer) (call (.ref 545) [.ref p, .int many tm]) Q E s := by
  obtain ⟨pre, post, rfl, hg, h1, h2⟩ := U.split
  refine draw w p n k many t u tm c (pre ++ post) (off_split h1 h2) hn hk0 hm mean mg mb dp un gd cn cs a ccd cl outer A₀ base h₀ L m s Q E B F X (cb_drop N mem_split) T hk hd hu ?_
  rintro r news' h' tk' ⟨ri, tr, n', t', k', u', c', rfl, q1, q2, q3, q4, rfl⟩ F' N'
  exact ret ri tr n' t' k' u' c' h' tk' q1 q2 q3 q4 F' (by rw [hg]; exact cb_drop N' mem_join)
end

local macro_rules | `(tactic| walk_at "call ref") => `(tactic| (k_here; (with_reducible show wpAny _ _ (call (Value.ref 545) _) _ _ _); k_dflt (refine' draw_use ?B ?F ?X ?N ?U ?T ?k ?hn ?hk0 ?hm ?hd ?hu ?_; (case B => k_asm); (case F => k_asm); (case X => k_asm); (case N => k_asm); (case U => k_updF); (case T => k_asm); (case k => first | exact rfl | assumption); (case hn => omega); (case hk0 => omega); (case hm => omega); (case hd => (dsimp only [ktrTop]; omega)); (case hu => (dsimp only [ktrTop]; omega)); k_whole; intro r' tr' n' t' k' u' c' h' tk' q1 q2 q3 q4 F' N'; (try dsimp only at N'); (try k_sweep); (try k_fold))))

def PairPost (p : Addr) (size : Int) (rest : Led) (r : Value) (news' : Led) : Prop :=
  ∃ q x y tx ty n' t' k' u' c', r = .ref q ∧ 0 ≤ x ∧ x ≤ y ∧ y ≤ size ∧ 0 ≤ n' ∧ 0 ≤ k' ∧ p < q ∧ (∀ z ∈ rest, z.1 < q) ∧ news' = (q, { cls := .type "tuple", data := .seq #[.int x tx, .int y ty] }) :: (p, penO n' t' k' u' c') :: rest

set_option maxRecDepth 100000 in
set_option maxHeartbeats 8000000 in
theorem pair (w : World) (p : Addr) (n k size : Int) (t u tm : Tok) (c : Nat) (rest : Led) (off : OwnOff rest [p]) (hn : 0 ≤ n) (hk0 : 0 ≤ k) (hm : 0 ≤ size) :
    Con w 559 [.ref p, .int size tm] 103 16 ((p, penO n t k u c) :: rest) (PairPost p size rest) := by
  unfold Con
  k_fill
  intro mean mg mb dp un gd cn cs a ccd cl outer A₀ base h₀ L m s Q E B F X N T hk hd hu ret
  refine wpAny_call ?_
  k_dflt ktr_enter
  k_steps
  all_goals (
    (rename News _ _ _ _ => kN)
    (rename Fr _ _ _ _ => kF)
    (rename _ ∧ _ => l9))
  obtain ⟨_, l9a, l9b⟩ := l9
  refine ret _ _ _ _ ⟨_, _, _, _, _, _, _, _, _, _, rfl, ?_, ?_, ?_, (by assumption), (by assumption), l9a, of_allLt l9b, rfl⟩ kF (cb_drop kN drop2)
  all_goals (repeat' split) <;> omega

def PickPost (p : Addr) (rest : Led) (r : Value) (news' : Led) : Prop :=
  ∃ x tx n' t' k' u' c', r = .str x tx ∧ x.length = 1 ∧ 0 ≤ n' ∧ 0 ≤ k' ∧ news' = (p, penO n' t' k' u' c') :: rest

set_option maxRecDepth 100000 in
set_option maxHeartbeats 8000000 in
theorem pick (w : World) (p : Addr) (n k : Int) (t u tm : Tok) (c : Nat) (rest : Led) (off : OwnOff rest [p]) (hn : 0 ≤ n) (hk0 : 0 ≤ k) :
    Con w 552 [.ref p, .str (Str.ofString "abc") tm] 103 16 ((p, penO n t k u c) :: rest) (PickPost p rest) := by
  unfold Con
  k_fill
  intro mean mg mb dp un gd cn cs a ccd cl outer A₀ base h₀ L m s Q E B F X N T hk hd hu ret
  refine wpAny_call ?_
  k_dflt ktr_enter
  k_steps
  rename News _ _ _ _ => kN
  rename Fr _ _ _ _ => kF
  exact ret _ _ _ _ ⟨_, _, _, _, _, _, _, rfl, (by assumption), (by assumption), (by assumption), rfl⟩ kF kN

section
variable {w : World} {mean : ExcName → Option Value} {mg mb : Str → Option Value} {dp un : Nat} {gd : Option (List Code)} {cn : Str} {cs : Scope} {a : Addr} {ccd : Value} {cl : List (Str × Addr)} {outer : List Env} {A₀ : Around} {base h₀ : Heap} {L : Addr} {m : Str → Option Value} {s : Shared} {Q E : Value → Shared → Prop} {led : Led} {g : Obj → Led}
theorem pick_use {p : Addr} {n k : Int} {t u tm : Tok} {c : Nat}
    (B : Below A₀ base outer h₀) (F : Fr h₀ L s.heap m) (X : (hd.heap_1 w.params).In h₀) (N : News h₀ L s.heap led) (U : UpdF p (penO n t k u c) led g) (T : Top view lo mean mg mb h₀) (hk : cs.kind = .function)
    (hn : 0 ≤ n) (hk0 : 0 ≤ k) (hd : dp + 103 < recursionLimit) (hu : un + 16 < cLine)
    (ret : ∀ x tx n' t' k' u' c' h' tk', x.length = 1 → 0 ≤ n' → 0 ≤ k' → Fr h₀ L h' m → News h₀ L h' (g (penO n' t' k' u' c')) → Q (.str x tx) { s with heap := h', toks := tk' }) :
    wpAny (model PySem.Challenge.rw_nz0194_01.row.prog w) (ktrTop dp un gd cn cs L a ccd cl outer) (call (.ref 552) [.ref p, .str (Str.ofString "abc") tm]) Q E s := by
  obtain ⟨pre, post, rfl, hg, h1, h2⟩ := U.split
  refine pick w p n k t u tm c (pre ++ post) (off_split h1 h2) hn hk0 mean mg mb dp un gd cn cs a ccd cl outer A₀ base h₀ L m s Q E B F X (cb_drop N mem_split) T hk hd hu ?_
  rintro r news' h' tk' ⟨x, tx, n', t', k', u', c', rfl, q1, q3, q4, rfl⟩ F' N'
  exact ret x tx n' t' k' u' c' h' tk' q1 q3 q4 F' (by rw [hg]; exact cb_drop N' mem_join)
theorem pair_use {p : Addr} {n k size : Int} {t u tm : Tok} {c : Nat}
    (B : Below A₀ base outer h₀) (F : Fr h₀ L s.heap m) (X : (hd.heap_1 w.params).In h₀) (N : News h₀ L s.heap led) (U : UpdF p (penO n t k u c) led g) (T : Top view lo mean mg mb h₀) (hk : cs.kind = .function)
    (hn : 0 ≤ n) (hk0 : 0 ≤ k) (hm : 0 ≤ size) (hd : dp + 103 < recursionLimit) (hu : un + 16 < cLine)
    (ret : ∀ q x y tx ty n' t' k' u' c' h' tk', 0 ≤ x → x ≤ y → y ≤ size → 0 ≤ n' → 0 ≤ k' → Fr h₀ L h' m → News h₀ L h' ((q, { cls := .type "tuple", data := .seq #[.int x tx, .int y ty] }) :: g (penO n' t' k' u' c')) → (∀ z ∈ led, z.1 < q) → Q (.ref q) { s with heap := h', toks := tk' }) :
    wpAny (model PySem.Challenge.rw_nz0194_01.row.prog w) (ktrTop dp un gd cn cs L a ccd cl outer) (call (.ref 559) [.ref p, .int size tm]) Q E s := by
  obtain ⟨pre, post, rfl, hg, h1, h2⟩ := U.split
  refine pair w p n k size t u tm c (pre ++ post) (off_split h1 h2) hn hk0 hm mean mg mb dp un gd cn cs a ccd cl outer A₀ base h₀ L m s Q E B F X (cb_drop N mem_split) T hk hd hu ?_
  rintro r news' h' tk' ⟨q, x, y, tx, ty, n', t', k', u', c', rfl, q1, q2, q3, q4, q5, q6, q7, rfl⟩ F' N'
  refine ret q x y tx ty n' t' k' u' c' h' tk' q1 q2 q3 q4 q5 F' (by rw [hg]; exact cb_drop N' fun z hz => (List.mem_cons.mp hz).elim (fun e => e ▸ .head _) fun e => .tail _ (mem_join z e)) ?_
  intro z hz
  rcases List.mem_cons.mp (mem_join z hz) with e | e
  · exact e ▸ q6
  · exact q7 z e
end
end Mine
end

section
open PySem PySem.W PyProof.Rows PyProof.V
namespace Mine
example : True := by w_top off; trivial
local macro_rules | `(tactic| walk_at "call ref") => `(tactic| (k_here; (with_reducible show wpAny _ _ (call (Value.ref 545) _) _ _ _); k_dflt (refine' draw_use ?B ?F ?X ?N ?U ?T ?k ?hn ?hk0 ?hm ?hd ?hu ?_; (case B => k_asm); (case F => k_asm); (case X => k_asm); (case N => k_asm); (case U => k_updF); (case T => k_asm); (case k => first | exact rfl | assumption); (case hn => omega); (case hk0 => omega); (case hm => omega); (case hd => (dsimp only [ktrTop]; omega)); (case hu => (dsimp only [ktrTop]; omega)); k_whole; intro r' tr' n' t' k' u' c' h' tk' q1 q2 q3 q4 F' N'; (try dsimp only at N'); (try k_sweep); (try k_fold))))
local macro_rules | `(tactic| walk_at "call ref") => `(tactic| (k_here; (with_reducible show wpAny _ _ (call (Value.ref 552) _) _ _ _); k_dflt (refine' pick_use ?B ?F ?X ?N ?U ?T ?k ?hn ?hk0 ?hd ?hu ?_; (case B => k_asm); (case F => k_asm); (case X => k_asm); (case N => k_asm); (case U => k_updF); (case T => k_asm); (case k => first | exact rfl | assumption); (case hn => omega); (case hk0 => omega); (case hd => (dsimp only [ktrTop]; omega)); (case hu => (dsimp only [ktrTop]; omega)); k_whole; intro x' tx' n' t' k' u' c' h' tk' q1 q3 q4 F' N'; (try dsimp only at N'); (try k_sweep); (try k_fold))))
local macro_rules | `(tactic| walk_at "call ref") => `(tactic| (k_here; (with_reducible show wpAny _ _ (call (Value.ref 559) _) _ _ _); k_dflt (refine' pair_use ?B ?F ?X ?N ?U ?T ?k ?hn ?hk0 ?hm ?hd ?hu ?_; (case B => k_asm); (case F => k_asm); (case X => k_asm); (case N => k_asm); (case U => k_updF); (case T => k_asm); (case k => first | exact rfl | assumption); (case hn => omega); (case hk0 => omega); (case hm => omega); (case hd => (dsimp only [ktrTop]; omega)); (case hu => (dsimp only [ktrTop]; omega)); k_whole; intro q' x' y' tx' ty' n' t' k' u' c' h' tk' q1 q2 q3 q4 q5 F' N' l1; (try dsimp only at N'); (try k_lt l1); (try k_sweep); (try k_fold))))
local macro_rules | `(tactic| walk_at "eval ListComp") => `(tactic| (k_here; k_dflt (refine LCg.ListComp_U (F₀ := by k_asm) (by with_unfolding_all rfl) (by decide) (by rfl) (by decide) (by rfl) ?_)))
local macro_rules | `(tactic| walk_at "CompSrc") => `(tactic| (refine Hold.of ?_))

local macro_rules | `(tactic| walk_at "CompEnd") => `(tactic| (refine Hold.of ?_))

/-- the texts of one sign each that the comprehension has made -/
def Ones (i : Nat) (ys : List Value) : Prop := ∃ xs : List Str, CarriedAll ys (xs.map fun a => PyData.str a) ∧ xs.length = i ∧ ∀ x ∈ xs, x.length = 1
theorem Ones.nil : Ones 0 [] := ⟨[], .nil, rfl, fun _ h => (nomatch h)⟩
theorem Ones.snoc {i : Nat} {ys : List Value} {x : Str} {t : Tok} (h : Ones i ys) (hx : x.length = 1) : Ones (i + 1) (ys ++ [.str x t]) := by
  obtain ⟨xs, h1, h2, h3⟩ := h
  refine ⟨xs ++ [x], by rw [List.map_append]; exact carried_snoc h1 (.str x t), by simp [h2], fun y hy => ?_⟩
  rcases List.mem_append.mp hy with e | e
  · exact h3 y e
  · rw [List.mem_singleton.mp e]; exact hx

section
variable {prog : Program} {w : World} {A : Around} {E : Value → Shared → Prop} {s : Shared} {t : Tok} {Q : Value → Shared → Prop} {D L : Addr} {ys : List Value} {h₀ : Heap} {news : Led}
theorem join_of_ones {i : Nat} (N : News h₀ L s.heap news) (hm : (D, LCg.lst ys) ∈ news) (h1 : Ones i ys) (hi : i ≤ 1000) (h : ∀ x t' k, x.length = i → Q (.str x t') { s with toks := k }) :
    wpAny (model prog w) A (call (.builtin "str.join") [.str (Str.ofString "") t, .ref D]) Q E s := by
  obtain ⟨xs, q1, q2, q3⟩ := h1
  refine KT.join_1 (g := fun a => a) (l := xs) ⟨_, (N _ hm).1, rfl, _, rfl⟩ q1 q3 (by omega) fun t' k e => h _ t' k (e.trans q2)
end
local macro_rules | `(tactic| walk_at "call builtin:str.join") => `(tactic| (k_here; k_dflt (refine' join_of_ones ?k1 ?k2 ?k3 ?k4 ?_; (case k1 => k_asm); (case k2 => k_mem); (case k3 => assumption); (case k4 => omega); k_whole); intro x' t' k' hx'; (try k_fold)))
local macro_rules | `(tactic| walk_at "call type:range") => `(tactic| (k_here; (rename Fr _ _ _ _ => F'); (rename News _ _ _ _ => N'); first
  | (with_unfolding_all refine range1_rows F' N' ?_; intro _ _ _ _ _ _ _ _ _)
  | (with_unfolding_all refine range2_rows F' N' ?_; intro _ _ _ _ _ _ _ _ _)))
local macro_rules | `(tactic| k_mem) => `(tactic| (refine memTail ?_; assumption))
local macro_rules | `(tactic| walk_at "call builtin:len") => `(tactic| (k_here; (with_reducible show wpAny _ _ (call (Value.builtin "len") [Value.ref _]) _ _ _); k_dflt (refine' kst_len ?k1 ?k2 rfl ?k4 ?_; (case k1 => k_asm); (case k2 => k_mem); (case k4 => (simp only [List.length_cons]; omega)); k_whole)))
local macro_rules | `(tactic| walk_at "subscriptTail Name Name ref int") => `(tactic| (k_here; (with_reducible show wpAny _ _ (subscriptTail _ _ (Value.ref _) (Value.int _ _)) _ _ _); k_dflt (refine' item_led ?N ?m ?a ?b ?x ?_; (case N => k_asm); (case m => k_mem); (case a => omega); (case b => omega); (case x => assumption); k_whole)))
local macro_rules | `(tactic| walk_at "setItem ref str") => `(tactic| (k_here; k_dflt (refine' setItem_K PyProof.V.same_str (strKind_is _ _ _ _) ?v ?F ?N ?U ?d ?f ?_ ?z; (case F => k_asm); (case N => k_asm); (case U => k_updF); (case d => k_asm); (case f => k_asm); (case z => first | (simp only [sizeLine_eq]; omega) | (refine Nat.le_trans (putD_length_le _ _ _) ?_; simp only [sizeLine_eq]; omega)); (case v => k_flat)); intro h' o' F' N' hd' hf'; (try dsimp only at N'); (try k_sweep)))
local macro_rules | `(tactic| walk_at "getItem ref str") => `(tactic| (k_here; k_dflt (refine' getItem_tab PyProof.V.same_str (strKind_is _ _ _ _) ?k1 ?k2 ?_; (case k1 => k_tabat); (case k2 => exact (lookup_putD_str _ _ _ _).trans (if_pos rfl)); k_whole); intro v' hv'; dict_open hv'))
local macro_rules | `(tactic| walk_at "TurnEnd") => `(tactic| (refine Hold.of ?_))
local macro_rules | `(tactic| walk_at "exec For") => `(tactic| (k_here; (rename Fr _ _ _ _ => lF'); (with_unfolding_all refine' For_invVF lF' ?k1 ?k2 ?_; (case k1 => exact rfl); (case k2 => exact rfl); k_whole)))
local macro_rules | `(tactic| walk_at "pyIter ref") => `(tactic| (refine Hold.of ?_))

theorem reorder5 {a b c d e : Addr × Obj} {r : Led} : ∀ x ∈ a :: d :: e :: ([b] ++ r), x ∈ a :: b :: c :: d :: e :: r := fun x hx => by
  simp only [List.mem_cons, List.mem_append, List.not_mem_nil, or_false] at hx ⊢
  grind
/-- between the turns of the loop that draws the groups: the list, the pen; the pairs are among what the call has made -/
def J1 (M : Str → Option Value) (l q c : Addr) (o : Obj) (p : Addr) (rest : Led) (B : Addr) (tl : Nat) (i : Nat) (m₁ : Str → Option Value) (nx : Led) : Prop :=
  (∀ y, y ≠ Str.ofString "turn" → m₁ y = M y) ∧ ∃ n k t u cp gvs gs new cc, nx = (l, listOf (.ref q :: gvs).toArray cc) :: (c, o) :: (p, penO n t k u cp) :: (new ++ rest) ∧ 0 ≤ n ∧ 0 ≤ k ∧ gvs.length = i ∧ GroupsAt new tl (.ref q :: gvs) gs ∧ (∀ x ∈ new, B < x.1) ∧ OwnOff (new ++ rest) [l, c, p]
theorem J1.start {M : Str → Option Value} {l q c : Addr} {o : Obj} {p : Addr} {rest new : Led} {B : Addr} {tl : Nat} {n k : Int} {t u tx ty : Tok} {cp cc : Nat} {x y : Int} (hn : 0 ≤ n) (hk : 0 ≤ k) (hq : (q, tupO #[.int x tx, .int y ty]) ∈ new) (h0 : 0 ≤ x) (h1 : x ≤ y) (h2 : y ≤ (tl : Int)) (hB : ∀ z ∈ new, B < z.1) (off : OwnOff (new ++ rest) [l, c, p]) :
    J1 M l q c o p rest B tl 0 M ((l, listOf #[.ref q] cc) :: (c, o) :: (p, penO n t k u cp) :: (new ++ rest)) :=
  ⟨fun _ _ => rfl, n, k, t, u, cp, [], [some (x, y)], new, cc, rfl, hn, hk, rfl, .some hq h0 h1 h2 .nil, hB, off⟩

theorem J1.step {M m' : Str → Option Value} {l q c : Addr} {o : Obj} {p : Addr} {rest new : Led} {B : Addr} {tl i : Nat} {n k : Int} {t u : Tok} {cp cc : Nat} {gvs : List Value} {gs : List (Option (Int × Int))} {v : Value} {g : Option (Int × Int)}
    (hm : ∀ y, y ≠ Str.ofString "turn" → m' y = M y) (hn : 0 ≤ n) (hk : 0 ≤ k) (hlen : gvs.length = i) (hG : GroupsAt new tl (.ref q :: gvs) gs) (hg : GroupsAt new tl [v] [g]) (hB : ∀ z ∈ new, B < z.1) (off : OwnOff (new ++ rest) [l, c, p]) :
    J1 M l q c o p rest B tl (i + 1) m' ((l, listOf ((Value.ref q :: gvs).toArray.push v) cc) :: (c, o) :: (p, penO n t k u cp) :: (new ++ rest)) :=
  ⟨hm, n, k, t, u, cp, gvs ++ [v], gs ++ [g], new, cc, by simp, hn, hk, by simp [hlen], by simpa using hG.append hg, hB, off⟩
/-- between the turns of the loop that tells -/
def J2 (w : World) (M : Str → Option Value) (d : Addr) (tl : Led) (x : Str) (gs : List (Option (Int × Int))) (i : Nat) (m₁ : Str → Option Value) (nx : Led) : Prop :=
  (∀ y, y ≠ Str.ofString "number" → m₁ y = M y) ∧ ∃ od kvs D, nx = (d, od) :: tl ∧ od.IsDictOf (strKind PySem.Challenge.rw_nz0194_01.row.prog w) kvs ∧ FlatPairs PyData.str kvs D ∧ Tells D (some ⟨x, gs.take (i + 1)⟩) ∧ D.length ≤ 3 + 2 * i
theorem J2.start {w : World} {M : Str → Option Value} {d : Addr} {tl : Led} {x : Str} {gs : List (Option (Int × Int))} {a b : Int} {od : Obj} {kvs : List (Str × Value)} {D : List (PyData × PyData)} (h1 : od.IsDictOf (strKind PySem.Challenge.rw_nz0194_01.row.prog w) kvs) (h2 : FlatPairs PyData.str kvs D)
    (hD : D = [(.str (Str.ofString "main::&"), .str (Txt.slice x (some a) (some b))), (.str (Str.ofString "main::`"), .str (Txt.slice x none (some a))), (.str (Str.ofString "main::'"), .str (Txt.slice x (some b) none))]) :
    J2 w M d tl x (some (a, b) :: gs) 0 M ((d, od) :: tl) := ⟨fun _ _ => rfl, od, kvs, D, rfl, h1, h2, Tells.start x a b D hD, by rw [hD]; simp⟩

theorem take_succ {α : Type} {g0 g : α} {gs : List α} {i : Nat} (hg : gs[i]? = some g) : (g0 :: gs).take (i + 1 + 1) = (g0 :: gs).take (i + 1) ++ [g] := by
  rw [List.take_add_one (i := i + 1), List.getElem?_cons_succ, hg]; rfl
theorem J2.stepN {w : World} {M m' : Str → Option Value} {d : Addr} {tl : Led} {x : Str} {g0 : Option (Int × Int)} {gs : List (Option (Int × Int))} {i : Nat} {od : Obj} {kvs : List (Str × Value)} {D : List (PyData × PyData)}
    (hm : ∀ y, y ≠ Str.ofString "number" → m' y = M y) (h1 : od.IsDictOf (strKind PySem.Challenge.rw_nz0194_01.row.prog w) kvs) (h2 : FlatPairs PyData.str kvs D) (hT : Tells D (some ⟨x, (g0 :: gs).take (i + 1)⟩)) (hl : D.length ≤ 3 + 2 * i) (hg : gs[i]? = some none) :
    J2 w M d tl x (g0 :: gs) (i + 1) m' ((d, od) :: tl) :=
  ⟨hm, od, kvs, D, rfl, h1, h2, by rw [take_succ hg]; exact hT.none_ (by simp), by omega⟩
theorem key_is {i : Nat} (h : i < 4) : Str.ofString "main::" ++ Str.ofString (toString (1 + (i : Int))) = keyOf (i + 1) ∧ i + 1 ∈ [1, 2, 3, 4] := by
  obtain rfl | rfl | rfl | rfl : i = 0 ∨ i = 1 ∨ i = 2 ∨ i = 3 := by omega
  all_goals exact ⟨by decide +kernel, by decide⟩
theorem J2.stepS {w : World} {M m' : Str → Option Value} {d : Addr} {tl : Led} {x : Str} {g0 : Option (Int × Int)} {gs : List (Option (Int × Int))} {i : Nat} {od : Obj} {kvs : List (Str × Value)} {D : List (PyData × PyData)} {a b : Int}
    (hm : ∀ y, y ≠ Str.ofString "number" → m' y = M y) (h1 : od.IsDictOf (strKind PySem.Challenge.rw_nz0194_01.row.prog w) kvs)
    (h2 : FlatPairs PyData.str kvs (putD (.str (Str.ofString "main::+")) (.str (Txt.slice x (some a) (some b))) (putD (.str (Str.ofString "main::" ++ Str.ofString (toString (1 + (i : Int))))) (.str (Txt.slice x (some a) (some b))) D)))
    (hT : Tells D (some ⟨x, (g0 :: gs).take (i + 1)⟩)) (hl : D.length ≤ 3 + 2 * i) (hg : gs[i]? = some (some (a, b))) (hi : i < 4) :
    J2 w M d tl x (g0 :: gs) (i + 1) m' ((d, od) :: tl) := by
  obtain ⟨e1, e2⟩ := key_is hi
  have hlen : i < gs.length := by
    rcases Nat.lt_or_ge i gs.length with q | q
    · exact q
    · rw [List.getElem?_eq_none q] at hg; cases hg
  refine ⟨hm, od, kvs, _, rfl, h1, h2, ?_, ?_⟩
  · rw [take_succ hg, e1]
    exact hT.some_ (by simp; omega) e2
  · refine Nat.le_trans (putD_length_le _ _ _) (Nat.le_trans (Nat.succ_le_succ (putD_length_le _ _ _)) ?_)
    omega
theorem hx_led {h₀ h : Heap} {L l : Addr} {a b : Addr × Obj} {z : Value} {vs : List Value} {c : Nat} {r : Led} (_ : News h₀ L h (a :: b :: (l, listOf (z :: vs).toArray c) :: r)) {i : Nat} {v : Value} (hv : vs[i]? = some v) : (z :: vs)[(1 + (i : Int)).toNat]? = some v := by
  rw [show (1 + (i : Int)).toNat = i + 1 by omega]; simpa using hv
theorem reorderT {a b c d e : Addr × Obj} {new rest : Led} : ∀ x ∈ b :: c :: d :: e :: ((a :: new) ++ rest), x ∈ a :: b :: c :: d :: e :: (new ++ rest) := fun x hx => by
  simp only [List.mem_cons, List.mem_append] at hx ⊢
  grind

def MatchPost (w : World) (p : Addr) (rest : Led) (r : Value) (news' : Led) : Prop :=
  ∃ r1 mt td new n' t' k' u' c', r = .ref r1 ∧ 0 ≤ n' ∧ 0 ≤ k' ∧ news' = (p, penO n' t' k' u' c') :: (new ++ rest) ∧ (r1, tupO #[.ref mt, .ref td]) ∈ new ∧ Told w new (.ref mt) td ∧ (∀ x ∈ new, p < x.1 ∧ AllLt x.1 rest)
theorem reorderE {a b c d e f : Addr × Obj} {new rest : Led} : ∀ x ∈ f :: ((a :: b :: c :: d :: new) ++ rest), x ∈ a :: b :: c :: d :: e :: f :: (new ++ rest) := fun x hx => by
  simp only [List.mem_cons, List.mem_append] at hx ⊢
  grind
theorem MatchPost.intro {w : World} {p : Addr} {rest new : Led} {r1 mt td l q B : Addr} {x : Str} {tx ta tb : Tok} {a b : Int} {gvs : List Value} {gs : List (Option (Int × Int))} {cc i : Nat} {od : Obj} {kvs : List (Str × Value)} {D : List (PyData × PyData)} {n k : Int} {t u : Tok} {c : Nat}
    (hn : 0 ≤ n) (hk : 0 ≤ k) (lo : (td == sysModules) = false) (hd : od.IsDictOf (strKind PySem.Challenge.rw_nz0194_01.row.prog w) kvs) (hf : FlatPairs PyData.str kvs D) (hT : Tells D (some ⟨x, (some (a, b) :: gs).take (i + 1)⟩)) (hi : i = gvs.length) (hi4 : i ≤ 4) (hx : x.length ≤ 8)
    (hq : (q, tupO #[.int a ta, .int b tb]) ∈ new) (h0 : 0 ≤ a) (h1 : a ≤ b) (h2 : b ≤ (x.length : Int)) (hG : GroupsAt new x.length gvs gs) (hB : ∀ z ∈ new, B < z.1) (hpB : p < B) (hrB : AllLt B rest) (b1 : B < r1) (b2 : B < mt) (b3 : B < td) (b4 : B < l) :
    MatchPost w p rest (.ref r1) ((p, penO n t k u c) :: (((r1, tupO #[.ref mt, .ref td]) :: (mt, tupO #[.str x tx, .ref l]) :: (td, od) :: (l, listOf (Value.ref q :: gvs).toArray cc) :: new) ++ rest)) := by
  have hs : ∀ z ∈ new, z ∈ ((r1, tupO #[.ref mt, .ref td]) :: (mt, tupO #[.str x tx, .ref l]) :: (td, od) :: (l, listOf (Value.ref q :: gvs).toArray cc) :: new) := fun z hz => .tail _ (.tail _ (.tail _ (.tail _ hz)))
  refine ⟨r1, mt, td, _, n, t, k, u, c, rfl, hn, hk, rfl, .head _, ⟨some ⟨x, some (a, b) :: gs⟩, D, ?_, ⟨lo, od, kvs, .tail _ (.tail _ (.head _)), hd, hf⟩, ?_⟩, ?_⟩
  · refine .some (.tail _ (.head _)) (.tail _ (.tail _ (.tail _ (.head _)))) (.some (hs _ hq) h0 h1 h2 (hG.mono hs)) (by rw [← hG.length, ← hi]; exact hi4) hx
  · rw [List.take_of_length_le (by rw [List.length_cons, ← hG.length, hi]; exact Nat.le_refl _)] at hT
    exact hT
  · have key : ∀ d : Addr, B < d → p < d ∧ AllLt d rest := fun d hd => ⟨Nat.lt_trans hpB hd, allLt_mono hrB (Nat.le_of_lt hd)⟩
    simp only [List.forall_mem_cons]
    exact ⟨key _ b1, key _ b2, key _ b3, key _ b4, fun z hz => key _ (hB z hz)⟩

set_option maxRecDepth 100000 in
set_option maxHeartbeats 8000000 in
theorem match_ (w : World) (p : Addr) (n k : Int) (t u : Tok) (c : Nat) (rest : Led) (off : OwnOff rest [p]) (hn : 0 ≤ n) (hk0 : 0 ≤ k) :
    Con w 564 [.ref p] 106 32 ((p, penO n t k u c) :: rest) (MatchPost w p rest) := by
  unfold Con
  k_fill
  intro mean mg mb dp un gd cn cs a ccd cl outer A₀ base h₀ L m s Q E B F X N T hk hd hu ret
  refine wpAny_call ?_
  k_dflt (refine' code_defC ?k1 ?k2 ?k3 ?k4 ?k5 ?kA ?kF ?kK ?k6 ?k7 ?k8 ?k9 ?kB ?kD ?_ ?c2 ?c3 ?c4; (case kA => exact rfl); (case kF => exact rfl); (case kK => assumption); (case k1 => k_asm); (case k2 => k_asm); (case k3 => k_asm); (case k4 => k_asm); (case k5 => k_asm); (case k6 => k_is); (case k7 => k_is); (case k8 => ktr_room); (case k9 => exact BindsTo.of_eq rfl); (case kB => exact rfl); (case kD => decide +kernel); (case c2 => exact rfl); (case c3 => exact rfl); (case c4 => exact rfl); k_whole; intro g' L' h' tk' cells' FG' F' N' Y' B' X' T' l1; (try k_lt l1); k_cells Y'; (try simp only [List.cons_append, List.nil_append] at N'); (try dsimp only); (try k_lift B'); (try k_fold))
  k_steps
  refine Hold.out ?_
  (rename IsRange _ _ _ _ _ _ _ _ => hR); (rename News _ _ _ _ => N9); (rename Fr _ _ _ _ => F9)
  refine src_range0 rfl F9 N9 hR (by assumption) (by omega) ?_
  intro g9
  refine comp_inv (fun i ys nx => ∃ n k t u c, nx = (L' + 1, _) :: (p, penO n t k u c) :: rest ∧ 0 ≤ n ∧ 0 ≤ k ∧ Ones i ys) ?_ ?_ ⟨_, _, _, _, _, rfl, by assumption, by assumption, Ones.nil⟩
  · rintro i v ys nx I oI C oC D m₂ h tk E' hi ⟨n1, k1, t1, u1, c1, rfl, hn1, hk1, hys⟩ ⟨t9, rfl⟩ hC hx F' N' off' ne'
    simp only [LCg.Off3] at off'
    obtain ⟨o1, o2, o3⟩ := off'
    k_steps
    (rename News _ _ _ _ => N9); (rename Fr _ _ _ _ => F9)
    exact Hold.out (LCg.CompEnd.intro F9 N9 _ (fun _ h => h) ⟨o1, o2, o3⟩ trivial ⟨_, _, _, _, _, rfl, by assumption, by assumption, hys.snoc (by assumption)⟩)
  · rintro ys nx ⟨n1, k1, t1, u1, c1, rfl, hn1, hk1, hys⟩
    unfold LCg.FinE
    intro D h tk F' N' o1'
    simp only [LCg.Off1] at o1'
    obtain ⟨o1, o2, o3⟩ := o1'
    k_steps
    refine Hold.out ?_
    clear hR
    (rename Str.length _ = Int.toNat _ => hxl)
    have hx8 := Nat.le_trans (Nat.le_of_eq hxl) (show _ ≤ 8 by omega)
    (rename IsRange _ _ _ _ _ _ _ _ => hR); (rename News _ _ _ _ => N9); (rename Fr _ _ _ _ => F9)
    refine' range_J (J1 _ _ _ _ _ p rest L' _) rfl hR ?e1 ?e2 F9 (cb_drop N9 reorder5) (J1.start ?s1 ?s2 (.head _) ?s3 ?s4 ?s5 ?s6 ?s7) ?turn ?done
    case e1 => exact (small_range (by assumption) (by omega) (by omega)).1
    case e2 => exact (small_range (by assumption) (by omega) (by omega)).2
    case s1 => assumption
    case s2 => assumption
    case s3 => assumption
    case s4 => assumption
    case s5 => assumption
    case s6 =>
      intro z hz
      rw [List.mem_singleton.mp hz]
      refine ltN ?_
      omega
    case s7 =>
      refine ownOff_app (ownOff_one ?_) (ownOff_cons ?_ (ownOff_cons ?_ off))
      · simp only [List.forall_mem_cons]
        exact ⟨neN (by omega), neN (by omega), neN (by omega), fun _ h => (nomatch h)⟩
      · exact fun z hz => Nat.ne_of_lt (Nat.lt_trans (of_allLt (d := L') (by with_reducible exact l1.2) z hz) (ltN (by omega)))
      · exact fun z hz => Nat.ne_of_lt (Nat.lt_trans (of_allLt (d := L') (by with_reducible exact l1.2) z hz) (ltN (by omega)))
    case turn =>
      rintro i t9 m₁ nx I oI h tk hi ⟨hm, n1, k1, t1, u1, cp1, gvs, gs, new, cc, rfl, hn1, hk1, hlen, hG, hB, hoff⟩ hI F' N'
      have hl4 : gvs.length < 4 := by omega
      have hi4 : i < 4 := by omega
      rw [map_none hm] at F'
      simp only [List.forall_mem_cons] at hI
      obtain ⟨i1, i2, i3, i4⟩ := hI
      replace i1 := neN i1; replace i2 := neN i2; replace i3 := neN i3
      k_steps
      all_goals refine Hold.out ?_
      · (rename News _ _ _ _ => N9); (rename Fr _ _ _ _ => F9); (rename _ ∧ _ => l9)
        obtain ⟨a1, a2, a3, a4, a5⟩ := l9
        have hs : ∀ a : Addr × Obj, ∀ z ∈ new, z ∈ (a :: new) := fun a z hz => List.mem_cons_of_mem _ hz
        refine TurnEnd.intro _ F9 (cb_drop N9 reorderT) ?_ (J1.step (fun y h => if_neg h) (by assumption) (by assumption) hlen (hG.mono (hs _)) (.some (.head _) (by assumption) (by assumption) (by assumption) .nil) ?_ ?_)
        · simp only [List.cons_append, List.forall_mem_cons]
          exact ⟨i1, i2, i3, Ne.symm (Nat.ne_of_lt a1), i4⟩
        · simp only [List.forall_mem_cons]
          exact ⟨ltN (by omega), hB⟩
        · refine ownOff_app (own := [_]) (ownOff_one ?_) hoff
          simp only [List.forall_mem_cons]
          exact ⟨neN (by omega), neN (by omega), neN (by omega), fun _ h => (nomatch h)⟩
      · (rename News _ _ _ _ => N9); (rename Fr _ _ _ _ => F9)
        refine TurnEnd.intro _ F9 N9 ?_ (J1.step (fun y h => if_neg h) (by assumption) (by assumption) hlen hG (.none .nil) hB hoff)
        simp only [List.forall_mem_cons]
        exact ⟨i1, i2, i3, i4⟩
    case done =>
      rintro m₁ nx h tk ⟨hm, n1, k1, t1, u1, cp1, gvs, gs, new, cc, rfl, hn1, hk1, hlen, hG, hB, hoff⟩ F' N'
      rw [← done_none hm] at F'
      cases hG
      rename_i gs9 h0 h1 h2 hqm hG
      have hqA := List.mem_append_left rest hqm
      have hGA := hG.mono fun z hz => List.mem_append_left rest hz
      k_steps
      refine Hold.out ?_
      clear hR
      (rename IsRange _ _ _ _ _ _ _ _ => hR); (rename News _ _ _ _ => N9); (rename Fr _ _ _ _ => F9); (rename Obj.IsDictOf _ _ _ => hdk); (rename FlatPairs _ _ _ => hfp)
      simp only [List.length_cons] at hR
      refine' range_J (J2 w _ _ _ _ _) rfl hR ?e1 ?e2 F9 N9 (J2.start (gs := gs9) hdk hfp ?hD) ?turn ?done
      case hD => exact rfl
      case e1 => exact (small_range (by omega) (by omega) (by omega)).1
      case e2 => exact (small_range (by omega) (by omega) (by omega)).2
      case turn =>
        rintro i t9 m₁ nx I oI h tk hi ⟨hm, od, kvs, D, rfl, hdk1, hfp1, hT1, hlD⟩ hI F' N'
        have hig : i < gvs.length := by omega
        have hi4 : i < 4 := by omega
        rw [map_none hm] at F'
        simp only [List.forall_mem_cons] at hI
        obtain ⟨i0, i1, i2, i3, i4⟩ := hI
        replace i0 := neN i0; replace i1 := neN i1; replace i2 := neN i2; replace i3 := neN i3
        obtain ⟨v9, g9, hv9, hg9, hG9⟩ := hGA.at (i := i) (by omega)
        have hx9 := hx_led N' hv9
        clear hdk hfp
        cases hG9
        · k_steps
          refine Hold.out ?_
          (rename News _ _ _ _ => N9); (rename Fr _ _ _ _ => F9)
          refine TurnEnd.intro _ F9 N9 ?_ (J2.stepN (fun y h => if_neg h) hdk1 hfp1 hT1 hlD hg9)
          simp only [List.forall_mem_cons]
          exact ⟨i0, i1, i2, i3, i4⟩
        · k_steps
          refine Hold.out ?_
          (rename News _ _ _ _ => N9); (rename Fr _ _ _ _ => F9); (rename Obj.IsDictOf _ _ _ => hdk9); (rename FlatPairs _ _ _ => hfp9)
          refine TurnEnd.intro _ F9 N9 ?_ (J2.stepS (fun y h => if_neg h) hdk9 hfp9 hT1 hlD hg9 (by omega))
          simp only [List.forall_mem_cons]
          exact ⟨i0, i1, i2, i3, i4⟩
      case done =>
        rintro m₁ nx h tk ⟨hm, od, kvs, D, rfl, hdk1, hfp1, hT1, hlD⟩ F' N'
        rw [← done_none hm] at F'
        k_steps
        (rename News _ _ _ _ => N9); (rename Fr _ _ _ _ => F9); (rename _ ∧ _ => l9)
        refine ret _ _ _ _ (MatchPost.intro (B := L') hn1 hk1 (by assumption) hdk1 hfp1 hT1 ?_ ?_ ?_ hqm h0 h1 h2 hG hB l1.1 l1.2 ?_ ?_ ?_ ?_) F9 (cb_drop N9 reorderE)
        · omega
        · omega
        · omega
        all_goals (refine ltN ?_; omega)
end Mine
end

section
open PySem PySem.W PyProof.Rows PyProof.V PySem.Spec
namespace Mine
example : True := by w_top off; trivial
local macro_rules | `(tactic| walk_at "call builtin:len") => `(tactic| (k_here; (with_reducible show wpAny _ _ (call (Value.builtin "len") [Value.ref _]) _ _ _); k_dflt (refine' kst_len ?k1 ?k2 rfl ?k4 ?_; (case k1 => k_asm); (case k2 => k_mem); (case k4 => omega); k_whole)))
local macro_rules | `(tactic| walk_at "subscriptTail Name Name ref int") => `(tactic| (k_here; (with_reducible show wpAny _ _ (subscriptTail _ _ (Value.ref _) (Value.int _ _)) _ _ _); k_dflt (refine' item_led ?N ?m ?a ?b ?x ?_; (case N => k_asm); (case m => k_mem); (case a => omega); (case b => omega); (case x => assumption); k_whole)))

def grp (M : Option MData) (k : Nat) : PyData := match M with
  | none => .none
  | some M => sl M.text (M.gs[k]?).join
def SameLed (led : Led) (d : PyData) (r : Value) (news' : Led) : Prop := news' = led ∧ Flat r d

set_option maxRecDepth 100000 in
set_option maxHeartbeats 8000000 in
theorem group_text (w : World) (led : Led) (mv : Value) (M : Option MData) (k : Int) (tk : Tok) (hM : MatchAt led mv M) (hk0 : 0 ≤ k) :
    Con w 306 [mv, .int k tk] 2 16 led (SameLed led (grp M k.toNat)) := by
  unfold Con
  k_fill
  intro mean mg mb dp un gd cn cs a ccd cl outer A₀ base h₀ L m s Q E B F X N T hk hd hu ret
  cases hM with
  | none =>
    refine wpAny_call ?_
    k_dflt ktr_enter
    k_steps
    rename News _ _ _ _ => kN
    rename Fr _ _ _ _ => kF
    exact ret _ _ _ _ ⟨rfl, Flat.none⟩ kF kN
  | @some mt g x t vs gs w9 c hm hg hG hl hx =>
    have hvl := hG.length
    simp only [List.length_cons] at hvl
    by_cases hkl : k < (vs.length : Int)
    · obtain ⟨v9, g9, hv9, hg9, hG9⟩ := hG.at (i := k.toNat) (by omega)
      cases hG9
      · refine wpAny_call ?_
        k_dflt ktr_enter
        k_steps
        rename News _ _ _ _ => kN
        rename Fr _ _ _ _ => kF
        refine ret _ _ _ _ ⟨rfl, ?_⟩ kF kN
        show Flat _ (sl x (_[k.toNat]?).join)
        rw [hg9]
        exact Flat.none
      · refine wpAny_call ?_
        k_dflt ktr_enter
        k_steps
        rename News _ _ _ _ => kN
        rename Fr _ _ _ _ => kF
        refine ret _ _ _ _ ⟨rfl, ?_⟩ kF kN
        show Flat _ (sl x (_[k.toNat]?).join)
        rw [hg9]
        exact Flat.str _ _
    · refine wpAny_call ?_
      k_dflt ktr_enter
      k_steps
      rename News _ _ _ _ => kN
      rename Fr _ _ _ _ => kF
      refine ret _ _ _ _ ⟨rfl, ?_⟩ kF kN
      show Flat _ (sl x (_[k.toNat]?).join)
      rw [List.getElem?_eq_none (by simp only [List.length_cons]; omega)]
      exact Flat.none
end Mine
end

section
open PySem PySem.W PyProof.Rows PyProof.V PySem.Spec
namespace Mine
example : True := by w_top off; trivial
section
variable {w : World} {mean : ExcName → Option Value} {mg mb : Str → Option Value} {dp un : Nat} {gd : Option (List Code)} {cn : Str} {cs : Scope} {a : Addr} {ccd : Value} {cl : List (Str × Addr)} {outer : List Env} {A₀ : Around} {base h₀ : Heap} {L : Addr} {m : Str → Option Value} {s : Shared} {Q E : Value → Shared → Prop} {led : Led} {g : Obj → Led}
theorem group_use {mv : Value} {M : Option MData} {k : Int} {tk : Tok}
    (B : Below A₀ base outer h₀) (F : Fr h₀ L s.heap m) (X : (hd.heap_1 w.params).In h₀) (N : News h₀ L s.heap led) (T : Top view lo mean mg mb h₀) (hk : cs.kind = .function)
    (hM : MatchAt led mv M) (hk0 : 0 ≤ k) (hd : dp + 2 < recursionLimit) (hu : un + 16 < cLine)
    (ret : ∀ r h' tk', Flat r (grp M k.toNat) → Fr h₀ L h' m → News h₀ L h' led → Q r { s with heap := h', toks := tk' }) :
    wpAny (model PySem.Challenge.rw_nz0194_01.row.prog w) (ktrTop dp un gd cn cs L a ccd cl outer) (call (.ref 306) [mv, .int k tk]) Q E s := by
  refine group_text w led mv M k tk hM hk0 mean mg mb dp un gd cn cs a ccd cl outer A₀ base h₀ L m s Q E B F X N T hk hd hu ?_
  rintro r news' h' tk' ⟨rfl, q1⟩ F' N'
  exact ret r h' tk' q1 F' N'
end
local macro_rules | `(tactic| walk_at "call ref") => `(tactic| (k_here; (with_reducible show wpAny _ _ (call (Value.ref 306) _) _ _ _); k_dflt (refine' group_use ?B ?F ?X ?N ?T ?k ?hM ?hk0 ?hd ?hu ?_; (case B => k_asm); (case F => k_asm); (case X => k_asm); (case N => k_asm); (case T => k_asm); (case k => first | exact rfl | assumption); (case hM => k_asm); (case hk0 => omega); (case hd => (dsimp only [ktrTop]; omega)); (case hu => (dsimp only [ktrTop]; omega)); k_whole; intro r' h' tk' q1 F' N'; (try k_sweep); (try k_fold))))
local macro_rules | `(tactic| walk_at "call builtin:len") => `(tactic| (k_here; (with_reducible show wpAny _ _ (call (Value.builtin "len") [Value.ref _]) _ _ _); k_dflt (refine' kst_len ?k1 ?k2 rfl ?k4 ?_; (case k1 => k_asm); (case k2 => k_mem); (case k4 => omega); k_whole)))
local macro_rules | `(tactic| walk_at "subscriptTail Subscript Name ref int") => `(tactic| (k_here; (with_reducible show wpAny _ _ (subscriptTail _ _ (Value.ref _) (Value.int _ _)) _ _ _); k_dflt (refine' item_led ?N ?m ?a ?b ?x ?_; (case N => k_asm); (case m => k_mem); (case a => omega); (case b => omega); (case x => assumption); k_whole)))
local macro_rules | `(tactic| walk_at "subscriptTail Name Name ref int") => `(tactic| (k_here; (with_reducible show wpAny _ _ (subscriptTail _ _ (Value.ref _) (Value.int _ _)) _ _ _); k_dflt (refine' item_led ?N ?m ?a ?b ?x ?_; (case N => k_asm); (case m => k_mem); (case a => omega); (case b => omega); (case x => assumption); k_whole)))
local macro_rules | `(tactic| walk_at "exec While") => `(tactic| (refine Hold.of ?_))
local macro_rules | `(tactic| walk_at "WhileStep") => `(tactic| (refine Hold.of ?_))

/-- between the turns of last_group's loop: behind the number nothing holds anything -/
def JL (M : Str → Option Value) (led : Led) (gs : List (Option (Int × Int))) (n : Nat) (m₁ : Str → Option Value) (nx : Led) : Prop :=
  nx = led ∧ (∃ t, m₁ = fun y => if y = Str.ofString "number" then some (.int (n : Int) t) else M y) ∧ n < gs.length ∧ ∀ j, n < j → (gs[j]?).join = none
theorem lastG_app (l : List (Option (Int × Int))) (g : Option (Int × Int)) (r : List (Option (Int × Int))) (hr : ∀ x ∈ r, x = none) : lastG (l ++ g :: r) = match g with | some p => some p | none => lastG l := by
  have h1 : ∀ (r : List (Option (Int × Int))) (a : Option (Int × Int)), (∀ x ∈ r, x = none) → r.foldl (fun acc g => match g with | some p => some p | none => acc) a = a := by
    intro r
    induction r with
    | nil => intro a _; rfl
    | cons x r ih => intro a h; rw [List.foldl_cons, h x (.head _)]; exact ih a fun y hy => h y (.tail _ hy)
  unfold lastG
  rw [List.foldl_append, List.foldl_cons]
  cases g <;> exact h1 r _ hr
theorem last_zero {g0 : Option (Int × Int)} {gs : List (Option (Int × Int))} (h : ∀ j, 0 < j → ((g0 :: gs)[j]?).join = none) : lastG gs = none := by
  have hr : ∀ x ∈ gs, x = none := fun x hx => by
    obtain ⟨i, hi, rfl⟩ := List.getElem_of_mem hx
    have := h (i + 1) (by omega)
    simpa [hi] using this
  have := lastG_app [] none gs hr
  cases gs with
  | nil => rfl
  | cons x r =>
    have e := lastG_app [] x r fun y hy => hr y (.tail _ hy)
    rw [hr x (.head _)] at e ⊢
    exact e
theorem last_at {g0 : Option (Int × Int)} {gs : List (Option (Int × Int))} {n : Nat} {p : Int × Int} (hn : 0 < n) (hg : (g0 :: gs)[n]? = some (some p)) (h : ∀ j, n < j → ((g0 :: gs)[j]?).join = none) : lastG gs = some p := by
  obtain ⟨k, rfl⟩ : ∃ k, n = k + 1 := ⟨n - 1, by omega⟩
  rw [List.getElem?_cons_succ] at hg
  have hk : k < gs.length := by
    rcases Nat.lt_or_ge k gs.length with q | q
    · exact q
    · rw [List.getElem?_eq_none q] at hg; cases hg
  have e : gs = gs.take k ++ some p :: gs.drop (k + 1) := by
    conv => lhs; rw [← List.take_append_drop k gs]
    rw [List.drop_eq_getElem_cons hk]
    congr 2
    rw [List.getElem?_eq_getElem hk] at hg
    exact Option.some.inj hg
  rw [e, lastG_app]
  intro x hx
  obtain ⟨i, hi, rfl⟩ := List.getElem_of_mem hx
  have := h (k + 1 + 1 + i) (by omega)
  rw [show k + 1 + 1 + i = (k + 1 + i) + 1 by omega, List.getElem?_cons_succ] at this
  rw [List.getElem_drop]
  rw [List.length_drop] at hi
  rw [List.getElem?_eq_getElem (by omega)] at this
  simpa using this

theorem fr_step {h₀ h : Heap} {L : Addr} {M : Str → Option Value} {n : Nat} {t t' : Tok} {x : Str} (hn : 0 < n) (kF : Fr h₀ L h (fun y => if y = x then some (.int ((n : Int) - 1) t') else if y = x then some (.int (n : Int) t) else M y)) :
    Fr h₀ L h (fun y => if y = x then some (.int ((n - 1 : Nat) : Int) t') else M y) := by
  have e : (fun y => if y = x then some (Value.int ((n : Int) - 1) t') else if y = x then some (Value.int (n : Int) t) else M y) = fun y => if y = x then some (Value.int ((n - 1 : Nat) : Int) t') else M y := by
    funext y
    by_cases hy : y = x
    · rw [if_pos hy, if_pos hy, show ((n : Int) - 1) = ((n - 1 : Nat) : Int) by omega]
    · rw [if_neg hy, if_neg hy, if_neg hy]
  exact e ▸ kF

set_option maxRecDepth 100000 in
set_option maxHeartbeats 8000000 in
theorem last_group (w : World) (led : Led) (mt : Addr) (M : MData) (hM : MatchAt led (.ref mt) (some M)) :
    Con w 313 [.ref mt] 3 24 led (SameLed led (valM M .plus)) := by
  unfold Con
  k_fill
  intro mean mg mb dp un gd cn cs a ccd cl outer A₀ base h₀ L m s Q E B F X N T hk hd hu ret
  have hM0 := hM
  cases hM with
  | @some mt g x t vs gs w9 c hm hg hG hl hx =>
    have hvl := hG.length
    have hvl2 := hvl
    simp only [List.length_cons] at hvl2
    refine wpAny_call ?_
    k_dflt ktr_enter
    k_steps
    refine Hold.out ?_
    (rename News _ _ _ _ => N9); (rename Fr _ _ _ _ => F9)
    rw [show ((vs.length : Int) - 1) = (((vs.length - 1 : Nat) : Int)) by omega] at F9
    refine While_inv (JL _ led (some w9 :: gs)) F9 N9 ⟨rfl, ⟨_, rfl⟩, by omega, fun j hj => ?_⟩ ?_
    · rw [List.getElem?_eq_none (by omega)]; rfl
    · rintro n m₁ nx h tk F' N' ⟨rfl, ⟨t9, rfl⟩, hnl, hbeh⟩
      obtain ⟨v9, g9, hv9, hg9, hG9⟩ := hG.at (i := n) (by omega)
      have hx9 : vs[((n : Nat) : Int).toNat]? = some v9 := by simpa using hv9
      have hn10 : n < 10 := by simp only [List.length_cons] at hnl; omega
      rcases Nat.eq_zero_or_pos n with hn | hn
      · k_steps
        · rename News _ _ _ _ => kN
          rename Fr _ _ _ _ => kF
          refine ret _ _ _ _ ⟨rfl, ?_⟩ kF kN
          show Flat _ (sl x (lastG gs))
          rw [last_zero (by rw [hn] at hbeh; exact hbeh)]
          exact Flat.none
        · exfalso; omega
      · cases hG9
        · k_steps
          refine Hold.out ?_
          rename News _ _ _ _ => kN
          rename Fr _ _ _ _ => kF
          refine WhileStep.intro (n' := n - 1) (fr_step hn kF) kN (by omega) ⟨rfl, ⟨_, rfl⟩, by omega, fun j hj => ?_⟩
          · rcases Nat.lt_or_ge n j with q | q
            · exact hbeh j q
            · rw [show j = n by omega, hg9]; rfl
        · k_steps
          · exfalso; omega
          · rename News _ _ _ _ => kN
            rename Fr _ _ _ _ => kF
            rename Flat _ _ => hfl
            refine ret _ _ _ _ ⟨rfl, ?_⟩ kF kN
            show Flat _ (sl x (lastG gs))
            rw [last_at hn hg9 hbeh]
            have e : (((n : Nat) : Int)).toNat = n := by simp
            rw [e] at hfl
            replace hfl : Flat _ (sl x (_[n]?).join) := hfl
            rw [hg9] at hfl
            exact hfl
end Mine
end

section
open PySem PySem.W PyProof.Rows PyProof.V PySem.Spec
namespace Mine
example : True := by w_top off; trivial
section
variable {prog : Program} {w : World} {A : Around} {E : Value → Shared → Prop} {s : Shared} {env : Env} {h₀ : Heap} {x : Str} {body : List Stmt} {Q : Flow → Shared → Prop}
structure StrEnd (h₀ : Heap) (L : Addr) (own : Led) (I : Addr) (J : (Str → Option Value) → Led → Prop) (s₁ : Shared) (f : Flow) (s₂ : Shared) : Prop where
  it : f = .next ∧ ∃ h' tk m' nx, s₂ = { s₁ with heap := h', toks := tk } ∧ Fr h₀ L h' m' ∧ News h₀ L h' (own ++ nx) ∧ (∀ p ∈ nx, p.1 ≠ I) ∧ J m' nx
theorem str_J {y : Str} {t : Tok} {m₀ : Str → Option Value} {news : Led} (J : Nat → (Str → Option Value) → Led → Prop)
    (hh : A.handled = none) (F : Fr h₀ env.locals s.heap m₀) (N : News h₀ env.locals s.heap news) (hj : J 0 m₀ news)
    (turn : ∀ i c u m₁ nx own I h tk, y.cps.toList[i]? = some c → J i m₁ nx → (∀ p ∈ nx, p.1 ≠ I) → Fr h₀ env.locals h (fun v => if v = x then some (.str ⟨#[c]⟩ u) else m₁ v) → News h₀ env.locals h (own ++ nx) →
      wpAny (model prog w) A (execs body env) (StrEnd h₀ env.locals own I (J (i + 1)) { s with heap := h, toks := tk }) E { s with heap := h, toks := tk })
    (done : ∀ m₁ nx h tk, J y.cps.toList.length m₁ nx → Fr h₀ env.locals h m₁ → News h₀ env.locals h nx → Q .next { s with heap := h, toks := tk }) :
    wpAny (model prog w) A (pyIter (.str y t)) (fun it s₂ => LoopAtV prog w A h₀ env x body Q E it s₂) E s := by
  refine wpAny_pyIter_str fun o St W hst => ?_
  have W' := W A hh
  have hlen : y.cps.size = y.cps.toList.length := by simp
  rw [hlen] at W'
  refine ⟨_, _, _, _, _, _, m₀, news, J, rfl, W', ?_, ?_, ?_, hst, F.push _, (fun p hp => ⟨Heap.get?_push_of_some _ (N p hp).1, (N p hp).2⟩), hj, ?_, ?_⟩
  · intro hm
    exact absurd F.ns.lt ((List.mem_singleton.mp hm) ▸ Nat.lt_irrefl _)
  · intro b hb
    rw [List.mem_singleton.mp hb]
    exact next_is_new F
  · intro p hp hI
    exact absurd (Heap.lt_size (N p hp).1) ((List.mem_singleton.mp hI) ▸ Nat.lt_irrefl _)
  · rintro i v m₁ nx s₁ own ⟨hh', tk', rfl⟩ hin ⟨c, u, hc, rfl⟩ hJ hoff hown hget hall hst F₁ N₁
    refine wpAny_mono (turn i c u m₁ nx own s.heap.objs.size hh' tk' (by simpa using hc) hJ (fun p hp q => hoff p hp (List.mem_singleton.mpr q)) F₁ N₁) (fun f s₂ p => ?_) fun _ _ e => e
    obtain ⟨rfl, h', tk, m', nx', e, F', N', ha, hj'⟩ := p.it
    exact .next ⟨rfl, h', tk, m', nx', e, F', N', fun p hp hb => ha p hp (List.mem_singleton.mp hb), hj'⟩
  · rintro h' tk m' news' F' N' _ hJ
    exact done m' news' h' tk hJ F' N'
end
local macro_rules | `(tactic| walk_at "exec For") => `(tactic| (k_here; (rename Fr _ _ _ _ => lF'); (with_unfolding_all refine' For_invVF lF' ?k1 ?k2 ?_; (case k1 => exact rfl); (case k2 => exact rfl); k_whole)))
local macro_rules | `(tactic| walk_at "exec For Name Name cons nil") => `(tactic| (k_here; (rename Fr _ _ _ _ => lF'); (with_unfolding_all refine' For_invVF lF' ?k1 ?k2 ?_; (case k1 => exact rfl); (case k2 => exact rfl); k_whole)))
local macro_rules | `(tactic| walk_at "pyIter str") => `(tactic| (refine Hold.of ?_))
local macro_rules | `(tactic| walk_at "StrEnd") => `(tactic| (refine Hold.of ?_))

def fig (a : Int) (c : Nat) : Int := a * 10 + (c : Int) - 48
def figs (y : Str) : Int := y.cps.toList.foldl fig 0
/-- between the turns: the number so far -/
def JF (M : Str → Option Value) (led : Led) (l : List Nat) (i : Nat) (m₁ : Str → Option Value) (nx : Led) : Prop :=
  nx = led ∧ ∃ t, m₁ (Str.ofString "number") = some (.int ((l.take i).foldl fig 0) t) ∧ ∀ y, y ≠ Str.ofString "number" → y ≠ Str.ofString "sign" → m₁ y = M y
theorem fig_step {l : List Nat} {i c : Nat} (h : l[i]? = some c) : (l.take (i + 1)).foldl fig 0 = (l.take i).foldl fig 0 * 10 + (c : Int) - 48 := by
  rw [List.take_add_one, h, Option.toList_some, List.foldl_append]; rfl

set_option maxRecDepth 100000 in
set_option maxHeartbeats 8000000 in
theorem figures (w : World) (led : Led) (y : Str) (tk : Tok) :
    Con w 320 [.str y tk] 2 16 led (fun r news' => (∃ t, r = .int (figs y) t) ∧ news' = led) := by
  unfold Con
  k_fill
  intro mean mg mb dp un gd cn cs a ccd cl outer A₀ base h₀ L m s Q E B F X N T hk hd hu ret
  refine wpAny_call ?_
  k_dflt ktr_enter
  k_steps
  refine Hold.out ?_
  (rename News _ _ _ _ => N9); (rename Fr _ _ _ _ => F9)
  refine str_J (JF _ led y.cps.toList) rfl F9 N9 ⟨rfl, _, rfl, fun _ _ _ => rfl⟩ ?_ ?_
  · rintro i c u m₁ nx own I h tk hc ⟨rfl, t9, hm1, hm2⟩ hI F' N'
    rw [map_one (v := .str ⟨#[c]⟩ u) hm1 (fun z h1 h2 => hm2 z h2 h1)] at F'
    k_steps
    refine Hold.out ?_
    (rename News _ _ _ _ => N9); (rename Fr _ _ _ _ => F9)
    refine ⟨rfl, _, _, _, _, rfl, F9, N9, hI, rfl, ?_⟩
    rw [fig_step hc]
    exact ⟨_, rfl, fun z h1 h2 => by simp [h1, h2]⟩
  · rintro m₁ nx h tk ⟨rfl, t9, hm1, hm2⟩ F' N'
    rw [← done_one hm1 (fun z h1 h2 => hm2 z h2 h1)] at F'
    rw [List.take_length] at F'
    k_steps
    rename News _ _ _ _ => kN
    rename Fr _ _ _ _ => kF
    exact ret _ _ _ _ ⟨⟨_, rfl⟩, rfl⟩ kF kN
end Mine
end

section
open PySem PySem.W PyProof.Rows PyProof.V PySem.Spec
namespace Mine
example : True := by w_top off; trivial
section
variable {w : World} {mean : ExcName → Option Value} {mg mb : Str → Option Value} {dp un : Nat} {gd : Option (List Code)} {cn : Str} {cs : Scope} {a : Addr} {ccd : Value} {cl : List (Str × Addr)} {outer : List Env} {A₀ : Around} {base h₀ : Heap} {L : Addr} {m : Str → Option Value} {s : Shared} {Q E : Value → Shared → Prop} {led : Led} {g : Obj → Led}
theorem last_use {mt : Addr} {M : MData}
    (B : Below A₀ base outer h₀) (F : Fr h₀ L s.heap m) (X : (hd.heap_1 w.params).In h₀) (N : News h₀ L s.heap led) (T : Top view lo mean mg mb h₀) (hk : cs.kind = .function)
    (hM : MatchAt led (.ref mt) (some M)) (hd : dp + 3 < recursionLimit) (hu : un + 24 < cLine)
    (ret : ∀ r h' tk', Flat r (valM M .plus) → Fr h₀ L h' m → News h₀ L h' led → Q r { s with heap := h', toks := tk' }) :
    wpAny (model PySem.Challenge.rw_nz0194_01.row.prog w) (ktrTop dp un gd cn cs L a ccd cl outer) (call (.ref 313) [.ref mt]) Q E s := by
  refine last_group w led mt M hM mean mg mb dp un gd cn cs a ccd cl outer A₀ base h₀ L m s Q E B F X N T hk hd hu ?_
  rintro r news' h' tk' ⟨rfl, q1⟩ F' N'
  exact ret r h' tk' q1 F' N'
theorem figures_use {y : Str} {tk : Tok}
    (B : Below A₀ base outer h₀) (F : Fr h₀ L s.heap m) (X : (hd.heap_1 w.params).In h₀) (N : News h₀ L s.heap led) (T : Top view lo mean mg mb h₀) (hk : cs.kind = .function)
    (hd : dp + 2 < recursionLimit) (hu : un + 16 < cLine)
    (ret : ∀ t h' tk', Fr h₀ L h' m → News h₀ L h' led → Q (.int (figs y) t) { s with heap := h', toks := tk' }) :
    wpAny (model PySem.Challenge.rw_nz0194_01.row.prog w) (ktrTop dp un gd cn cs L a ccd cl outer) (call (.ref 320) [.str y tk]) Q E s := by
  refine figures w led y tk mean mg mb dp un gd cn cs a ccd cl outer A₀ base h₀ L m s Q E B F X N T hk hd hu ?_
  rintro r news' h' tk' ⟨⟨t, rfl⟩, rfl⟩ F' N'
  exact ret t h' tk' F' N'
end
theorem flat_num {r : Value} {x : Str} {gs : List (Option (Int × Int))} {k k' : Nat} (h : k = k') (hf : Flat r (grp (some ⟨x, gs⟩) k)) : Flat r (valN (some ⟨x, gs⟩) (.num k')) := h ▸ hf
local macro_rules | `(tactic| walk_at "call ref") => `(tactic| (k_here; (with_reducible show wpAny _ _ (call (Value.ref 320) _) _ _ _); k_dflt (refine' figures_use ?B ?F ?X ?N ?T ?k ?hd ?hu ?_; (case B => k_asm); (case F => k_asm); (case X => k_asm); (case N => k_asm); (case T => k_asm); (case k => first | exact rfl | assumption); (case hd => (dsimp only [ktrTop]; omega)); (case hu => (dsimp only [ktrTop]; omega)); k_whole; intro t' h' tk' F' N'; (try k_sweep); (try k_fold))))
local macro_rules | `(tactic| walk_at "call ref") => `(tactic| (k_here; (with_reducible show wpAny _ _ (call (Value.ref 306) _) _ _ _); k_dflt (refine' group_use ?B ?F ?X ?N ?T ?k ?hM ?hk0 ?hd ?hu ?_; (case B => k_asm); (case F => k_asm); (case X => k_asm); (case N => k_asm); (case T => k_asm); (case k => first | exact rfl | assumption); (case hM => k_asm); (case hk0 => first | omega | decide +kernel); (case hd => (dsimp only [ktrTop]; omega)); (case hu => (dsimp only [ktrTop]; omega)); k_whole; intro r' h' tk' q1 F' N'; (try k_sweep); (try k_fold))))
local macro_rules | `(tactic| walk_at "call ref") => `(tactic| (k_here; (with_reducible show wpAny _ _ (call (Value.ref 313) _) _ _ _); k_dflt (refine' last_use ?B ?F ?X ?N ?T ?k ?hM ?hd ?hu ?_; (case B => k_asm); (case F => k_asm); (case X => k_asm); (case N => k_asm); (case T => k_asm); (case k => first | exact rfl | assumption); (case hM => k_asm); (case hd => (dsimp only [ktrTop]; omega)); (case hu => (dsimp only [ktrTop]; omega)); k_whole; intro r' h' tk' q1 F' N'; (try k_sweep); (try k_fold))))
local macro_rules | `(tactic| walk_at "subscriptTail Subscript Constant ref int") => `(tactic| (k_here; (with_reducible show wpAny _ _ (subscriptTail _ _ (Value.ref _) (Value.int _ _)) _ _ _); k_dflt (refine' item_led ?N ?m ?a ?b ?x ?_; (case N => k_asm); (case m => k_mem); (case a => omega); (case b => omega); (case x => assumption); k_whole)))
local macro_rules | `(tactic| walk_at "subscriptTail Name Constant ref int") => `(tactic| (k_here; (with_reducible show wpAny _ _ (subscriptTail _ _ (Value.ref _) (Value.int _ _)) _ _ _); k_dflt (refine' item_led ?N ?m ?a ?b ?x ?_; (case N => k_asm); (case m => k_mem); (case a => omega); (case b => omega); (case x => assumption); k_whole)))

/-- which name a text is -/
def nmOf (x : Str) : Nm :=
  if (Txt.slice x (some 6) none == Str.ofString "&") = true then .amp
  else if (Txt.slice x (some 6) none == Str.ofString "`") = true then .tick
  else if (Txt.slice x (some 6) none == Str.ofString "'") = true then .quote
  else if (Txt.slice x (some 6) none == Str.ofString "+") = true then .plus
  else .num (figs (Txt.slice x (some 6) none)).toNat
theorem nm1 {y : Str} (h1 : (Txt.slice y (some 6) none == Str.ofString "&") = true) : nmOf y = .amp := if_pos h1
theorem nm2 {y : Str} (h1 : (Txt.slice y (some 6) none == Str.ofString "&") = false) (h2 : (Txt.slice y (some 6) none == Str.ofString "`") = true) : nmOf y = .tick := (if_neg (fun e => Bool.noConfusion (h1.symm.trans e))).trans (if_pos h2)
theorem nm3 {y : Str} (h1 : (Txt.slice y (some 6) none == Str.ofString "&") = false) (h2 : (Txt.slice y (some 6) none == Str.ofString "`") = false) (h3 : (Txt.slice y (some 6) none == Str.ofString "'") = true) : nmOf y = .quote := (if_neg (fun e => Bool.noConfusion (h1.symm.trans e))).trans ((if_neg (fun e => Bool.noConfusion (h2.symm.trans e))).trans (if_pos h3))
theorem nm4 {y : Str} (h1 : (Txt.slice y (some 6) none == Str.ofString "&") = false) (h2 : (Txt.slice y (some 6) none == Str.ofString "`") = false) (h3 : (Txt.slice y (some 6) none == Str.ofString "'") = false) (h4 : (Txt.slice y (some 6) none == Str.ofString "+") = true) : nmOf y = .plus := (if_neg (fun e => Bool.noConfusion (h1.symm.trans e))).trans ((if_neg (fun e => Bool.noConfusion (h2.symm.trans e))).trans ((if_neg (fun e => Bool.noConfusion (h3.symm.trans e))).trans (if_pos h4)))
theorem nm5 {y : Str} (h1 : (Txt.slice y (some 6) none == Str.ofString "&") = false) (h2 : (Txt.slice y (some 6) none == Str.ofString "`") = false) (h3 : (Txt.slice y (some 6) none == Str.ofString "'") = false) (h4 : (Txt.slice y (some 6) none == Str.ofString "+") = false) : nmOf y = .num (figs (Txt.slice y (some 6) none)).toNat := (if_neg (fun e => Bool.noConfusion (h1.symm.trans e))).trans ((if_neg (fun e => Bool.noConfusion (h2.symm.trans e))).trans ((if_neg (fun e => Bool.noConfusion (h3.symm.trans e))).trans ((if_neg (fun e => Bool.noConfusion (h4.symm.trans e))))))
theorem nm_cases : ∀ p ∈ names, nmOf p.1 = p.2 ∧ p.1.length ≤ 100 ∧ ((Txt.slice p.1 (some 6) none == Str.ofString "&") = false → (Txt.slice p.1 (some 6) none == Str.ofString "`") = false → (Txt.slice p.1 (some 6) none == Str.ofString "'") = false → (Txt.slice p.1 (some 6) none == Str.ofString "+") = false → 0 ≤ figs (Txt.slice p.1 (some 6) none)) := by decide +kernel
set_option maxRecDepth 100000 in
set_option maxHeartbeats 8000000 in
theorem match_value_x (w : World) (led : Led) (mv : Value) (M : Option MData) (hM : MatchAt led mv M) (y : Str) (hy : y.length ≤ 100) (h0 : (Txt.slice y (some 6) none == Str.ofString "&") = false → (Txt.slice y (some 6) none == Str.ofString "`") = false → (Txt.slice y (some 6) none == Str.ofString "'") = false → (Txt.slice y (some 6) none == Str.ofString "+") = false → 0 ≤ figs (Txt.slice y (some 6) none)) (tk : Tok) :
    Con w 327 [mv, .str y tk] 5 40 led (SameLed led (valN M (nmOf y))) := by
  unfold Con
  k_fill
  intro mean mg mb dp un gd cn cs a ccd cl outer A₀ base h₀ L m s Q E B F X N T hk hd hu ret
  have hM0 := hM
  cases hM with
  | none =>
    refine wpAny_call ?_
    k_dflt ktr_enter
    k_steps
    (rename News h₀ L _ _ => kN); (rename Fr h₀ L _ _ => kF)
    exact ret _ _ _ _ ⟨rfl, Flat.none⟩ kF kN
  | @some mt g x t vs gs w9 c hm hg hG hl hx =>
    obtain ⟨v9, g9, hv9, hg9, hG9⟩ := hG.at (i := 0) (by have := hG.length; simp only [List.length_cons] at this; omega)
    have hx9 : vs[Int.toNat 0]? = some v9 := hv9
    cases hg9
    cases hG9
    refine wpAny_call ?_
    k_dflt ktr_enter
    k_steps
    · (rename News h₀ L _ _ => kN); (rename Fr h₀ L _ _ => kF); rename Flat _ _ => hfl
      exact ret _ _ _ _ ⟨rfl, nm1 (by assumption) ▸ hfl⟩ kF kN
    · (rename News h₀ L _ _ => kN); (rename Fr h₀ L _ _ => kF)
      exact ret _ _ _ _ ⟨rfl, nm2 (by assumption) (by assumption) ▸ Flat.str _ _⟩ kF kN
    · (rename News h₀ L _ _ => kN); (rename Fr h₀ L _ _ => kF)
      exact ret _ _ _ _ ⟨rfl, nm3 (by assumption) (by assumption) (by assumption) ▸ Flat.str _ _⟩ kF kN
    · (rename News h₀ L _ _ => kN); (rename Fr h₀ L _ _ => kF); rename Flat _ _ => hfl
      exact ret _ _ _ _ ⟨rfl, nm4 (by assumption) (by assumption) (by assumption) (by assumption) ▸ hfl⟩ kF kN
    · have h9 := h0 (by assumption) (by assumption) (by assumption) (by assumption)
      k_steps
      (rename News h₀ L _ _ => kN); (rename Fr h₀ L _ _ => kF); rename Flat _ _ => hfl
      exact ret _ _ _ _ ⟨rfl, nm5 (by assumption) (by assumption) (by assumption) (by assumption) ▸ hfl⟩ kF kN
theorem match_value (w : World) (led : Led) (mv : Value) (M : Option MData) (hM : MatchAt led mv M) (p : Str × Nm) (hp : p ∈ names) (tk : Tok) :
    Con w 327 [mv, .str p.1 tk] 5 40 led (SameLed led (valN M p.2)) := by
  obtain ⟨e1, e2, e3⟩ := nm_cases p hp
  rw [← e1]
  exact match_value_x w led mv M hM p.1 e2 e3 tk
end Mine
end

section
open PySem PySem.W PyProof.Rows PyProof.V PySem.Spec
namespace Mine
theorem memLed {x : Addr × Obj} {l : Led} (h : x ∈ l) : List.Mem x l := h
theorem valN_kind (M : Option MData) (n : Nm) : valN M n = .none ∨ ∃ z, valN M n = .str z := by
  have hs : ∀ (x : Str) (o : Option (Int × Int)), sl x o = .none ∨ ∃ z, sl x o = .str z := fun x o => by
    cases o with
    | none => exact .inl rfl
    | some p => obtain ⟨a, b⟩ := p; exact .inr ⟨_, rfl⟩
  cases M with
  | none => exact .inl rfl
  | some M =>
    cases n with
    | amp => exact hs _ _
    | plus => exact hs _ _
    | num k => exact hs _ _
    | tick =>
      simp only [valN, valM]
      cases (M.gs[0]?).join with
      | none => exact .inl rfl
      | some p => exact .inr ⟨_, rfl⟩
    | quote =>
      simp only [valN, valM]
      cases (M.gs[0]?).join with
      | none => exact .inl rfl
      | some p => exact .inr ⟨_, rfl⟩
theorem flat_none {v : Value} (h : Flat v .none) : v = .none := by cases h {}; rfl
/-- the values that stand for the names, so far -/
def Vals (M : Option MData) (i : Nat) (ys : List Value) : Prop := ys.length = i ∧ ∀ (j : Nat) (y : Value) (p : Str × Nm), ys[j]? = some y → names[j]? = some p → Flat y (valN M p.2)
theorem Vals.nil {M : Option MData} : Vals M 0 [] := ⟨rfl, fun _ _ _ h => by simp at h⟩
theorem Vals.snoc {M : Option MData} {i : Nat} {ys : List Value} {y : Value} {p : Str × Nm} (h : Vals M i ys) (hp : names[i]? = some p) (hy : Flat y (valN M p.2)) : Vals M (i + 1) (ys ++ [y]) := by
  refine ⟨by simp [h.1], fun j z q hj hq => ?_⟩
  by_cases e : j = ys.length
  · subst e
    rw [h.1] at hq
    rw [hp] at hq
    cases hq
    simp at hj
    exact hj ▸ hy
  · rw [get_snoc e] at hj
    exact h.2 j z q hj hq
section
variable {prog : Program} {w : World} {A : Around} {E : Value → Shared → Prop} {s : Shared} {h₀ : Heap} {L a b : Addr} {news : Led} {Q : Value → Shared → Prop} {xs ys : List Value} {M : Option MData}
theorem eq_vals (N : News h₀ L s.heap news) (ma : (a, LCg.lst xs) ∈ news) (mb : (b, LCg.lst ys) ∈ news) (hx : Vals M names.length xs) (hy : Vals M names.length ys) (hu : A.units < cLine)
    (h : Q (.bool true) s) : wpAny (model prog w) A (compareOp .Eq (.ref a) (.ref b)) Q E s := by
  have hl : s.heap.IsList a xs.toArray := ⟨_, (N _ ma).1, rfl, _, rfl⟩
  have hl' : s.heap.IsList b ys.toArray := ⟨_, (N _ mb).1, rfl, _, rfl⟩
  have e : (List.range xs.toArray.size).all (fun _ => true) = true := by simp
  refine SeqAt.RcAt.lists (e := fun _ => true) hl hl' (by simp [hx.1, hy.1]) hu (fun j j1 j2 => ?_) prog w E Q (by rw [e]; exact h)
  have k1 : j < xs.length := by simpa using j1
  have k2 : j < ys.length := by simpa using j2
  have k3 : j < names.length := hx.1 ▸ k1
  have f1 := hx.2 j xs[j] names[j] (List.getElem?_eq_getElem k1) (List.getElem?_eq_getElem k3)
  have f2 := hy.2 j ys[j] names[j] (List.getElem?_eq_getElem k2) (List.getElem?_eq_getElem k3)
  have g1 : xs.toArray[j] = xs[j] := by simp
  have g2 : ys.toArray[j] = ys[j] := by simp
  rw [g1, g2]
  rcases valN_kind M names[j].2 with q | ⟨z, q⟩
  · rw [q] at f1 f2
    have e1 : xs[j] = .none := flat_none f1
    have e2 : ys[j] = .none := flat_none f2
    rw [e1, e2]
    exact SeqAt.EqAt.same _
  · rw [q] at f1 f2
    obtain ⟨t, e1⟩ := f1.str_inv
    obtain ⟨u, e2⟩ := f2.str_inv
    rw [e1, e2]
    have := SeqAt.EqAt.str_str (A := A.in1) (s := s) z t z u
    rwa [beq_self_eq_true] at this
end
section
variable {w : World} {mean : ExcName → Option Value} {mg mb : Str → Option Value} {dp un : Nat} {gd : Option (List Code)} {cn : Str} {cs : Scope} {a : Addr} {ccd : Value} {cl : List (Str × Addr)} {outer : List Env} {A₀ : Around} {base h₀ : Heap} {L : Addr} {m : Str → Option Value} {s : Shared} {Q E : Value → Shared → Prop} {led led0 : Led}
theorem value_use {mv : Value} {M : Option MData} {p : Str × Nm} {tk : Tok}
    (B : Below A₀ base outer h₀) (F : Fr h₀ L s.heap m) (X : (hd.heap_1 w.params).In h₀) (N : News h₀ L s.heap led) (T : Top view lo mean mg mb h₀) (hk : cs.kind = .function)
    (hM : MatchAt led0 mv M) (sub : ∀ z ∈ led0, z ∈ led) (hp : p ∈ names) (hd : dp + 5 < recursionLimit) (hu : un + 40 < cLine)
    (ret : ∀ r h' tk', Flat r (valN M p.2) → Fr h₀ L h' m → News h₀ L h' led → Q r { s with heap := h', toks := tk' }) :
    wpAny (model PySem.Challenge.rw_nz0194_01.row.prog w) (ktrTop dp un gd cn cs L a ccd cl outer) (call (.ref 327) [mv, .str p.1 tk]) Q E s := by
  refine match_value w led mv M (hM.mono sub) p hp tk mean mg mb dp un gd cn cs a ccd cl outer A₀ base h₀ L m s Q E B F X N T hk hd hu ?_
  rintro r news' h' tk' ⟨rfl, q1⟩ F' N'
  exact ret r h' tk' q1 F' N'
end
end Mine
end

open PySem PySem.W PyProof.Rows PyProof.V PySem.Spec
open Mine
local macro_rules | `(tactic| k_mem) => `(tactic| ((repeat (refine List.Mem.tail _ ?_)); refine memLed ?_; assumption))
section
open PySem PySem.W PyProof.Rows PyProof.V PySem.Spec
namespace Mine
example : True := by w_top off; trivial
local macro_rules | `(tactic| walk_at "zz") => `(tactic| skip)
theorem names_at {i : Nat} {v : Value} (h : (#[.str "main::&" 941, .str "main::`" 942, .str "main::'" 943, .str "main::+" 944, .str "main::1" 945, .str "main::2" 946, .str "main::3" 947, .str "main::4" 948, .str "main::5" 949, .str "main::10" 950, .str "main::40000000000000000000000001" 951] : Array Value)[i]? = some v) :
    ∃ p tk, p ∈ names ∧ names[i]? = some p ∧ v = .str p.1 tk := by
  have key : ∀ p tk, names[i]? = some p → v = .str p.1 tk → ∃ p tk, p ∈ names ∧ names[i]? = some p ∧ v = .str p.1 tk := fun p tk h1 h2 => ⟨p, tk, List.mem_of_getElem? h1, h1, h2⟩
  match i, h with
  | 0, h | 1, h | 2, h | 3, h | 4, h | 5, h | 6, h | 7, h | 8, h | 9, h | 10, h => exact key _ _ rfl (Option.some.inj h).symm
  | n + 11, h => simp at h
local macro_rules | `(tactic| walk_at "eval ListComp") => `(tactic| (k_here; k_dflt (refine ListComp_Tup (by k_asm) (by with_unfolding_all rfl) (by decide) (by rfl) (by decide) (by rfl) ?_)))
local macro_rules | `(tactic| walk_at "TupSrc") => `(tactic| (refine Hold.of ?_))
local macro_rules | `(tactic| walk_at "CompEnd") => `(tactic| (refine Hold.of ?_))
local macro_rules | `(tactic| walk_at "getAttr ref") => `(tactic| (k_here; k_dflt (refine' get_own ?k1 ?k2 ?k3 ?k4 ?k5 ?k6 ?k7 ?k8 ?k9 ?_; (case k1 => k_asm); (case k2 => k_asm); (case k3 => k_inst); (case k4 => k_is); (case k5 => k_is); (case k6 => k_is); (case k7 => k_is); (case k8 => assumption); (case k9 => assumption); k_whole)))
local macro_rules | `(tactic| walk_at "call ref") => `(tactic| (k_here; (with_reducible show wpAny _ _ (call (Value.ref 327) _) _ _ _); k_dflt (refine' value_use ?B ?F ?X ?N ?T ?k ?hM ?sub ?hp ?hd ?hu ?_; (case B => k_asm); (case F => k_asm); (case X => k_asm); (case N => k_asm); (case T => k_asm); (case k => first | exact rfl | assumption); (case hM => k_asm); (case sub => (intro z hz; (repeat (refine List.Mem.tail _ ?_)); exact hz)); (case hp => assumption); (case hd => (dsimp only [ktrTop]; omega)); (case hu => (dsimp only [ktrTop]; omega)); k_whole; intro r' h' tk' q1 F' N'; (try k_sweep); (try k_fold))))
set_option maxRecDepth 100000 in
set_option maxHeartbeats 8000000 in
theorem is_so (w : World) (led : Led) (ra dx td : Addr) (es : List DictEntry) (n : Nat) (mv : Value) (hra : (ra, instObj 440 dx) ∈ led) (hdx : (dx, dictOf es n) ∈ led) (hm : getL "match" es = some (some mv)) (hh : handedIn mv = true) (hT : Told w led mv td) :
    Con w 569 [.ref ra, .ref td] 8 80 led (fun r led' => r = .bool true ∧ led' = led) := by
  unfold Con
  k_fill
  intro mean mg mb dp un gd cn cs a ccd cl outer A₀ base h₀ L m s Q E B F X N T hk hd hu ret
  obtain ⟨M, D, hM, ⟨hlo, od, kvs, hod, hdk, hfp⟩, hTl⟩ := hT
  refine wpAny_call ?_
  k_dflt (refine' code_defC ?k1 ?k2 ?k3 ?k4 ?k5 ?kA ?kF ?kK ?k6 ?k7 ?k8 ?k9 ?kB ?kD ?_ ?c2 ?c3 ?c4; (case kA => exact rfl); (case kF => exact rfl); (case kK => assumption); (case k1 => k_asm); (case k2 => k_asm); (case k3 => k_asm); (case k4 => k_asm); (case k5 => k_asm); (case k6 => k_is); (case k7 => k_is); (case k8 => ktr_room); (case k9 => exact BindsTo.of_eq rfl); (case kB => exact rfl); (case kD => decide +kernel); (case c2 => exact rfl); (case c3 => exact rfl); (case c4 => exact rfl); k_whole; intro g' L' h' tk' cells' FG' F' N' Y' B' X' T' l1; (try k_lt l1); k_cells Y'; (try simp only [List.cons_append, List.nil_append] at N'); (try dsimp only); (try k_lift B'); (try k_fold))
  k_steps
  refine Hold.out ?_
  (rename News _ _ _ _ => N9); (rename Fr _ _ _ _ => F9)
  refine ⟨530, _, _, rfl, rfl, F9, N9, ⟨_, X' _ _ (by k_is), rfl, _, rfl⟩, (by decide), ?_⟩
  intro g9
  refine comp_inv (fun i ys nx => nx = _ :: _ :: led ∧ Vals M i ys) ?_ ?_ ⟨rfl, Vals.nil⟩
  · rintro i v ys nx I oI C oC D m₂ h tk E' hi ⟨rfl, hys⟩ hv hC hx F' N' off' ne'
    obtain ⟨p9, t9, hp9, hpi, rfl⟩ := names_at hv
    simp only [LCg.Off3] at off'
    obtain ⟨o1, o2, o3⟩ := off'
    k_steps
    (rename News _ _ _ _ => N9); (rename Fr _ _ _ _ => F9)
    exact Hold.out (LCg.CompEnd.intro F9 N9 _ (fun _ h => h) ⟨o1, o2, o3⟩ trivial ⟨rfl, hys.snoc hpi (by assumption)⟩)
  · rintro ys nx ⟨rfl, hys⟩
    unfold LCg.FinE
    intro D1 h tk F' N' o1'
    simp only [LCg.Off1] at o1'
    obtain ⟨o1, o2, o3⟩ := o1'
    k_steps
    refine Hold.out ?_
    (rename News _ _ _ _ => N9); (rename Fr _ _ _ _ => F9)
    refine ⟨530, _, _, rfl, rfl, F9, N9, ⟨_, X' _ _ (by k_is), rfl, _, rfl⟩, (by decide), ?_⟩
    intro g8
    refine comp_inv (fun i zs nx => nx = (D1, LCg.lst ys) :: _ :: _ :: led ∧ Vals M i zs) ?_ ?_ ⟨rfl, Vals.nil⟩
    · rintro i v zs nx I oI C oC D m₂ h tk E' hi ⟨rfl, hzs⟩ hv hC hx F' N' off' ne'
      obtain ⟨p9, t9, hp9, hpi, rfl⟩ := names_at hv
      simp only [LCg.Off3] at off'
      obtain ⟨o4, o5, o6, o7⟩ := off'
      have hT9 := hTl _ hp9
      k_steps
      (rename News _ _ _ _ => N9); (rename Fr _ _ _ _ => F9); (rename Flat _ _ => hfl)
      exact Hold.out (LCg.CompEnd.intro F9 N9 _ (fun _ h => h) ⟨o4, o5, o6, o7⟩ trivial ⟨rfl, hzs.snoc hpi (hT9 ▸ hfl)⟩)
    · rintro zs nx ⟨rfl, hzs⟩
      unfold LCg.FinE
      intro D2 h tk F' N' o1'
      simp only [LCg.Off1] at o1'
      obtain ⟨o4, o5, o6, o7⟩ := o1'
      replace hys : Vals M names.length ys := hys
      replace hzs : Vals M names.length zs := hzs
      refine eq_vals (M := M) N' (.tail _ (.head _)) (.head _) hys hzs (by show un + 3 < cLine; omega) ?_
      k_steps
      (rename News _ _ _ _ => N9); (rename Fr _ _ _ _ => F9)
      exact ret _ _ _ _ ⟨rfl, rfl⟩ F9 (cb_drop N9 fun _ h => .tail _ (.tail _ (.tail _ (.tail _ h))))
end Mine
end

section
open PySem PySem.W PyProof.Rows PyProof.V PySem.Spec
namespace Mine
theorem isStr_other {k : Value} {x y : Str} (h : k.isStr x = true) (hxy : x ≠ y) : k.isStr y = false := by
  cases k <;> simp_all [Value.isStr]
theorem getL_put {name : Str} {hsh : Int} {key v old : Value} : ∀ {es : List DictEntry}, getL name es = some (some old) → getL name (putL name hsh key v es) = some (some v)
  | [], h => by simp [getL] at h
  | e :: r, h => by
    by_cases q : e.key.isStr name = true
    · simp [getL, putL, q]
    · have q' : e.key.isStr name = false := by simpa using q
      have hr : getL name r = some (some old) := by
        unfold getL at h ⊢
        rw [List.find?_cons_of_neg (by simp [q'])] at h
        cases hf : r.find? (fun x => x.key.isStr name) with
        | some e' => rw [hf] at h; exact h
        | none => rw [hf] at h; simp only at h; split at h <;> simp at h
      have ih := getL_put (hsh := hsh) (key := key) (v := v) hr
      unfold getL at ih ⊢
      rw [putL, if_neg (by simp [q']), List.find?_cons_of_neg (by simp [q'])]
      cases hf : (putL name hsh key v r).find? (fun x => x.key.isStr name) with
      | some e' => rw [hf] at ih; exact ih
      | none => rw [hf] at ih; simp only at ih; split at ih <;> simp at ih
theorem getL_put_other {name y : Str} {hsh : Int} {key v old w' : Value} (hy : name ≠ y) : ∀ {es : List DictEntry}, getL name es = some (some old) → getL y es = some (some w') → getL y (putL name hsh key v es) = some (some w')
  | [], h, _ => by simp [getL] at h
  | e :: r, h, h2 => by
    by_cases q : e.key.isStr name = true
    · have q2 := isStr_other q hy
      unfold getL at h2 ⊢
      rw [putL, if_pos q, List.find?_cons_of_neg (by simp [q2])]
      rw [List.find?_cons_of_neg (by simp [q2])] at h2
      cases hf : r.find? (fun x => x.key.isStr y) with
      | some e' => rw [hf] at h2; exact h2
      | none => rw [hf] at h2; simp only at h2; split at h2 <;> simp at h2
    · have q' : e.key.isStr name = false := by simpa using q
      have hr : getL name r = some (some old) := by
        unfold getL at h ⊢
        rw [List.find?_cons_of_neg (by simp [q'])] at h
        cases hf : r.find? (fun x => x.key.isStr name) with
        | some e' => rw [hf] at h; exact h
        | none => rw [hf] at h; simp only at h; split at h <;> simp at h
      by_cases q2 : e.key.isStr y = true
      · unfold getL at h2 ⊢
        rw [putL, if_neg (by simp [q']), List.find?_cons_of_pos (by simp [q2])]
        rw [List.find?_cons_of_pos (by simp [q2])] at h2
        exact h2
      · have q2' : e.key.isStr y = false := by simpa using q2
        have h2r : getL y r = some (some w') := by
          unfold getL at h2 ⊢
          rw [List.find?_cons_of_neg (by simp [q2'])] at h2
          cases hf : r.find? (fun x => x.key.isStr y) with
          | some e' => rw [hf] at h2; exact h2
          | none => rw [hf] at h2; simp only at h2; split at h2 <;> simp at h2
        have ih := getL_put_other (hsh := hsh) (key := key) (v := v) hy hr h2r
        unfold getL at ih ⊢
        rw [putL, if_neg (by simp [q']), List.find?_cons_of_neg (by simp [q2'])]
        cases hf : (putL name hsh key v r).find? (fun x => x.key.isStr y) with
        | some e' => rw [hf] at ih; exact ih
        | none => rw [hf] at ih; simp only at ih; split at ih <;> simp at ih
theorem putL_len {name : Str} {hsh : Int} {key v old : Value} : ∀ {es : List DictEntry}, getL name es = some (some old) → (putL name hsh key v es).length = es.length
  | [], h => by simp [getL] at h
  | e :: r, h => by
    by_cases q : e.key.isStr name = true
    · simp [putL, q]
    · have q' : e.key.isStr name = false := by simpa using q
      have hr : getL name r = some (some old) := by
        unfold getL at h ⊢
        rw [List.find?_cons_of_neg (by simp [q'])] at h
        cases hf : r.find? (fun x => x.key.isStr name) with
        | some e' => rw [hf] at h; exact h
        | none => rw [hf] at h; simp only at h; split at h <;> simp at h
      rw [putL, if_neg (by simp [q']), List.length_cons, List.length_cons, putL_len hr]
/-- what the run's own dict holds -/
structure RunD (rs : Addr) (mv : Value) (es : List DictEntry) : Prop where
  mt : getL (Str.ofString "match") es = some (some mv)
  sv : getL (Str.ofString "saves") es = some (some (.ref rs))
  ln : es.length ≤ 100
  hv : handedIn mv = true
theorem RunD.put {rs : Addr} {mv v key : Value} {hsh : Int} {es : List DictEntry} (h : RunD rs mv es) (hv : handedIn v = true) : RunD rs v (putL (Str.ofString "match") hsh key v es) :=
  ⟨getL_put h.mt, getL_put_other (by decide) h.mt h.sv, by rw [putL_len h.mt]; exact h.ln, hv⟩
theorem upd_of {d : Addr} {o o' : Obj} {post : Led} (h2 : ∀ p ∈ post, p.1 ≠ d) : ∀ {pre : Led}, (∀ p ∈ pre, p.1 ≠ d) → Upd d o o' (pre ++ (d, o) :: post) (pre ++ (d, o') :: post)
  | [], _ => .head h2
  | _ :: _, h => .tail (h _ (.head _)) (upd_of h2 fun p hp => h p (.tail _ hp))
section
variable {w : World} {A : Around} {E : Value → Shared → Prop} {s : Shared} {h₀ : Heap} {L : Addr} {m : Str → Option Value} {led : Led} {g : Obj → Led} {Q : Unit → Shared → Prop}
theorem set_match {ra dx rs : Addr} {es : List DictEntry} {n : Nat} {mv v : Value} (F : Fr h₀ L s.heap m) (X : (hd.heap_1 w.params).In h₀) (N : News h₀ L s.heap led) (hra : (ra, instObj 440 dx) ∈ led) (U : UpdF dx (dictOf es n) led g) (R : RunD rs mv es) (hv : handedIn v = true)
    (ret : ∀ es' n' h', RunD rs v es' → Fr h₀ L h' m → News h₀ L h' (g (dictOf es' n')) → Q () { s with heap := h', toks := s.toks + 2 }) :
    wpAny (model PySem.Challenge.rw_nz0194_01.row.prog w) A (setAttr (.ref ra) (Str.ofString "match") v) Q E s := by
  revert X; k_fill; intro X
  obtain ⟨pre, post, rfl, hg, h1, h2⟩ := U.split
  refine set_dict (C := 440) (es := es) (n := n) F X N (InstAt.of_news N hra (List.mem_append_right _ (.head _))) rfl (by k_is) (by k_is) (by k_is) (by k_is) (by rw [R.mt]; rfl) rfl (upd_of h2 h1) (by rw [putL_len R.mt]; exact Nat.le_trans R.ln (by decide)) ?_
  intro h' F' N'
  exact ret _ _ h' (R.put hv) F' (by rw [hg]; exact N')
end
end Mine
end

section
open PySem PySem.W PyProof.Rows PyProof.V PySem.Spec
namespace Mine
example : True := by w_top off; trivial
local macro_rules | `(tactic| walk_at "setAttr ref") => `(tactic| (k_here; k_dflt (refine' set_match ?F ?X ?N ?a ?U ?R ?hv ?_; (case F => k_asm); (case X => k_asm); (case N => k_asm); (case a => k_mem); (case U => k_updF); (case R => assumption); (case hv => assumption); k_whole; intro es' n' h' R' F' N'; (try dsimp only at N'); (try k_sweep))))
def UndoPost (rs dx : Addr) (mv : Value) (tail : Led) (r : Value) (led' : Led) : Prop := r = .none ∧ ∃ es' n', led' = (dx, dictOf es' n') :: tail ∧ RunD rs mv es'
set_option maxRecDepth 100000 in
set_option maxHeartbeats 8000000 in
theorem undo (w : World) (ra dx rs si : Addr) (es : List DictEntry) (n : Nat) (t : Tok) (mv mi : Value) (tail : Led) (hra : (ra, instObj 440 dx) ∈ tail) (hsi : (si, tupO #[.str (Str.ofString "match") t, mi]) ∈ tail) (off : OwnOff tail [dx]) (R : RunD rs mv es) (hv : handedIn mi = true) :
    Con w 284 [.ref ra, .ref si] 2 16 ((dx, dictOf es n) :: tail) (UndoPost rs dx mi tail) := by
  unfold Con
  k_fill
  intro mean mg mb dp un gd cn cs a ccd cl outer A₀ base h₀ L m s Q E B F X N T hk hd hu ret
  refine wpAny_call ?_
  k_dflt ktr_enter
  k_steps
  rename News _ _ _ _ => kN
  rename Fr _ _ _ _ => kF
  rename RunD _ _ _ => R9
  exact ret _ _ _ _ ⟨rfl, _, _, rfl, R9⟩ kF kN
section
variable {w : World} {mean : ExcName → Option Value} {mg mb : Str → Option Value} {dp un : Nat} {gd : Option (List Code)} {cn : Str} {cs : Scope} {a : Addr} {ccd : Value} {cl : List (Str × Addr)} {outer : List Env} {A₀ : Around} {base h₀ : Heap} {L : Addr} {m : Str → Option Value} {s : Shared} {Q E : Value → Shared → Prop} {led : Led} {g : Obj → Led}
theorem undo_use {ra dx rs si : Addr} {es : List DictEntry} {n : Nat} {t : Tok} {mv mi : Value}
    (B : Below A₀ base outer h₀) (F : Fr h₀ L s.heap m) (X : (hd.heap_1 w.params).In h₀) (N : News h₀ L s.heap led) (U : UpdF dx (dictOf es n) led g) (T : Top view lo mean mg mb h₀) (hk : cs.kind = .function)
    (hra : (ra, instObj 440 dx) ∈ led) (hrd : ra ≠ dx) (hsi : (si, tupO #[.str (Str.ofString "match") t, mi]) ∈ led) (hsd : si ≠ dx) (R : RunD rs mv es) (hv : handedIn mi = true) (hd : dp + 2 < recursionLimit) (hu : un + 16 < cLine)
    (ret : ∀ es' n' h' tk', RunD rs mi es' → Fr h₀ L h' m → News h₀ L h' (g (dictOf es' n')) → Q .none { s with heap := h', toks := tk' }) :
    wpAny (model PySem.Challenge.rw_nz0194_01.row.prog w) (ktrTop dp un gd cn cs L a ccd cl outer) (call (.ref 284) [.ref ra, .ref si]) Q E s := by
  obtain ⟨pre, post, rfl, hg, h1, h2⟩ := U.split
  have sub : ∀ z : Addr × Obj, z ∈ pre ++ (dx, dictOf es n) :: post → z.1 ≠ dx → z ∈ pre ++ post := fun z hz hne => by
    rcases List.mem_cons.mp (mem_join z hz) with e | e
    · exact absurd (congrArg Prod.fst e) hne
    · exact e
  refine undo w ra dx rs si es n t mv mi (pre ++ post) (sub _ hra hrd) (sub _ hsi hsd) (off_split h1 h2) R hv mean mg mb dp un gd cn cs a ccd cl outer A₀ base h₀ L m s Q E B F X (cb_drop N mem_split) T hk hd hu ?_
  rintro r news' h' tk' ⟨rfl, es', n', rfl, R'⟩ F' N'
  exact ret es' n' h' tk' R' F' (by rw [hg]; exact cb_drop N' mem_join)
end
end Mine
end

section
open PySem PySem.W PyProof.Rows PyProof.V PySem.Spec
namespace Mine
example : True := by w_top off; trivial
/-- the saves: tuples of the word and the match that was set aside -/
inductive SavesAt (led : Led) : List Value → List Value → Prop
  | nil : SavesAt led [] []
  | cons {si : Addr} {t : Tok} {mi : Value} {vs mvs : List Value} : (si, tupO #[.str (Str.ofString "match") t, mi]) ∈ led → handedIn mi = true → SavesAt led vs mvs → SavesAt led (.ref si :: vs) (mi :: mvs)
theorem SavesAt.mono {led led' : Led} {vs mvs : List Value} (h : SavesAt led vs mvs) (hs : ∀ p ∈ led, p ∈ led') : SavesAt led' vs mvs := by
  induction h with
  | nil => exact .nil
  | cons hm h1 _ ih => exact .cons (hs _ hm) h1 ih
theorem SavesAt.length {led : Led} {vs mvs : List Value} (h : SavesAt led vs mvs) : vs.length = mvs.length := by
  induction h with
  | nil => rfl
  | cons _ _ _ ih => simp [ih]
theorem SavesAt.at {led : Led} {vs mvs : List Value} (h : SavesAt led vs mvs) : ∀ {j : Nat}, j < vs.length → ∃ si t mi, vs[j]? = some (.ref si) ∧ mvs[j]? = some mi ∧ (si, tupO #[.str (Str.ofString "match") t, mi]) ∈ led ∧ handedIn mi = true := by
  induction h with
  | nil => intro j hj; simp at hj
  | cons hm h1 h ih =>
    intro j hj
    cases j with
    | zero => exact ⟨_, _, _, rfl, rfl, hm, h1⟩
    | succ j =>
      obtain ⟨si, t, mi, q1, q2, q3⟩ := ih (j := j) (by simpa using hj)
      exact ⟨si, t, mi, by simpa using q1, by simpa using q2, q3⟩
theorem SavesAt.snoc {led : Led} {vs mvs : List Value} {si : Addr} {t : Tok} {mi : Value} (h : SavesAt led vs mvs) (hm : (si, tupO #[.str (Str.ofString "match") t, mi]) ∈ led) (h1 : handedIn mi = true) : SavesAt led (vs ++ [.ref si]) (mvs ++ [mi]) := by
  induction h with
  | nil => exact .cons hm h1 .nil
  | cons hm' h1' _ ih => exact .cons hm' h1' ih
theorem SavesAt.take {led : Led} {vs mvs : List Value} (h : SavesAt led vs mvs) (k : Nat) : SavesAt led (vs.take k) (mvs.take k) := by
  induction h generalizing k with
  | nil => simpa using SavesAt.nil
  | cons hm h1 _ ih =>
    cases k with
    | zero => exact .nil
    | succ k => exact .cons hm h1 (ih k)
theorem take_one {α : Type} {l : List α} {j : Nat} {x : α} (h : l[j]? = some x) : l.take (j + 1) = l.take j ++ [x] := by
  rw [List.take_add_one, h]; rfl
/-- between the turns of leave's loop -/
def JV (M : Str → Option Value) (dx rs : Addr) (vs mvs : List Value) (mv : Value) (rest : Led) (k j : Nat) (m₁ : Str → Option Value) (nx : Led) : Prop :=
  (∀ y, y ≠ Str.ofString "save" → m₁ y = M y) ∧ k ≤ j ∧ j ≤ vs.length ∧ ∃ es n c, nx = (dx, dictOf es n) :: (rs, listOf (vs.take j).toArray c) :: rest ∧ RunD rs (mvs[j]?.getD mv) es
def LeavePost (dx rs : Addr) (vs mvs : List Value) (mv : Value) (rest : Led) (k : Nat) (r : Value) (led' : Led) : Prop :=
  r = .none ∧ ∃ es n c, led' = (dx, dictOf es n) :: (rs, listOf (vs.take k).toArray c) :: rest ∧ RunD rs (mvs[k]?.getD mv) es
theorem RunD.getM {rs : Addr} {mv : Value} {es : List DictEntry} (h : RunD rs mv es) : getL (Str.ofString "match") es = some (some mv) := h.mt
local macro_rules | `(tactic| walk_at "getAttr ref") => `(tactic| (k_here; k_dflt (refine' get_own ?k1 ?k2 ?k3 ?k4 ?k5 ?k6 ?k7 ?k8 ?k9 ?_; (case k1 => k_asm); (case k2 => k_asm); (case k3 => k_inst); (case k4 => k_is); (case k5 => k_is); (case k6 => k_is); (case k7 => k_is); (case k8 => exact RunD.sv (by assumption)); (case k9 => rfl); k_whole)))
local macro_rules | `(tactic| walk_at "call builtin:len") => `(tactic| (k_here; (with_reducible show wpAny _ _ (call (Value.builtin "len") [Value.ref _]) _ _ _); k_dflt (refine' kst_len ?k1 ?k2 ?k3 ?k4 ?_; (case k1 => k_asm); (case k2 => k_mem); (case k3 => with_reducible assumption); (case k4 => omega); k_whole)))
local macro_rules | `(tactic| walk_at "call ref") => `(tactic| (k_here; (with_reducible show wpAny _ _ (call (Value.ref 284) _) _ _ _); k_dflt (refine' undo_use ?B ?F ?X ?N ?U ?T ?k ?a1 ?a2 ?a3 ?a4 ?R ?hv ?hd ?hu ?_; (case B => k_asm); (case F => k_asm); (case X => k_asm); (case N => k_asm); (case U => k_updF); (case T => k_asm); (case k => first | exact rfl | assumption); (case a1 => k_mem); (case a2 => assumption); (case a3 => k_mem); (case a4 => assumption); (case R => assumption); (case hv => assumption); (case hd => (dsimp only [ktrTop]; omega)); (case hu => (dsimp only [ktrTop]; omega)); k_whole; intro es' n' h' tk' R' F' N'; (try dsimp only at N'); (try k_sweep); (try k_fold))))
local macro_rules | `(tactic| walk_at "exec While") => `(tactic| (refine Hold.of ?_))
local macro_rules | `(tactic| walk_at "WhileStep") => `(tactic| (refine Hold.of ?_))
set_option maxRecDepth 100000 in
set_option maxHeartbeats 8000000 in
theorem leave (w : World) (ra dx rs : Addr) (es : List DictEntry) (n c : Nat) (vs mvs : List Value) (mv : Value) (k : Nat) (tk0 : Tok) (rest : Led) (hra : (ra, instObj 440 dx) ∈ rest) (hS : SavesAt rest vs mvs) (hkl : k ≤ vs.length) (hl : vs.length ≤ 1000) (off : OwnOff rest [dx, rs]) (hne : dx ≠ rs) (R : RunD rs mv es) :
    Con w 292 [.ref ra, .int (k : Int) tk0] 5 40 ((dx, dictOf es n) :: (rs, listOf vs.toArray c) :: rest) (LeavePost dx rs vs mvs mv rest k) := by
  unfold Con
  k_fill
  intro mean mg mb dp un gd cn cs a ccd cl outer A₀ base h₀ L m s Q E B F X N T hk hd hu ret
  have hrd : ra ≠ dx := off _ hra _ (.head _)
  have hne' := neN hne
  have hrd' := neN hrd
  refine wpAny_call ?_
  k_dflt ktr_enter
  k_steps
  refine Hold.out ?_
  (rename News _ _ _ _ => N9); (rename Fr _ _ _ _ => F9)
  refine While_inv (JV _ dx rs vs mvs mv rest k) (n₀ := vs.length) F9 N9 ⟨fun _ _ => rfl, hkl, Nat.le_refl _, es, n, c, by rw [List.take_length], by rw [List.getElem?_eq_none (by rw [← hS.length]; exact Nat.le_refl _)]; exact R⟩ ?_
  rintro j m₁ nx h tk F' N' ⟨hm, hkj, hjl, es1, n1, c1, rfl, R1⟩
  rw [← done_none hm] at F'
  have hk9 : k < 1000000 := by omega
  rcases Nat.eq_or_lt_of_le hkj with rfl | hlt
  · have hlen : (vs.take k).length = k := by rw [List.length_take]; omega
    k_steps
    · (rename News _ _ _ _ => N9); (rename Fr _ _ _ _ => F9)
      exact ret _ _ _ _ ⟨rfl, es1, n1, c1, rfl, R1⟩ F9 N9
  · obtain ⟨j, rfl⟩ : ∃ i, j = i + 1 := ⟨j - 1, by omega⟩
    obtain ⟨si, t9, mi, q1, q2, q3, q4⟩ := hS.at (j := j) (by omega)
    have hsd : si ≠ dx := off _ q3 _ (.head _)
    rw [take_one q1] at N'
    have hlen : (vs.take j ++ [Value.ref si]).length = j + 1 := by rw [List.length_append, List.length_take]; simp; omega
    k_steps
    (rename News _ _ _ _ => N9); (rename Fr _ _ _ _ => F9)
    dsimp only
    refine' kl_pop F9 N9 (kpa_last _ _) ?U ?z ?_
    case U => k_upd
    case z => (simp only [sizeLine_eq]; simp only [List.length_append, List.length_cons, List.length_nil, List.length_take]; omega)
    intro h8 F8 N8
    k_steps
    refine Hold.out ?_
    (rename News _ _ _ _ => N9); (rename Fr _ _ _ _ => F9); (rename RunD _ _ _ => R9)
    refine WhileStep.intro (n' := j) F9 N9 (Nat.lt_succ_self _) ⟨?_, by omega, by omega, _, _, _, rfl, ?_⟩
    · intro y hy
      simp only [if_neg hy]
    · rw [q2]; exact R9
end Mine
end

local macro_rules | `(tactic| walk_at "getAttr ref") => `(tactic| (k_here; k_dflt (refine' get_own ?k1 ?k2 ?k3 ?k4 ?k5 ?k6 ?k7 ?k8 ?k9 ?_; (case k1 => k_asm); (case k2 => k_asm); (case k3 => k_inst); (case k4 => k_is); (case k5 => k_is); (case k6 => k_is); (case k7 => k_is); (case k8 => first | exact RunD.sv (by assumption) | exact RunD.mt (by assumption)); (case k9 => first | rfl | exact RunD.hv (by assumption)); k_whole)))
local macro_rules | `(tactic| walk_at "call builtin:list.append") => `(tactic| (k_here; (with_reducible show wpAny _ _ (call (Value.builtin _) [Value.ref _, _]) _ _ _); k_dflt (refine' append_K ?k1 ?k2 ?k3 ?_ ?z; (case k1 => k_asm); (case k2 => k_asm); (case k3 => k_upd); (case z => (simp only [sizeLine_eq, List.size_toArray]; omega)); k_whole); intro h' F' N'; (try k_sweep)))
section
open PySem PySem.W PyProof.Rows PyProof.V PySem.Spec
namespace Mine
example : True := by w_top off; trivial
def SavePost (dx rs : Addr) (es : List DictEntry) (n : Nat) (vs : List Value) (mv : Value) (rest : Led) (r : Value) (led' : Led) : Prop :=
  r = .none ∧ ∃ (si : Addr) (t : Tok) (c : Nat), led' = (dx, dictOf es n) :: (rs, listOf (vs ++ [Value.ref si]).toArray c) :: (si, tupO #[.str (Str.ofString "match") t, mv]) :: rest ∧ dx < si ∧ rs < si ∧ AllLt si rest
theorem perm_save {a b c : Addr × Obj} {r : Led} : ∀ x ∈ b :: c :: a :: r, x ∈ a :: b :: c :: r := fun x hx => by
  simp only [List.mem_cons] at hx ⊢
  grind
set_option maxRecDepth 100000 in
set_option maxHeartbeats 8000000 in
theorem save (w : World) (ra dx rs : Addr) (es : List DictEntry) (n c : Nat) (vs : List Value) (mv : Value) (rest : Led) (hra : (ra, instObj 440 dx) ∈ rest) (hl : vs.length ≤ 1000) (off : OwnOff rest [dx, rs]) (hne : dx ≠ rs) (R : RunD rs mv es) :
    Con w 214 [.ref ra] 5 40 ((dx, dictOf es n) :: (rs, listOf vs.toArray c) :: rest) (SavePost dx rs es n vs mv rest) := by
  unfold Con
  k_fill
  intro mean mg mb dp un gd cn cs a ccd cl outer A₀ base h₀ L m s Q E B F X N T hk hd hu ret
  have hrd : ra ≠ dx := off _ hra _ (.head _)
  have hne' := neN hne
  refine wpAny_call ?_
  k_dflt ktr_enter
  k_steps
  rename News _ _ _ _ => kN
  rename Fr _ _ _ _ => kF
  rename _ ∧ _ => l9
  rw [List.push_toArray] at kN
  exact ret _ _ _ _ ⟨rfl, _, _, _, rfl, l9⟩ kF (cb_drop kN perm_save)
section
variable {w : World} {mean : ExcName → Option Value} {mg mb : Str → Option Value} {dp un : Nat} {gd : Option (List Code)} {cn : Str} {cs : Scope} {a : Addr} {ccd : Value} {cl : List (Str × Addr)} {outer : List Env} {A₀ : Around} {base h₀ : Heap} {L : Addr} {m : Str → Option Value} {s : Shared} {Q E : Value → Shared → Prop} {led : Led}
end
end Mine
end

section
open PySem PySem.W PyProof.Rows PyProof.V PySem.Spec
namespace Mine
example : True := by w_top off; trivial
local macro_rules | `(tactic| walk_at "exec For") => `(tactic| (k_here; (rename Fr _ _ _ _ => lF'); (with_unfolding_all refine' For_invVF lF' ?k1 ?k2 ?_; (case k1 => exact rfl); (case k2 => exact rfl); k_whole)))
local macro_rules | `(tactic| walk_at "pyIter ref") => `(tactic| (refine Hold.of ?_))
local macro_rules | `(tactic| walk_at "subscriptTail Name Slice ref ref") => `(tactic| (k_here; (with_reducible show wpAny _ _ (subscriptTail _ (PySem.Expr.Slice _ _ none _) (Value.ref _) (Value.ref _)) _ _ _); k_dflt (refine' kmk_slice_ints ?F ?N ?l ?p ?q ?i ?m ?c ?_ ?s ?t ?z; (case F => k_asm); (case N => k_asm); (case l => kmk_list); (case p => kmk_part); (case q => kmk_part); (case i => assumption); (case m => exact kmk_upto (by assumption) (by decide)); (case c => exact List.length_take ..); (case s => with_unfolding_all rfl); (case t => kmk_pure); (case z => (refine kmk_sz (by assumption) ?_; (simp only [sizeLine_eq]); omega))); intro D' ws' h' F' N' l1 hI' hC' hL'; (try simp only [Int.reduceNeg, Int.neg_neg, Int.reduceToNat] at hI' hC' hL'); (try k_lt l1); (try k_sweep)))
local macro_rules | `(tactic| walk_at "InvPostN") => `(tactic| (refine Hold.of ?_))
def JP (M : Str → Option Value) (led : Led) (m₁ : Str → Option Value) (nx : Led) : Prop :=
  nx = led ∧ ∃ n t, 0 ≤ n ∧ m₁ (Str.ofString "number") = some (.int n t) ∧ ∀ y, y ≠ Str.ofString "number" → y ≠ Str.ofString "cell" → m₁ y = M y
theorem JP.start {M : Str → Option Value} {led : Led} {n : Int} {t : Tok} (h : M (Str.ofString "number") = some (.int n t)) (hn : 0 ≤ n) : JP M led M led := ⟨rfl, n, t, hn, h, fun _ _ _ => rfl⟩
set_option maxRecDepth 100000 in
set_option maxHeartbeats 8000000 in
theorem pen_ (w : World) (led : Led) (sa : Addr) (vs : List Value) (ns : List Int) (hI : IntsAre vs ns) (hz : ns.length ≤ 63)
    (mean : ExcName → Option Value) (mg mb : Str → Option Value) (dp un : Nat) (gd : Option (List Code)) (cn : Str) (cs : Scope) (a : Addr) (ccd : Value) (cl : List (Str × Addr)) (outer : List Env) (A₀ : Around) (base h₀ : Heap) (L : Addr) (m : Str → Option Value) (s : Shared) (Q E : Value → Shared → Prop)
    (B : Below A₀ base outer h₀) (F : Fr h₀ L s.heap m) (X : (hd.heap_1 w.params).In h₀) (N : News h₀ L s.heap led) (T : Top view lo mean mg mb h₀) (hk : cs.kind = .function) (hL : base.IsList sa vs.toArray) (hd : dp + 5 < recursionLimit) (hu : un + 40 < cLine)
    (ret : ∀ p n t u c h' tk', 0 ≤ n → AllLt p led → Fr h₀ L h' m → News h₀ L h' ((p, penO n t 0 u c) :: led) → Q (.ref p) { s with heap := h', toks := tk' }) :
    wpAny (model PySem.Challenge.rw_nz0194_01.row.prog w) (ktrTop dp un gd cn cs L a ccd cl outer) (call (.ref 538) [.ref sa]) Q E s := by
  revert X; k_fill; intro X
  refine wpAny_call ?_
  k_dflt ktr_enter
  (rename Below _ _ _ _ => B9)
  k_lift B9
  k_steps
  refine Hold.out ?_
  (rename News _ _ _ _ => N9); (rename Fr _ _ _ _ => F9); (rename IntsAre _ _ => I9); (rename ∀ p ∈ led, _ => l9)
  refine iter_invNL (fun _ => JP _ _) rfl (.head _) I9 F9 N9 (JP.start (n := 7) rfl (by decide)) ?_ ?_
  · rintro i c u m₁ nx h tk own hc e1 e2 e3 ⟨rfl, n9, t9, hn9, hm1, hm2⟩ F' N'
    rw [map_one (v := .int c u) hm1 (fun z h1 h2 => hm2 z h2 h1)] at F'
    k_steps
    (rename News _ _ _ _ => N9); (rename Fr _ _ _ _ => F9)
    refine Hold.out ⟨_, _, _, _, _, rfl, F9, N9, fun p h => List.mem_append_left _ h, fun p h => List.mem_append_right _ h, rfl, .head _, rfl, _, _, ?_, rfl, fun y h1 h2 => by simp [h1, h2]⟩
    split <;> split <;> omega
  · rintro m₁ nx h tk e3 ⟨rfl, n9, t9, hn9, hm1, hm2⟩ F' N'
    rw [← done_one hm1 (fun z h1 h2 => hm2 z h2 h1)] at F'
    k_steps
    rename News _ _ _ _ => kN
    rename Fr _ _ _ _ => kF
    rename _ ∧ _ => l8
    refine ret _ _ _ _ _ _ _ hn9 ?_ kF (cb_drop kN fun x hx => (List.mem_cons.mp hx).elim (fun e => e ▸ .head _) fun e => .tail _ (.tail _ e))
    exact l8.2
end Mine
end

section
open PySem PySem.W PyProof.Rows PyProof.V PySem.Spec
namespace Mine
example : True := by w_top off; trivial
def isCases : List (Str × Bool) := [(Str.ofString "main::&", true), (Str.ofString "main::`", true), (Str.ofString "main::'", true), (Str.ofString "main::+", true), (Str.ofString "main::1", true), (Str.ofString "main::2", true), (Str.ofString "main::3", true), (Str.ofString "main::4", true), (Str.ofString "main::5", true), (Str.ofString "main::10", true), (Str.ofString "main::40000000000000000000000001", true),
  (Str.ofString "main::0", false), (Str.ofString "main::_", false), (Str.ofString "main::a", false), (Str.ofString "main::,", false), (Str.ofString "P::1", false), (Str.ofString "main", false), (Str.ofString "main::", false), (Str.ofString "main::01", false), (Str.ofString "main::x1", false), (Str.ofString "P::&", false)]
section
variable {w : World} {A : Around} {E : Value → Shared → Prop} {s : Shared} {h₀ : Heap} {L : Addr} {m : Str → Option Value} {news : Led} {Q : Value → Shared → Prop}
theorem signs_in {x : Str} {u : Tok} (F : Fr h₀ L s.heap m) (X : (hd.heap_1 w.params).In h₀) (h : Q (.bool ([Str.ofString "&", Str.ofString "`", Str.ofString "'", Str.ofString "+"].any (· == x))) s) :
    wpAny (model PySem.Challenge.rw_nz0194_01.row.prog w) A (compareOp .In (.str x u) (.ref 200)) Q E s := by
  revert X; k_fill; intro X
  exact in_tuple_strs ⟨_, F.keep _ _ (X 200 _ (by k_is)), rfl, _, rfl⟩ (.cons _ _ (.cons _ _ (.cons _ _ (.cons _ _ .nil)))) h
theorem in_bools {D : Addr} {ys : List Value} {c d : Bool} (N : News h₀ L s.heap news) (hm : (D, LCg.lst ys) ∈ news) (hy : ∀ y ∈ ys, y = .bool c) (hcd : (c == d) = false) (h : Q (.bool false) s) :
    wpAny (model PySem.Challenge.rw_nz0194_01.row.prog w) A (compareOp .In (.bool d) (.ref D)) Q E s := by
  refine SeqAt.in_listAt (fun _ => false) ⟨_, (N _ hm).1, rfl, _, rfl⟩ (fun y h => ?_) ?_
  · have := hy y (by simpa using h)
    subst this
    exact hcd ▸ SeqAt.EqAt.bool_bool c d
  · have e : ys.toArray.any (fun _ => false) = false := by simp
    rw [e]; exact h
end
local macro_rules | `(tactic| walk_at "compareOp In str ref") => `(tactic| (k_here; k_dflt (refine' signs_in ?F ?X ?_; (case F => k_asm); (case X => k_asm); k_whole)))
/-- what is_match_name answers of a text -/
def isM (x : Str) : Bool :=
  if (Txt.slice x none (some 6) != Str.ofString "main::") = true then false
  else if ([Str.ofString "&", Str.ofString "`", Str.ofString "'", Str.ofString "+"].any fun y => y == Txt.slice x (some 6) none) = true then true
  else if (Txt.slice x (some 6) none != Str.ofString "") = true then !(Builtin.Str.occurrences (Str.ofString "123456789") (Txt.item (Txt.slice x (some 6) none) 0) 0 (Str.ofString "123456789").length 1).isEmpty
  else Txt.slice x (some 6) none != Str.ofString ""
theorem isM1 {x : Str} (h1 : (Txt.slice x none (some 6) != Str.ofString "main::") = true) : isM x = false := if_pos h1
theorem isM2 {x : Str} (h1 : (Txt.slice x none (some 6) != Str.ofString "main::") = false) (h2 : ([Str.ofString "&", Str.ofString "`", Str.ofString "'", Str.ofString "+"].any fun y => y == Txt.slice x (some 6) none) = true) : isM x = true := (if_neg (fun e => Bool.noConfusion (h1.symm.trans e))).trans (if_pos h2)
theorem isM3 {x : Str} (h1 : (Txt.slice x none (some 6) != Str.ofString "main::") = false) (h2 : ([Str.ofString "&", Str.ofString "`", Str.ofString "'", Str.ofString "+"].any fun y => y == Txt.slice x (some 6) none) = false) (h3 : (Txt.slice x (some 6) none != Str.ofString "") = true) : isM x = !(Builtin.Str.occurrences (Str.ofString "123456789") (Txt.item (Txt.slice x (some 6) none) 0) 0 (Str.ofString "123456789").length 1).isEmpty := (if_neg (fun e => Bool.noConfusion (h1.symm.trans e))).trans ((if_neg (fun e => Bool.noConfusion (h2.symm.trans e))).trans (if_pos h3))
theorem isM4 {x : Str} (h1 : (Txt.slice x none (some 6) != Str.ofString "main::") = false) (h2 : ([Str.ofString "&", Str.ofString "`", Str.ofString "'", Str.ofString "+"].any fun y => y == Txt.slice x (some 6) none) = false) (h3 : (Txt.slice x (some 6) none != Str.ofString "") = false) : isM x = (Txt.slice x (some 6) none != Str.ofString "") := (if_neg (fun e => Bool.noConfusion (h1.symm.trans e))).trans ((if_neg (fun e => Bool.noConfusion (h2.symm.trans e))).trans (if_neg (fun e => Bool.noConfusion (h3.symm.trans e))))
theorem isM_cases : ∀ p ∈ isCases, isM p.1 = p.2 ∧ p.1.length ≤ 100 := by decide +kernel
set_option maxRecDepth 100000 in
set_option maxHeartbeats 8000000 in
theorem is_match_x (w : World) (led : Led) (x : Str) (tk : Tok) (hx : x.length ≤ 100) :
    Con w 299 [.str x tk] 3 24 led (fun r led' => r = .bool (isM x) ∧ led' = led) := by
  unfold Con
  k_fill
  intro mean mg mb dp un gd cn cs a ccd cl outer A₀ base h₀ L m s Q E B F X N T hk hd hu ret
  refine wpAny_call ?_
  k_dflt ktr_enter
  k_steps
  all_goals ((rename News h₀ L _ _ => kN); (rename Fr h₀ L _ _ => kF); refine ret _ _ _ _ ⟨congrArg Value.bool ?_, rfl⟩ kF kN)
  · exact (isM1 (by assumption)).symm
  · exact (isM2 (by assumption) (by assumption)).symm
  · exact (isM3 (by assumption) (by assumption) (by assumption)).symm
  · exact (isM4 (by assumption) (by assumption) (by assumption)).symm
theorem is_match (w : World) (led : Led) (p : Str × Bool) (hp : p ∈ isCases) (tk : Tok) :
    Con w 299 [.str p.1 tk] 3 24 led (fun r led' => r = .bool p.2 ∧ led' = led) := by
  have e := isM_cases p hp
  rw [← e.1]
  exact is_match_x w led p.1 tk e.2
end Mine
end

section
open PySem PySem.W PyProof.Rows PyProof.V PySem.Spec
namespace Mine
theorem names_is : ∀ p ∈ names, (p.1, true) ∈ isCases := by decide +kernel
section
variable {w : World} {mean : ExcName → Option Value} {mg mb : Str → Option Value} {dp un : Nat} {gd : Option (List Code)} {cn : Str} {cs : Scope} {a : Addr} {ccd : Value} {cl : List (Str × Addr)} {outer : List Env} {A₀ : Around} {base h₀ : Heap} {L : Addr} {m : Str → Option Value} {s : Shared} {Q E : Value → Shared → Prop} {led : Led}
theorem is_use {x : Str} {b : Bool} {tk : Tok}
    (B : Below A₀ base outer h₀) (F : Fr h₀ L s.heap m) (X : (hd.heap_1 w.params).In h₀) (N : News h₀ L s.heap led) (T : Top view lo mean mg mb h₀) (hk : cs.kind = .function)
    (hp : (x, b) ∈ isCases) (hd : dp + 3 < recursionLimit) (hu : un + 24 < cLine)
    (ret : ∀ h' tk', Fr h₀ L h' m → News h₀ L h' led → Q (.bool b) { s with heap := h', toks := tk' }) :
    wpAny (model PySem.Challenge.rw_nz0194_01.row.prog w) (ktrTop dp un gd cn cs L a ccd cl outer) (call (.ref 299) [.str x tk]) Q E s := by
  refine is_match w led (x, b) hp tk mean mg mb dp un gd cn cs a ccd cl outer A₀ base h₀ L m s Q E B F X N T hk hd hu ?_
  rintro r news' h' tk' ⟨rfl, rfl⟩ F' N'
  exact ret h' tk' F' N'
end
theorem others_at {i : Nat} {v : Value} (h : (#[.str "main::0" 953, .str "main::_" 954, .str "main::a" 955, .str "main::," 956, .str "P::1" 957, .str "main" 958, .str "main::" 959, .str "main::01" 960, .str "main::x1" 961, .str "P::&" 962] : Array Value)[i]? = some v) :
    ∃ x tk, (x, false) ∈ isCases ∧ v = .str x tk := by
  have key : ∀ (x : Str) (tk : Tok), ((x, false) ∈ isCases) → v = .str x tk → ∃ x tk, (x, false) ∈ isCases ∧ v = .str x tk := fun x tk h1 h2 => ⟨x, tk, h1, h2⟩
  match i, h with
  | 0, h | 1, h | 2, h | 3, h | 4, h | 5, h | 6, h | 7, h | 8, h | 9, h => exact key _ _ (by decide +kernel) (Option.some.inj h).symm
  | n + 10, h => simp at h
theorem Hold.loop {prog : Program} {w : World} {A : Around} {h₀ : Heap} {env : Env} {x : Str} {body : List Stmt} {Q : Flow → Shared → Prop} {E E' : Value → Shared → Prop} {s : Shared} {v : Value}
    (h : Hold (wpAny (model prog w) A (pyIter v) (fun it s₂ => LoopAtV prog w A h₀ env x body Q E it s₂) E' s)) : wpAny (model prog w) A (pyIter v) (fun it s₂ => LoopAtV prog w A h₀ env x body Q E it s₂) E' s := h.it
theorem bools_snoc {c : Bool} {ys : List Value} (h : ∀ y ∈ ys, y = Value.bool c) : ∀ y ∈ ys ++ [Value.bool c], y = Value.bool c := fun y hy => by
  rcases List.mem_append.mp hy with e | e
  · exact h y e
  · exact List.mem_singleton.mp e
end Mine
end

local macro_rules | `(tactic| k_room) => `(tactic| ktr_room)
local macro_rules | `(tactic| walk_at "compareOp NotIn str ref") => `(tactic| (k_here; k_dflt (refine kdg_notin (knd := PySem.strKind _ _) (by k_asm) (by k_mem) (by k_asm) (by k_asm) (strKind_is _ _ _ _) _ (by with_reducible assumption) ?_); (try dsimp only [Bool.not_true, Bool.not_false])))
section
open PySem PySem.W PyProof.Rows PyProof.V PySem.Spec
namespace Mine
example : True := by w_top off; trivial
/-- what an object's own dict holds, whatever the marks of its keys -/
inductive EsOf (P : Params) : List DictEntry → List (Str × Value) → Prop
  | nil : EsOf P [] []
  | cons {n : Str} {t : Tok} {v : Value} {es l} : EsOf P es l → EsOf P (⟨PyData.keyHash P n, .str n t, v⟩ :: es) ((n, v) :: l)
def putA (n : Str) (v : Value) : List (Str × Value) → List (Str × Value)
  | [] => [(n, v)]
  | p :: r => if p.1 = n then (n, v) :: r else p :: putA n v r
theorem EsOf.getO {P : Params} {n : Str} {r : Option Value} {es : List DictEntry} {l : List (Str × Value)} (D : EsOf P es l) (h : l.lookup n = r) : getL n es = some r := by
  subst h
  induction D with
  | nil => rfl
  | @cons n' t v es l D ih =>
    unfold getL at ih ⊢
    by_cases q : n' = n
    · subst q
      rw [List.find?_cons_of_pos (by simp [Value.isStr])]
      simp [List.lookup]
    · have q2 : (n == n') = false := by simpa using fun e => q e.symm
      rw [List.find?_cons_of_neg (by simpa [Value.isStr] using q)]
      simp only [List.lookup, q2]
      cases hf : es.find? (fun x => x.key.isStr n) with
      | some e' => rw [hf] at ih; exact ih
      | none =>
        rw [hf] at ih
        simp only at ih ⊢
        have e : (DictEntry.mk (PyData.keyHash P n') (Value.str n' t) v :: es).any (·.refKey) = es.any (·.refKey) := by simp [DictEntry.refKey]
        rw [e]; exact ih
theorem EsOf.put {P : Params} {n : Str} {t : Tok} {v : Value} {es : List DictEntry} {l l' : List (Str × Value)} (D : EsOf P es l) (h : putA n v l = l') : EsOf P (putL n (PyData.keyHash P n) (.str n t) v es) l' := by
  subst h
  induction D with
  | nil => exact .cons .nil
  | @cons n' t' v' es l D ih =>
    by_cases q : n' = n
    · subst q
      simp only [putL, putA, Value.isStr]
      simp only [beq_self_eq_true, if_true]
      exact .cons D
    · have q2 : (n' == n) = false := by simpa using q
      simp only [putL, putA, Value.isStr, q2, if_neg q, Bool.false_eq_true, if_false]
      exact .cons ih
theorem EsOf.len {P : Params} {es : List DictEntry} {l : List (Str × Value)} (D : EsOf P es l) : es.length = l.length := by
  induction D with
  | nil => rfl
  | cons _ ih => simp [ih]
theorem putA_nil {n : Str} {v : Value} : putA n v [] = [(n, v)] := rfl
theorem putA_hd {n : Str} {v u : Value} {r : List (Str × Value)} : putA n v ((n, u) :: r) = (n, v) :: r := if_pos rfl
theorem putA_tl {n k : Str} {v u : Value} {r r' : List (Str × Value)} (h : (k == n) = false) (e : putA n v r = r') : putA n v ((k, u) :: r) = (k, u) :: r' := (if_neg (by simpa using h)).trans (congrArg _ e)
theorem stored_new {kvs : List (Str × Value)} {x : Str} {v : Value} (h : (valueAt kvs x).isSome = false) : stored kvs x v = kvs ++ [(x, v)] := by
  have : kvs.any (fun kv => decide (kv.1 = x)) = false := by
    rw [List.any_eq_false]
    intro p hp q
    rw [valueAt, Option.isSome_map, Option.isSome_eq_false_iff, Option.isNone_iff_eq_none, List.find?_eq_none] at h
    exact h p hp q
  rw [stored, this, if_neg (by simp)]
theorem stored_self {kvs : List (Str × Value)} {x : Str} {v : Value} (h : (valueAt kvs x).isSome = false) : valueAt (stored kvs x v) x = some v := by
  have h' := h
  rw [stored_new h]
  rw [valueAt, Option.isSome_map, Option.isSome_eq_false_iff, Option.isNone_iff_eq_none] at h
  rw [valueAt, List.find?_append, h]
  simp
section
variable {prog : Program} {w : World} {A : Around} {E : Value → Shared → Prop} {s : Shared} {h₀ : Heap} {L : Addr} {m : Str → Option Value} {led : Led} {g : Obj → Led} {K : Frag} {C x dx : Addr} {ox : Obj} {es : List DictEntry} {n : Nat} {l l' : List (Str × Value)} {name : Str} {v : Value}
theorem es_set {Q : Unit → Shared → Prop} (F : Fr h₀ L s.heap m) (X : K.In h₀) (N : News h₀ L s.heap led) (I : InstAt s.heap x ox C (some (dictOf es n))) (hd : ox.dict = some dx)
    (hs : findIn K (.ref C) "__setattr__" = some (some (.builtin "object.__setattr__"))) (hp : plainOver K C = true) (ht : takerIn K C name = some none) (hh : hasDictIn K C = true)
    (U : UpdF dx (dictOf es n) led g) (D : EsOf w.params es l) (hl : putA name v l = l') (hz : l'.length ≤ 1000)
    (ret : ∀ es' n' h' tk', EsOf w.params es' l' → Fr h₀ L h' m → News h₀ L h' (g (dictOf es' n')) → Q () { s with heap := h', toks := tk' }) :
    wpAny (model prog w) A (setAttr (.ref x) name v) Q E s := by
  obtain ⟨pre, post, rfl, hg, h1, h2⟩ := U.split
  have D' := D.put (t := s.toks + 1) hl
  refine set_dict (es := es) (n := n) F X N I hd hs hp ht hh (by rw [D.getO rfl]; rfl) rfl (upd_of h2 h1) (by rw [D'.len]; exact hz) ?_
  intro h' F' N'
  exact ret _ _ h' _ D' F' (by rw [hg]; exact N')
end
local macro_rules | `(tactic| walk_at "setAttr ref") => `(tactic| (k_here; k_dflt (refine' es_set ?k1 ?k2 ?k3 ?k4 ?k5 ?k6 ?k7 ?k8 ?k9 ?kU ?kD ?kl ?kz ?_; (case k1 => k_asm); (case k2 => k_asm); (case k3 => k_asm); (case k4 => k_inst); (case k5 => exact rfl); (case k6 => k_is); (case k7 => k_is); (case k8 => k_is); (case k9 => k_is); (case kU => k_updF); (case kD => first | with_reducible assumption | exact EsOf.nil); (case kl => repeat (first | with_reducible exact putA_hd | with_reducible exact putA_nil | (apply putA_tl; (case h => decide)))); (case kz => exact Nat.le_of_ble_eq_true rfl); k_whole; intro es' n' h' tk' D' F' N'; (try dsimp only at N'); (try k_sweep))))
local macro_rules | `(tactic| walk_at "getAttr ref") => `(tactic| (k_here; k_dflt (refine' get_own ?k1 ?k2 ?k3 ?k4 ?k5 ?k6 ?k7 ?k8 ?k9 ?_; (case k1 => k_asm); (case k2 => k_asm); (case k3 => k_inst); (case k4 => k_is); (case k5 => k_is); (case k6 => k_is); (case k7 => k_is); (case k8 => exact EsOf.getO (by with_reducible assumption) (by exact rfl)); (case k9 => rfl); k_whole); (try dsimp only)))
local macro_rules | `(tactic| walk_at "getMethod ref") => `(tactic| (k_here; k_dflt (refine' method_inst ?k1 ?k2 ?k3 ?k4 ?k5 ?k6 ?k7 ?_; (case k1 => k_asm); (case k2 => k_asm); (case k3 => k_inst); (case k4 => k_is); (case k5 => k_is); (case k6 => k_is); (case k7 => exact EsOf.getO (by with_reducible assumption) (by exact rfl)); k_whole); (try dsimp only [List.cons_append, List.nil_append, List.append_nil])))
local macro_rules | `(tactic| walk_at "setItem ref str") => `(tactic| (k_here; k_dflt (refine' kda_set (knd := PySem.strKind _ _) ?F ?N ?U ?d (strKind_is _ _ _ _) ?z ?_; (case F => k_asm); (case N => k_asm); (case U => k_updF); (case d => k_asm); (case z => rw [sizeLine_eq]; omega)); intro h' o' F' N' hd'; (try dsimp only at N')))
local macro_rules | `(tactic| walk_at "getItem ref str") => `(tactic| (k_here; k_dflt (refine kdt_getItem (knd := PySem.strKind _ _) (by k_asm) (by k_mem) (by k_asm) (strKind_is _ _ _ _) (by first | exact stored_self (by with_reducible assumption) | with_reducible assumption) ?_); (try dsimp only)))
abbrev scL (num cnt wk val : Value) : List (Str × Value) := [("number", num), ("count", cnt), ("blessed", .none), ("weak", wk), ("is_destroyed", .bool false), ("is_freed", .bool false), ("value", val), ("magic", .none)]
abbrev gbL (num cnt wk nm sc : Value) : List (Str × Value) := [("number", num), ("count", cnt), ("blessed", .none), ("weak", wk), ("is_destroyed", .bool false), ("is_freed", .bool false), ("name", nm), ("scalar", sc), ("array", .none), ("hash", .none), ("code", .none)]
abbrev hpL (lm : Value) (k : Int) (t : Tok) (z : Value) : List (Str × Value) := [("limits", lm), ("last", .int k t), ("zero", z)]
abbrev stL (hp gd : Addr) (t : Tok) : List (Str × Value) := [("heap", .ref hp), ("globs", .ref gd), ("generation", .int 0 t)]
abbrev SK (w : World) := PySem.strKind PySem.Challenge.rw_nz0194_01.row.prog w
def ScalarPost (w : World) (hdx gd : Addr) (lm z : Value) (kvs : List (Str × Value)) (x : Str) (tx : Tok) (led : Led) (r : Value) (led' : Led) : Prop :=
  ∃ og' hes' hn' ces cn ges gn sc scx g gx num cnt wk gnum gcnt gwk k' t', r = .ref sc ∧ og'.IsDictOf (SK w) (kvs ++ [(x, .ref g)]) ∧ EsOf w.params hes' (hpL lm k' t' z) ∧ EsOf w.params ces (scL num cnt wk .none) ∧ EsOf w.params ges (gbL gnum gcnt gwk (.str x tx) (.ref sc)) ∧
    led' = (gd, og') :: (hdx, dictOf hes' hn') :: (scx, dictOf ces cn) :: (sc, instObj 59 scx) :: (g, instObj 78 gx) :: (gx, dictOf ges gn) :: led ∧ (gd < gx ∧ hdx < gx ∧ AllLt gx led) ∧ gx < g ∧ g < scx ∧ scx < sc
theorem ScalarPost.intro {w : World} {hdx gd : Addr} {lm z : Value} {kvs : List (Str × Value)} {x : Str} {tx : Tok} {led : Led} {og' : Obj} {hes' : List DictEntry} {hn' : Nat} {ces : List DictEntry} {cn : Nat} {ges : List DictEntry} {gn : Nat} {sc scx g gx : Addr} {num cnt wk gnum gcnt gwk : Value} {k' : Int} {t' : Tok}
    (h1 : og'.IsDictOf (SK w) (kvs ++ [(x, .ref g)])) (h2 : EsOf w.params hes' (hpL lm k' t' z)) (h3 : EsOf w.params ces (scL num cnt wk .none)) (h4 : EsOf w.params ges (gbL gnum gcnt gwk (.str x tx) (.ref sc))) (h5 : gd < gx ∧ hdx < gx ∧ AllLt gx led) (h6 : gx < g) (h7 : g < scx) (h8 : scx < sc) :
    ScalarPost w hdx gd lm z kvs x tx led (.ref sc) ((gd, og') :: (hdx, dictOf hes' hn') :: (scx, dictOf ces cn) :: (sc, instObj 59 scx) :: (g, instObj 78 gx) :: (gx, dictOf ges gn) :: led) :=
  ⟨_, _, _, _, _, _, _, _, _, _, _, _, _, _, _, _, _, _, _, rfl, h1, h2, h3, h4, rfl, h5, h6, h7, h8⟩
theorem perm_sc {a b c d e f g h : Addr × Obj} {r : Led} : ∀ x ∈ g :: h :: c :: b :: e :: f :: r, x ∈ a :: b :: c :: d :: e :: f :: g :: h :: r := fun x hx => by
  simp only [List.mem_cons] at hx ⊢
  grind
set_option maxRecDepth 100000 in
set_option maxHeartbeats 8000000 in
theorem scalar_new (w : World) (st sd hp hdx gd : Addr) (lm z : Value) (ses hes : List DictEntry) (sn hn : Nat) (og : Obj) (kvs : List (Str × Value)) (x : Str) (tx t tg : Tok) (k : Int) (led : Led)
    (hst : (st, instObj 525 sd) ∈ led) (hsd : (sd, dictOf ses sn) ∈ led) (DS : EsOf w.params ses (stL hp gd tg)) (hhp : (hp, instObj 161 hdx) ∈ led) (DH : EsOf w.params hes (hpL lm k t z))
    (hog : og.IsDictOf (SK w) kvs) (hkx : (valueAt kvs x).isSome = false) (hlen : kvs.length ≤ 100) (glo : (gd == sysModules) = false) (off : OwnOff led [gd, hdx]) (hne : gd ≠ hdx) :
    Con w 494 [.ref st, .str x tx] 20 200 ((gd, og) :: (hdx, dictOf hes hn) :: led) (ScalarPost w hdx gd lm z kvs x tx led) := by
  unfold Con
  k_fill
  intro mean mg mb dp un gd' cn cs a ccd cl outer A₀ base h₀ L m s Q E B F X N T hk hd hu ret
  have hne' := neN hne
  refine wpAny_call ?_
  k_dflt ktr_enter
  k_steps
  (rename News h₀ L _ _ => N9); (rename Fr h₀ L _ _ => F9); (rename Obj.IsDictOf _ _ _ => hd9)
  rw [stored_new hkx] at hd9
  refine ret _ _ _ _ (ScalarPost.intro hd9 (by with_reducible assumption) (by with_reducible assumption) (by with_reducible assumption) (by with_reducible assumption) (by with_reducible assumption) ?_ (by with_reducible assumption)) F9 (cb_drop N9 perm_sc)
  refine ltN ?_
  omega
end Mine
end

section
open PySem PySem.W PyProof.Rows PyProof.V PySem.Spec
namespace Mine
example : True := by w_top off; trivial
local macro_rules | `(tactic| walk_at "setAttr ref") => `(tactic| (k_here; k_dflt (refine' es_set ?k1 ?k2 ?k3 ?k4 ?k5 ?k6 ?k7 ?k8 ?k9 ?kU ?kD ?kl ?kz ?_; (case k1 | k2 | k3 => k_asm); (case k4 => k_inst); (case k5 => exact rfl); (case k6 | k7 | k8 | k9 => k_is); (case kU => k_updF); (case kD => first | with_reducible assumption | exact EsOf.nil); (case kl => repeat (first | with_reducible exact putA_hd | with_reducible exact putA_nil | (apply putA_tl; (case h => decide)))); (case kz => exact Nat.le_of_ble_eq_true rfl); k_whole; intro es' n' h' tk' D' F' N'; (try dsimp only at N'); (try k_sweep))))
local macro_rules | `(tactic| walk_at "getAttr ref") => `(tactic| (k_here; k_dflt (refine' get_own ?k1 ?k2 ?k3 ?k4 ?k5 ?k6 ?k7 ?k8 ?k9 ?_; (case k1 | k2 => k_asm); (case k3 => k_inst); (case k4 | k5 | k6 | k7 => k_is); (case k8 => exact EsOf.getO (by with_reducible assumption) (by exact rfl)); (case k9 => rfl); k_whole); (try dsimp only)))
local macro_rules | `(tactic| walk_at "getMethod ref") => `(tactic| (k_here; k_dflt (refine' method_inst ?k1 ?k2 ?k3 ?k4 ?k5 ?k6 ?k7 ?_; (case k1 | k2 => k_asm); (case k3 => k_inst); (case k4 | k5 | k6 => k_is); (case k7 => exact EsOf.getO (by with_reducible assumption) (by exact rfl)); k_whole); (try dsimp only [List.cons_append, List.nil_append, List.append_nil])))
local macro_rules | `(tactic| walk_at "getItem ref str") => `(tactic| (k_here; k_dflt (refine kdt_getItem (knd := PySem.strKind _ _) (by k_asm) (by k_mem) (by k_asm) (strKind_is _ _ _ _) (by with_reducible assumption) ?_); (try dsimp only)))
set_option maxRecDepth 100000 in
set_option maxHeartbeats 8000000 in
theorem scalar_old (w : World) (st sd gd g gx sc hp : Addr) (ses ges : List DictEntry) (sn gn : Nat) (og : Obj) (kvs : List (Str × Value)) (x : Str) (tx tg : Tok) (gnum gcnt gwk nm : Value) (led : Led)
    (hst : (st, instObj 525 sd) ∈ led) (hsd : (sd, dictOf ses sn) ∈ led) (hg : (g, instObj 78 gx) ∈ led) (hgx : (gx, dictOf ges gn) ∈ led) (DS : EsOf w.params ses (stL hp gd tg)) (DG : EsOf w.params ges (gbL gnum gcnt gwk nm (.ref sc)))
    (hog : og.IsDictOf (SK w) kvs) (hkx : valueAt kvs x = some (.ref g)) (glo : (gd == sysModules) = false) :
    Con w 494 [.ref st, .str x tx] 20 200 ((gd, og) :: led) (fun r led' => r = .ref sc ∧ led' = (gd, og) :: led) := by
  unfold Con
  k_fill
  intro mean mg mb dp un gd' cn cs a ccd cl outer A₀ base h₀ L m s Q E B F X N T hk hd hu ret
  have hk9 : (valueAt kvs x).isSome = true := by rw [hkx]; rfl
  refine wpAny_call ?_
  k_dflt ktr_enter
  k_steps
  (rename News h₀ L _ _ => N9); (rename Fr h₀ L _ _ => F9)
  exact ret _ _ _ _ ⟨rfl, rfl⟩ F9 N9
section
variable {w : World} {mean : ExcName → Option Value} {mg mb : Str → Option Value} {dp un : Nat} {gd' : Option (List Code)} {cn' : Str} {cs : Scope} {a : Addr} {ccd : Value} {cl : List (Str × Addr)} {outer : List Env} {A₀ : Around} {base h₀ : Heap} {L : Addr} {m : Str → Option Value} {s : Shared} {Q E : Value → Shared → Prop}
theorem new_use {st sd hp hdx gd : Addr} {lm z : Value} {ses hes : List DictEntry} {sn hn : Nat} {og : Obj} {kvs : List (Str × Value)} {x : Str} {tx t tg : Tok} {k : Int} {led : Led}
    (B : Below A₀ base outer h₀) (F : Fr h₀ L s.heap m) (X : (hd.heap_1 w.params).In h₀) (N : News h₀ L s.heap ((gd, og) :: (hdx, dictOf hes hn) :: led)) (T : Top view lo mean mg mb h₀) (hk : cs.kind = .function)
    (hst : (st, instObj 525 sd) ∈ led) (hsd : (sd, dictOf ses sn) ∈ led) (DS : EsOf w.params ses (stL hp gd tg)) (hhp : (hp, instObj 161 hdx) ∈ led) (DH : EsOf w.params hes (hpL lm k t z))
    (hog : og.IsDictOf (SK w) kvs) (hkx : (valueAt kvs x).isSome = false) (hlen : kvs.length ≤ 100) (glo : (gd == sysModules) = false) (off : OwnOff led [gd, hdx]) (hne : gd ≠ hdx)
    (hd : dp + 20 < recursionLimit) (hu : un + 200 < cLine)
    (ret : ∀ og' hes' hn' ces cn ges gn sc scx g gx num cnt wk gnum gcnt gwk k' t' h' tk', og'.IsDictOf (SK w) (kvs ++ [(x, .ref g)]) → EsOf w.params hes' (hpL lm k' t' z) → EsOf w.params ces (scL num cnt wk .none) → EsOf w.params ges (gbL gnum gcnt gwk (.str x tx) (.ref sc)) →
      (@LT.lt Nat _ gd gx ∧ @LT.lt Nat _ hdx gx ∧ AllLt gx led) → @LT.lt Nat _ gx g → @LT.lt Nat _ g scx → @LT.lt Nat _ scx sc → Fr h₀ L h' m → News h₀ L h' ((gd, og') :: (hdx, dictOf hes' hn') :: (scx, dictOf ces cn) :: (sc, instObj 59 scx) :: (g, instObj 78 gx) :: (gx, dictOf ges gn) :: led) → Q (.ref sc) { s with heap := h', toks := tk' }) :
    wpAny (model PySem.Challenge.rw_nz0194_01.row.prog w) (ktrTop dp un gd' cn' cs L a ccd cl outer) (call (.ref 494) [.ref st, .str x tx]) Q E s := by
  refine scalar_new w st sd hp hdx gd lm z ses hes sn hn og kvs x tx t tg k led hst hsd DS hhp DH hog hkx hlen glo off hne mean mg mb dp un gd' cn' cs a ccd cl outer A₀ base h₀ L m s Q E B F X N T hk hd hu ?_
  rintro r led' h' tk' ⟨og', hes', hn', ces, cn, ges, gn, sc, scx, g, gx, num, cnt, wk, gnum, gcnt, gwk, k', t', rfl, h1, h2, h3, h4, rfl, h5, h6, h7, h8⟩ F' N'
  exact ret _ _ _ _ _ _ _ _ _ _ _ _ _ _ _ _ _ _ _ _ _ h1 h2 h3 h4 h5 h6 h7 h8 F' N'
end
theorem sp_perm {a b c : Addr × Obj} {r : Led} : ∀ x ∈ b :: c :: a :: r, x ∈ a :: b :: c :: r := fun x hx => by
  simp only [List.mem_cons] at hx ⊢
  grind
theorem ownOff_step {q : Addr} {o : Obj} {led : Led} {adr : List Addr} (h : ∀ b ∈ adr, q ≠ b) (h' : OwnOff led adr) : OwnOff ((q, o) :: led) adr := fun z hz b hb => by
  rcases List.mem_cons.mp hz with e | e
  · exact e ▸ h b hb
  · exact h' z e b hb
theorem ownOff_sub {led : Led} {adr adr' : List Addr} (h : OwnOff led adr) (hs : ∀ b ∈ adr', b ∈ adr) : OwnOff led adr' := fun z hz b hb => h z hz b (hs b hb)
theorem sp_off0 {led : Led} {gd hdx i : Addr} {o : Obj} (h : OwnOff led [gd, hdx, i]) (h1 : gd < i) (h2 : hdx < i) : OwnOff ((i, o) :: led) [gd, hdx] :=
  ownOff_step (fun b hb => by
    simp only [List.mem_cons, List.not_mem_nil, or_false] at hb
    rcases hb with rfl | rfl
    · exact Nat.ne_of_gt h1
    · exact Nat.ne_of_gt h2) (ownOff_sub h fun b hb => by simp only [List.mem_cons, List.not_mem_nil, or_false] at hb ⊢; grind)
theorem sp_off9 {led : Led} {gd hdx i : Addr} (h : OwnOff led [gd, hdx]) (h1 : AllLt i led) : OwnOff led [gd, hdx, i] := fun z hz b hb => by
  simp only [List.mem_cons, List.not_mem_nil, or_false] at hb
  rcases hb with rfl | rfl | rfl
  · exact h z hz _ (.head _)
  · exact h z hz _ (.tail _ (.head _))
  · exact Nat.ne_of_lt (of_allLt h1 z hz)
theorem sp_off {led : Led} {gd hdx i gx g scx sc : Addr} {o a b c d : Obj} (h : OwnOff led [gd, hdx, i]) (p : gd < gx ∧ hdx < gx ∧ AllLt gx ((i, o) :: led)) (q : gx < g) (r : g < scx) (u : scx < sc) :
    OwnOff ((scx, a) :: (sc, b) :: (g, c) :: (gx, d) :: led) [gd, hdx, i] := by
  obtain ⟨p1, p2, p3, p4⟩ := p
  have key : ∀ y : Addr, gx ≤ y → ∀ b ∈ [gd, hdx, i], y ≠ b := fun y hy b hb => by
    simp only [List.mem_cons, List.not_mem_nil, or_false] at hb
    refine Nat.ne_of_gt ?_
    rcases hb with rfl | rfl | rfl
    · exact Nat.lt_of_lt_of_le p1 hy
    · exact Nat.lt_of_lt_of_le p2 hy
    · exact Nat.lt_of_lt_of_le p3 hy
  have a1 : gx ≤ g := Nat.le_of_lt q
  have a2 : gx ≤ scx := Nat.le_trans a1 (Nat.le_of_lt r)
  exact ownOff_step (key _ a2) (ownOff_step (key _ (Nat.le_trans a2 (Nat.le_of_lt u))) (ownOff_step (key _ a1) (ownOff_step (key _ (Nat.le_refl _)) h)))
theorem sp_u {led : Led} {gd hdx i gx g scx : Addr} {o : Obj} (p : gd < gx ∧ hdx < gx ∧ AllLt gx ((i, o) :: led)) (q : gx < g) (r : g < scx) : OwnOff led [scx] := fun z hz b hb => by
  rw [List.mem_singleton.mp hb]
  exact Nat.ne_of_lt (Nat.lt_trans (of_allLt p.2.2.2 z hz) (Nat.lt_trans q r))
theorem sp_i {i gx gd hdx : Addr} {o : Obj} {led : Led} (p : gd < gx ∧ hdx < gx ∧ AllLt gx ((i, o) :: led)) : @LT.lt Nat _ i gx := p.2.2.1
theorem sp_end {L i : Addr} {oi : Obj} {rest : (Str → Option Value) → List (Addr × Obj) → Prop} {h₀ : Heap} {s₁ : Shared} {h' : Heap} {tk : Nat} {m' : Str → Option Value} {gd hdx : Addr} {og oh : Obj} {e1 e2 e3 e4 : Addr × Obj} {led : Led}
    (F : Fr h₀ L h' m') (N : News h₀ L h' ((gd, og) :: (hdx, oh) :: e1 :: e2 :: e3 :: e4 :: (i, oi) :: led)) (off : OwnOff (e1 :: e2 :: e3 :: e4 :: led) [gd, hdx, i]) (h1 : gd < i) (h2 : hdx < i) (r : rest m' ((gd, og) :: (hdx, oh) :: e1 :: e2 :: e3 :: e4 :: led)) :
    UnrEndW h₀ L s₁ [(i, oi)] rest { s₁ with heap := h', toks := tk } := by
  refine ⟨h', tk, m', _, rfl, F, cb_drop N ?_, ?_, r⟩
  · intro x hx
    simp only [List.mem_cons, List.cons_append, List.nil_append] at hx ⊢
    grind
  · intro p hp q hq
    rw [List.mem_singleton.mp hq]
    rcases List.mem_cons.mp hp with rfl | hp
    · exact Nat.ne_of_lt h1
    · rcases List.mem_cons.mp hp with rfl | hp
      · exact Nat.ne_of_lt h2
      · exact off p hp i (.tail _ (.tail _ (.head _)))
/-- a name that the stash holds, and the value its scalar holds -/
def SpOne (w : World) (led : Led) (kvs : List (Str × Value)) (x : Str) (v : Value) : Prop :=
  ∃ g gx ges gn sc scx ces cn num cnt wk gnum gcnt gwk nm, valueAt kvs x = some (.ref g) ∧ (g, instObj 78 gx) ∈ led ∧ (gx, dictOf ges gn) ∈ led ∧ (sc, instObj 59 scx) ∈ led ∧ (scx, dictOf ces cn) ∈ led ∧
    EsOf w.params ges (gbL gnum gcnt gwk nm (.ref sc)) ∧ EsOf w.params ces (scL num cnt wk v)
theorem SpOne.intro {w : World} {led : Led} {kvs : List (Str × Value)} {x : Str} {v : Value} {g gx : Addr} {ges : List DictEntry} {gn : Nat} {sc scx : Addr} {ces : List DictEntry} {cn : Nat} {num cnt wk gnum gcnt gwk nm : Value} (h1 : EsOf w.params ges (gbL gnum gcnt gwk nm (.ref sc))) (h2 : EsOf w.params ces (scL num cnt wk v))
    (h3 : valueAt kvs x = some (.ref g)) (h4 : (g, instObj 78 gx) ∈ led) (h5 : (gx, dictOf ges gn) ∈ led) (h6 : (sc, instObj 59 scx) ∈ led) (h7 : (scx, dictOf ces cn) ∈ led) : SpOne w led kvs x v :=
  ⟨_, _, _, _, _, _, _, _, _, _, _, _, _, _, _, h3, h4, h5, h6, h7, h1, h2⟩
def SpecialsPost (w : World) (gd hdx : Addr) (led : Led) (r : Value) (led' : Led) : Prop :=
  r = .none ∧ ∃ og kvs new oh t1 t2, led' = (gd, og) :: (hdx, oh) :: (new ++ led) ∧ og.IsDictOf (SK w) kvs ∧ SpOne w new kvs "main::\"" (.str " " t1) ∧ SpOne w new kvs "main::;" (.str "\x1c" t2)
local macro_rules | `(tactic| walk_at "call ref") => `(tactic| (k_here; (with_reducible show wpAny _ _ (call (Value.ref 494) _) _ _ _); refine Hold.of ?_))
local macro_rules | `(tactic| walk_at "UnrEndW") => `(tactic| (refine Hold.of ?_))
set_option maxRecDepth 100000 in
set_option maxHeartbeats 8000000 in
theorem specials (w : World) (st sd hp hdx gd : Addr) (lm z : Value) (ses hes : List DictEntry) (sn hn : Nat) (og : Obj) (t tg : Tok) (k : Int) (led : Led)
    (hst : (st, instObj 525 sd) ∈ led) (hsd : (sd, dictOf ses sn) ∈ led) (DS : EsOf w.params ses (stL hp gd tg)) (hhp : (hp, instObj 161 hdx) ∈ led) (DH : EsOf w.params hes (hpL lm k t z))
    (hog : og.IsDictOf (SK w) []) (glo : (gd == sysModules) = false) (off : OwnOff led [gd, hdx]) (hne : gd ≠ hdx) :
    Con w 207 [.ref st] 22 240 ((gd, og) :: (hdx, dictOf hes hn) :: led) (SpecialsPost w gd hdx led) := by
  unfold Con
  k_fill
  intro mean mg mb dp un gd' cn' cs a ccd cl outer A₀ base h₀ L m s Q E B F X N T hk hd hu ret
  have hne' := neN hne
  refine wpAny_call ?_
  k_dflt ktr_enter
  k_steps
  (rename News _ _ _ _ => N9); (rename Fr _ _ _ _ => F9); (rename _ ∧ _ ∧ _ => l9); (rename Below _ _ _ _ => B9); (rename Top _ _ _ _ _ _ => T9); (rename Frag.In _ _ => X9)
  have offz := sp_off9 off l9.2.2
  refine Hold.out (new_use B9 F9 X9 (cb_drop N9 sp_perm) T9 rfl (.tail _ hst) (.tail _ hsd) DS (.tail _ hhp) DH hog rfl (Nat.le_of_ble_eq_true rfl) glo (sp_off0 offz l9.1 l9.2.1) hne (by dsimp only [ktrTop]; omega) (by dsimp only [ktrTop]; omega) ?_)
  k_whole
  intro og1 hes1 hn1 ces1 cn1 ges1 gn1 sc1 scx1 g1 gx1 num1 cnt1 wk1 gnum1 gcnt1 gwk1 k1 t1 h1 tk1 hog1 DH1 DC1 DG1 p1 q1 r1 u1 F1 N1
  have v1 := sp_u p1 q1 r1
  have i1 := sp_i p1
  k_steps
  (rename News _ _ _ _ => N9); (rename Fr _ _ _ _ => F9); (rename EsOf _ _ _ => DV1)
  have off1 := fun a b c d => sp_off (a := a) (b := b) (c := c) (d := d) offz p1 q1 r1 u1
  refine Hold.out ?_
  refine sp_end F9 N9 (off1 _ _ _ _) l9.1 l9.2.1 ?_
  refine ⟨trivial, ?_⟩
  k_steps
  (rename News _ _ _ _ => N9); (rename Fr _ _ _ _ => F9)
  refine Hold.out (new_use B9 F9 X9 (cb_drop N9 sp_perm) T9 rfl (.tail _ (.tail _ (.tail _ (.tail _ (.tail _ hst))))) (.tail _ (.tail _ (.tail _ (.tail _ (.tail _ hsd))))) DS (.tail _ (.tail _ (.tail _ (.tail _ (.tail _ hhp))))) DH1 hog1 rfl (Nat.le_of_ble_eq_true rfl) glo (sp_off0 (off1 _ _ _ _) l9.1 l9.2.1) hne (by dsimp only [ktrTop]; omega) (by dsimp only [ktrTop]; omega) ?_)
  k_whole
  intro og2 hes2 hn2 ces2 cn2 ges2 gn2 sc2 scx2 g2 gx2 num2 cnt2 wk2 gnum2 gcnt2 gwk2 k2 t2 h2 tk2 hog2 DH2 DC2 DG2 p2 q2 r2 u2 F2 N2
  have v2 := sp_u p2 q2 r2
  have i2 := sp_i p2
  k_steps
  (rename News _ _ _ _ => N9); (rename Fr _ _ _ _ => F9); (rename EsOf _ _ _ => DV2)
  have off2 := fun a b c d => sp_off (a := a) (b := b) (c := c) (d := d) (off1 _ _ _ _) p2 q2 r2 u2
  refine Hold.out ?_
  refine sp_end F9 N9 (off2 _ _ _ _) l9.1 l9.2.1 ?_
  refine ⟨trivial, ?_⟩
  k_steps
  (rename News _ _ _ _ => N9); (rename Fr _ _ _ _ => F9)
  refine Hold.out (new_use B9 F9 X9 (cb_drop N9 sp_perm) T9 rfl (.tail _ (.tail _ (.tail _ (.tail _ (.tail _ (.tail _ (.tail _ (.tail _ (.tail _ hst))))))))) (.tail _ (.tail _ (.tail _ (.tail _ (.tail _ (.tail _ (.tail _ (.tail _ (.tail _ hsd))))))))) DS (.tail _ (.tail _ (.tail _ (.tail _ (.tail _ (.tail _ (.tail _ (.tail _ (.tail _ hhp))))))))) DH2 hog2 rfl (Nat.le_of_ble_eq_true rfl) glo (sp_off0 (off2 _ _ _ _) l9.1 l9.2.1) hne (by dsimp only [ktrTop]; omega) (by dsimp only [ktrTop]; omega) ?_)
  k_whole
  intro og3 hes3 hn3 ces3 cn3 ges3 gn3 sc3 scx3 g3 gx3 num3 cnt3 wk3 gnum3 gcnt3 gwk3 k3 t3 h3 tk3 hog3 DH3 DC3 DG3 p3 q3 r3 u3 F3 N3
  have v3 := sp_u p3 q3 r3
  have i3 := sp_i p3
  k_steps
  (rename News _ _ _ _ => N9); (rename Fr _ _ _ _ => F9); (rename EsOf _ _ _ => DV3)
  have off3 := fun a b c d => sp_off (a := a) (b := b) (c := c) (d := d) (off2 _ _ _ _) p3 q3 r3 u3
  refine Hold.out ?_
  refine sp_end F9 N9 (off3 _ _ _ _) l9.1 l9.2.1 ?_
  refine ⟨trivial, ?_⟩
  k_steps
  (rename News _ _ _ _ => N9); (rename Fr _ _ _ _ => F9)
  refine Hold.out (new_use B9 F9 X9 (cb_drop N9 sp_perm) T9 rfl (.tail _ (.tail _ (.tail _ (.tail _ (.tail _ (.tail _ (.tail _ (.tail _ (.tail _ (.tail _ (.tail _ (.tail _ (.tail _ hst))))))))))))) (.tail _ (.tail _ (.tail _ (.tail _ (.tail _ (.tail _ (.tail _ (.tail _ (.tail _ (.tail _ (.tail _ (.tail _ (.tail _ hsd))))))))))))) DS (.tail _ (.tail _ (.tail _ (.tail _ (.tail _ (.tail _ (.tail _ (.tail _ (.tail _ (.tail _ (.tail _ (.tail _ (.tail _ hhp))))))))))))) DH3 hog3 rfl (Nat.le_of_ble_eq_true rfl) glo (sp_off0 (off3 _ _ _ _) l9.1 l9.2.1) hne (by dsimp only [ktrTop]; omega) (by dsimp only [ktrTop]; omega) ?_)
  k_whole
  intro og4 hes4 hn4 ces4 cn4 ges4 gn4 sc4 scx4 g4 gx4 num4 cnt4 wk4 gnum4 gcnt4 gwk4 k4 t4 h4 tk4 hog4 DH4 DC4 DG4 p4 q4 r4 u4 F4 N4
  have v4 := sp_u p4 q4 r4
  have i4 := sp_i p4
  k_steps
  (rename News _ _ _ _ => N9); (rename Fr _ _ _ _ => F9); (rename EsOf _ _ _ => DV4)
  have off4 := fun a b c d => sp_off (a := a) (b := b) (c := c) (d := d) (off3 _ _ _ _) p4 q4 r4 u4
  refine Hold.out ?_
  refine sp_end F9 N9 (off4 _ _ _ _) l9.1 l9.2.1 ?_
  refine ⟨trivial, ?_⟩
  k_steps
  (rename News _ _ _ _ => N9); (rename Fr _ _ _ _ => F9)
  refine Hold.out (new_use B9 F9 X9 (cb_drop N9 sp_perm) T9 rfl (.tail _ (.tail _ (.tail _ (.tail _ (.tail _ (.tail _ (.tail _ (.tail _ (.tail _ (.tail _ (.tail _ (.tail _ (.tail _ (.tail _ (.tail _ (.tail _ (.tail _ hst))))))))))))))))) (.tail _ (.tail _ (.tail _ (.tail _ (.tail _ (.tail _ (.tail _ (.tail _ (.tail _ (.tail _ (.tail _ (.tail _ (.tail _ (.tail _ (.tail _ (.tail _ (.tail _ hsd))))))))))))))))) DS (.tail _ (.tail _ (.tail _ (.tail _ (.tail _ (.tail _ (.tail _ (.tail _ (.tail _ (.tail _ (.tail _ (.tail _ (.tail _ (.tail _ (.tail _ (.tail _ (.tail _ hhp))))))))))))))))) DH4 hog4 rfl (Nat.le_of_ble_eq_true rfl) glo (sp_off0 (off4 _ _ _ _) l9.1 l9.2.1) hne (by dsimp only [ktrTop]; omega) (by dsimp only [ktrTop]; omega) ?_)
  k_whole
  intro og5 hes5 hn5 ces5 cn5 ges5 gn5 sc5 scx5 g5 gx5 num5 cnt5 wk5 gnum5 gcnt5 gwk5 k5 t5 h5 tk5 hog5 DH5 DC5 DG5 p5 q5 r5 u5 F5 N5
  have v5 := sp_u p5 q5 r5
  have i5 := sp_i p5
  k_steps
  (rename News _ _ _ _ => N9); (rename Fr _ _ _ _ => F9); (rename EsOf _ _ _ => DV5)
  have off5 := fun a b c d => sp_off (a := a) (b := b) (c := c) (d := d) (off4 _ _ _ _) p5 q5 r5 u5
  refine Hold.out ?_
  refine sp_end F9 N9 (off5 _ _ _ _) l9.1 l9.2.1 ?_
  refine ⟨trivial, ?_⟩
  k_steps
  (rename News h₀ L _ _ => N9); (rename Fr h₀ L _ _ => F9)
  exact ret _ _ _ _ ⟨rfl, og5, _, [_, _, _, _, _, _, _, _, _, _, _, _, _, _, _, _, _, _, _, _], _, _, _, rfl, hog5, SpOne.intro DG1 DV1 rfl (List.mem_of_getElem? (i := 18) rfl) (List.mem_of_getElem? (i := 19) rfl) (List.mem_of_getElem? (i := 17) rfl) (List.mem_of_getElem? (i := 16) rfl), SpOne.intro DG2 DV2 rfl (List.mem_of_getElem? (i := 14) rfl) (List.mem_of_getElem? (i := 15) rfl) (List.mem_of_getElem? (i := 13) rfl) (List.mem_of_getElem? (i := 12) rfl)⟩ F9 N9
end Mine
end

section
open PySem PySem.W PyProof.Rows PyProof.V PySem.Spec
namespace Mine
/-- an open scope: its list, and what was set aside in it (the save, the match, the told dict) -/
structure Row where
  r : Addr
  c : Nat
  it : List (Value × Value × Addr)
abbrev Row.obj (R : Row) : Obj := listOf (R.it.map fun x => Value.ref x.2.2).toArray R.c
/-- the innermost scope comes first -/
def rowsLed : List Row → Led
  | [] => []
  | R :: rws => (R.r, R.obj) :: rowsLed rws
def vsOf : List Row → List Value
  | [] => []
  | R :: rws => vsOf rws ++ R.it.map fun x => x.1
def mvOf : List Row → List Value
  | [] => []
  | R :: rws => mvOf rws ++ R.it.map fun x => x.2.1
def scOf : List Row → List Value
  | [] => []
  | R :: rws => scOf rws ++ [Value.ref R.r]
def MarksAt : List Row → List Value → Prop
  | [], ms => ms = []
  | _ :: rws, ms => ∃ ms' t, ms = ms' ++ [Value.int ((vsOf rws).length : Int) t] ∧ MarksAt rws ms'
theorem MarksAt.len : ∀ {rws : List Row} {ms : List Value}, MarksAt rws ms → ms.length = rws.length
  | [], _, h => by rw [show _ = [] from h]; rfl
  | _ :: _, _, ⟨ms', t, e, h⟩ => by rw [e, List.length_append, h.len]; rfl
theorem MarksAt.drop : ∀ {rws : List Row} {ms : List Value}, MarksAt rws ms → ∀ j, j ≤ rws.length → MarksAt (rws.drop j) (ms.take (ms.length - j))
  | _, ms, h, 0, _ => by simpa using h
  | [], _, _, j + 1, hj => absurd hj (Nat.not_succ_le_zero j)
  | R :: rws, ms, ⟨ms', t, e, h⟩, j + 1, hj => by
    have q := h.drop j (Nat.le_of_succ_le_succ hj)
    subst e
    have h1 : j ≤ ms'.length := by rw [h.len]; exact Nat.le_of_succ_le_succ hj
    rw [List.drop_succ_cons, List.length_append, List.length_singleton, show ms'.length + 1 - (j + 1) = ms'.length - j by omega, List.take_append_of_le_length (by omega)]
    exact q
theorem MarksAt.at {rws : List Row} {ms : List Value} (h : MarksAt rws ms) {j : Nat} (h0 : j < rws.length) : ∃ t, ms[rws.length - (j + 1)]? = some (Value.int ((vsOf (rws.drop (j + 1))).length : Int) t) := by
  induction rws generalizing ms j with
  | nil => exact absurd h0 (Nat.not_lt_zero _)
  | cons R rws ih =>
    obtain ⟨ms', t, e, h⟩ := h
    cases j with
    | zero =>
      refine ⟨t, ?_⟩
      subst e
      have := h.len
      simp [this]
    | succ j =>
      obtain ⟨t', q⟩ := ih h (j := j) (by simpa using h0)
      refine ⟨t', ?_⟩
      subst e
      have hl := h.len
      have h0' : j + 1 < rws.length + 1 := h0
      rw [List.length_cons, show rws.length + 1 - (j + 1 + 1) = rws.length - (j + 1) by omega, List.getElem?_append_left (by omega), q]
      rfl
theorem scOf_len : ∀ rws : List Row, (scOf rws).length = rws.length
  | [] => rfl
  | R :: rws => by rw [scOf, List.length_append, scOf_len rws]; rfl
theorem vm_len : ∀ rws : List Row, (vsOf rws).length = (mvOf rws).length
  | [] => rfl
  | R :: rws => by simp [vsOf, mvOf, vm_len rws]
theorem vs_drop : ∀ (rws : List Row) (j : Nat), ∃ tl, vsOf rws = vsOf (rws.drop j) ++ tl
  | rws, 0 => ⟨[], by simp⟩
  | [], j + 1 => ⟨[], by simp⟩
  | R :: rws, j + 1 => by
    obtain ⟨tl, e⟩ := vs_drop rws j
    exact ⟨tl ++ R.it.map fun x => x.1, by rw [List.drop_succ_cons, vsOf, e, List.append_assoc]⟩
theorem mv_drop : ∀ (rws : List Row) (j : Nat), ∃ tl, mvOf rws = mvOf (rws.drop j) ++ tl
  | rws, 0 => ⟨[], by simp⟩
  | [], j + 1 => ⟨[], by simp⟩
  | R :: rws, j + 1 => by
    obtain ⟨tl, e⟩ := mv_drop rws j
    exact ⟨tl ++ R.it.map fun x => x.2.1, by rw [List.drop_succ_cons, mvOf, e, List.append_assoc]⟩
theorem vs_take (rws : List Row) (j : Nat) : (vsOf rws).take (vsOf (rws.drop j)).length = vsOf (rws.drop j) := by
  obtain ⟨tl, e⟩ := vs_drop rws j
  rw [e, List.take_left]
theorem vs_le (rws : List Row) (j : Nat) : (vsOf (rws.drop j)).length ≤ (vsOf rws).length := by
  obtain ⟨tl, e⟩ := vs_drop rws j
  rw [e, List.length_append]; omega
/-- what the told dict must fit when j scopes are left -/
abbrev mvAt (rws : List Row) (j : Nat) (mv : Value) : Value := (mvOf rws)[(mvOf (rws.drop j)).length]?.getD mv
theorem mvAt_zero (rws : List Row) (mv : Value) : mvAt rws 0 mv = mv := by
  rw [mvAt, List.drop_zero, List.getElem?_eq_none (Nat.le_refl _)]; rfl
theorem mvAt_nil {rws : List Row} {j : Nat} {mv : Value} {R : Row} {X : List Row} (h : rws.drop j = R :: X) (hn : R.it = []) : mvAt rws (j + 1) mv = mvAt rws j mv := by
  have e : rws.drop (j + 1) = X := by rw [← List.drop_drop, h]; rfl
  rw [mvAt, mvAt, e, h, mvOf, hn]; simp
theorem mvAt_cons {rws : List Row} {j : Nat} {mv : Value} {R : Row} {X : List Row} {x : Value × Value × Addr} {tl : List (Value × Value × Addr)} (h : rws.drop j = R :: X) (hn : R.it = x :: tl) : mvAt rws (j + 1) mv = x.2.1 := by
  have e : rws.drop (j + 1) = X := by rw [← List.drop_drop, h]; rfl
  obtain ⟨t, q⟩ := mv_drop rws j
  rw [mvAt, e, q, h, mvOf, hn]
  simp
theorem mem_rows {rws : List Row} {R : Row} (h : R ∈ rws) : (R.r, R.obj) ∈ rowsLed rws := by
  induction rws with
  | nil => exact nomatch h
  | cons S rws ih =>
    rcases List.mem_cons.mp h with e | e
    · exact e ▸ .head _
    · exact .tail _ (ih e)
theorem of_rows {rws : List Row} {z : Addr × Obj} (h : z ∈ rowsLed rws) : ∃ R ∈ rws, z = (R.r, R.obj) := by
  induction rws with
  | nil => exact nomatch h
  | cons S rws ih =>
    rcases List.mem_cons.mp h with e | e
    · exact ⟨S, .head _, e⟩
    · obtain ⟨R, h1, h2⟩ := ih e
      exact ⟨R, .tail _ h1, h2⟩
theorem rows_drop {rws : List Row} (j : Nat) : ∀ z ∈ rowsLed (rws.drop j), z ∈ rowsLed rws := fun z h => by
  obtain ⟨R, h1, h2⟩ := of_rows h
  exact h2 ▸ mem_rows (List.mem_of_mem_drop h1)
/-- the first told dict of each scope that holds one, outermost first -/
def firstsOf : List Row → List Value
  | [] => []
  | R :: rws => firstsOf rws ++ match R.it with
    | [] => []
    | x :: _ => [Value.ref x.2.2]
theorem firsts_nil : ∀ {rws : List Row}, firstsOf rws = [] → mvOf rws = []
  | [], _ => rfl
  | R :: rws, h => by
    rw [firstsOf, List.append_eq_nil_iff] at h
    rw [mvOf, firsts_nil h.1]
    cases e : R.it with
    | nil => rfl
    | cons x tl => rw [e] at h; exact nomatch h.2
theorem firsts_cons {w : World} {rest : Led} : ∀ {rws : List Row} {y : Value} {ys : List Value}, (∀ R ∈ rws, ∀ x ∈ R.it, Told w rest x.2.1 x.2.2) → firstsOf rws = y :: ys → ∃ td mv, y = .ref td ∧ (mvOf rws)[0]? = some mv ∧ Told w rest mv td
  | R :: rws, y, ys, hT, h => by
    rw [firstsOf] at h
    cases e : firstsOf rws with
    | nil =>
      rw [e, List.nil_append] at h
      rw [mvOf, firsts_nil e]
      cases e2 : R.it with
      | nil => rw [e2] at h; exact nomatch h
      | cons x tl =>
        rw [e2] at h
        refine ⟨x.2.2, x.2.1, (List.cons.inj h).1.symm, rfl, hT R (.head _) x (by rw [e2]; exact .head _)⟩
    | cons z zs =>
      rw [e] at h
      obtain ⟨td, mv, h1, h2, h3⟩ := firsts_cons (rws := rws) (fun R h => hT R (.tail _ h)) e
      refine ⟨td, mv, ((List.cons.inj h).1.symm.trans h1), ?_, h3⟩
      rw [mvOf, List.getElem?_append_left, h2]
      exact (List.getElem?_eq_some_iff.mp h2).1
  | [], _, _, _, h => nomatch h
section
variable {prog : Program} {w : World} {A : Around} {E : Value → Shared → Prop} {s : Shared} {h₀ : Heap} {L a b : Addr} {news : Led} {Q : Value → Shared → Prop} {vs : List Value} {c c' : Nat}
theorem eq_nil (N : News h₀ L s.heap news) (ma : (a, listOf vs.toArray c) ∈ news) (mb : (b, listOf #[] c') ∈ news) (hu : A.units < cLine) (h : Q (.bool vs.isEmpty) s) :
    wpAny (model prog w) A (compareOp .Eq (.ref a) (.ref b)) Q E s := by
  have hl : s.heap.IsList a vs.toArray := ⟨_, (N _ ma).1, rfl, _, rfl⟩
  have hl' : s.heap.IsList b #[] := ⟨_, (N _ mb).1, rfl, _, rfl⟩
  cases vs with
  | nil => exact SeqAt.RcAt.lists (e := fun _ => true) hl hl' rfl hu (fun j j1 _ => absurd j1 (Nat.not_lt_zero _)) prog w E Q h
  | cons v r => exact SeqAt.RcAt.lists_lengths hl hl' (by simp) hu prog w E Q h
theorem ne_nil (N : News h₀ L s.heap news) (ma : (a, listOf vs.toArray c) ∈ news) (mb : (b, listOf #[] c') ∈ news) (hu : A.units < cLine) (h : Q (.bool (!vs.isEmpty)) s) :
    wpAny (model prog w) A (compareOp .NotEq (.ref a) (.ref b)) Q E s := by
  have hl : s.heap.IsList a vs.toArray := ⟨_, (N _ ma).1, rfl, _, rfl⟩
  have hl' : s.heap.IsList b #[] := ⟨_, (N _ mb).1, rfl, _, rfl⟩
  cases vs with
  | nil => exact SeqAt.RcNeAt.lists (e := fun _ => true) hl hl' rfl hu (fun j j1 _ => absurd j1 (Nat.not_lt_zero _)) prog w E Q h
  | cons v r => exact SeqAt.RcNeAt.lists_lengths hl hl' (by simp) hu prog w E Q h
end
/-- the ledger between the turns -/
abbrev ledOf (dx rs p rm rsc : Addr) (es : List DictEntry) (n c1 : Nat) (pn : Int) (t : Tok) (k : Int) (u : Tok) (c : Nat) (ms : List Value) (c2 c3 : Nat) (rws : List Row) (rest : Led) : Led :=
  (dx, dictOf es n) :: (rs, listOf (vsOf rws).toArray c1) :: (p, penO pn t k u c) :: (rm, listOf ms.toArray c2) :: (rsc, listOf (scOf rws).toArray c3) :: (rowsLed rws ++ rest)
abbrev keys (dx rs p rm rsc : Addr) (rws : List Row) : List Addr := dx :: rs :: p :: rm :: rsc :: rws.map Row.r
structure Sit (w : World) (ra dx rs p rm rsc : Addr) (i : Nat) (es : List DictEntry) (pn k : Int) (ms : List Value) (rws : List Row) (rest : Led) (mv : Value) (td : Addr) : Prop where
  R : RunD rs mv es
  pn0 : 0 ≤ pn
  k0 : 0 ≤ k
  ra : (ra, instObj 440 dx) ∈ rest
  sv : SavesAt rest (vsOf rws) (mvOf rws)
  tds : ∀ R ∈ rws, ∀ x ∈ R.it, Told w rest x.2.1 x.2.2
  mks : MarksAt rws ms
  td : Told w rest mv td
  off : OwnOff rest (keys dx rs p rm rsc rws)
  nd : (keys dx rs p rm rsc rws).Nodup
  l1 : rws.length ≤ i
  l2 : (vsOf rws).length ≤ i
structure Vars (ra p rm rsc td : Addr) (m : Str → Option Value) : Prop where
  told : m (Str.ofString "told") = some (.ref td)
  run : m (Str.ofString "run") = some (.ref ra)
  pen : m (Str.ofString "pen") = some (.ref p)
  marks : m (Str.ofString "marks") = some (.ref rm)
  scopes : m (Str.ofString "scopes") = some (.ref rsc)
theorem Vars.map {ra p rm rsc td : Addr} {m : Str → Option Value} (h : Vars ra p rm rsc td m) :
    m = fun y => if y = Str.ofString "told" then some (.ref td) else if y = Str.ofString "run" then some (.ref ra) else if y = Str.ofString "pen" then some (.ref p) else if y = Str.ofString "marks" then some (.ref rm) else if y = Str.ofString "scopes" then some (.ref rsc) else m y := by
  funext y
  split
  · rename_i e; rw [e]; exact h.told
  split
  · rename_i e; rw [e]; exact h.run
  split
  · rename_i e; rw [e]; exact h.pen
  split
  · rename_i e; rw [e]; exact h.marks
  split
  · rename_i e; rw [e]; exact h.scopes
  rfl
def Inv (w : World) (ra dx rs p rm rsc : Addr) (i : Nat) (m : Str → Option Value) (nx : Led) : Prop :=
  ∃ es n c1 pn t k u c ms c2 c3 rws rest mv td, nx = ledOf dx rs p rm rsc es n c1 pn t k u c ms c2 c3 rws rest ∧ Sit w ra dx rs p rm rsc i es pn k ms rws rest mv td ∧ Vars ra p rm rsc td m
section
variable {w : World} {ra dx rs p rm rsc : Addr} {i : Nat} {es : List DictEntry} {pn k : Int} {ms : List Value} {rws : List Row} {rest : Led} {mv : Value} {td : Addr}
theorem Sit.ne (S : Sit w ra dx rs p rm rsc i es pn k ms rws rest mv td) : @Ne Nat dx rs ∧ @Ne Nat dx p ∧ @Ne Nat dx rm ∧ @Ne Nat dx rsc ∧ @Ne Nat rs p ∧ @Ne Nat rs rm ∧ @Ne Nat rs rsc ∧ @Ne Nat p rm ∧ @Ne Nat p rsc ∧ @Ne Nat rm rsc := by
  have h := S.nd
  simp only [List.nodup_cons, List.mem_cons, not_or] at h
  obtain ⟨⟨a1, a2, a3, a4, _⟩, ⟨b1, b2, b3, _⟩, ⟨c1, c2, _⟩, ⟨e1, _⟩, _⟩ := h
  exact ⟨a1, a2, a3, a4, b1, b2, b3, c1, c2, e1⟩
theorem Sit.offs (S : Sit w ra dx rs p rm rsc i es pn k ms rws rest mv td) : OwnOff (rowsLed rws ++ rest) [dx, rs, p, rm, rsc] := fun z hz b hb => by
  rcases List.mem_append.mp hz with h | h
  · obtain ⟨R, h1, rfl⟩ := of_rows h
    intro e
    have e' : R.r = b := e
    have hR : b ∈ rws.map Row.r := e' ▸ List.mem_map_of_mem (f := Row.r) h1
    have q := S.nd
    simp only [List.nodup_cons, List.mem_cons, not_or] at q
    obtain ⟨⟨_, _, _, _, a⟩, ⟨_, _, _, b'⟩, ⟨_, _, c⟩, ⟨_, d⟩, e, _⟩ := q
    simp only [List.mem_cons, List.not_mem_nil, or_false] at hb
    rcases hb with rfl | rfl | rfl | rfl | rfl
    · exact a hR
    · exact b' hR
    · exact c hR
    · exact d hR
    · exact e hR
  · refine S.off z h b ?_
    simp only [List.mem_cons, List.not_mem_nil, or_false] at hb ⊢
    grind
end
theorem offJ {led : Led} {a b c d e I : Addr} (h : OwnOff led [a, b, c, d, e]) (hI : ∀ z ∈ led, z.1 ≠ I) : OwnOff led [a, b, c, d, e, I] := fun z hz x hx => by
  simp only [List.mem_cons, List.not_mem_nil, or_false] at hx
  rcases hx with rfl | rfl | rfl | rfl | rfl | rfl
  · exact h z hz _ (.head _)
  · exact h z hz _ (.tail _ (.head _))
  · exact h z hz _ (.tail _ (.tail _ (.head _)))
  · exact h z hz _ (.tail _ (.tail _ (.tail _ (.head _))))
  · exact h z hz _ (.tail _ (.tail _ (.tail _ (.tail _ (.head _)))))
  · exact hI z hz
section
variable {w : World} {mean : ExcName → Option Value} {mg mb : Str → Option Value} {dp un : Nat} {gd' : Option (List Code)} {cn' : Str} {cs : Scope} {a : Addr} {ccd : Value} {cl : List (Str × Addr)} {outer : List Env} {A₀ : Around} {base h₀ : Heap} {L : Addr} {m : Str → Option Value} {s : Shared} {Q E : Value → Shared → Prop}
theorem so_use {led : Led} {ra dx td : Addr} {es : List DictEntry} {n : Nat} {rs : Addr} {mv : Value}
    (B : Below A₀ base outer h₀) (F : Fr h₀ L s.heap m) (X : (hd.heap_1 w.params).In h₀) (N : News h₀ L s.heap led) (T : Top view lo mean mg mb h₀) (hk : cs.kind = .function)
    (hra : (ra, instObj 440 dx) ∈ led) (hdx : (dx, dictOf es n) ∈ led) (R : RunD rs mv es) (hT : Told w led mv td) (hd : dp + 8 < recursionLimit) (hu : un + 80 < cLine)
    (ret : ∀ h' tk', Fr h₀ L h' m → News h₀ L h' led → Q (.bool true) { s with heap := h', toks := tk' }) :
    wpAny (model PySem.Challenge.rw_nz0194_01.row.prog w) (ktrTop dp un gd' cn' cs L a ccd cl outer) (call (.ref 569) [.ref ra, .ref td]) Q E s := by
  refine is_so w led ra dx td es n mv hra hdx R.mt R.hv hT mean mg mb dp un gd' cn' cs a ccd cl outer A₀ base h₀ L m s Q E B F X N T hk hd hu ?_
  rintro r led' h' tk' ⟨rfl, rfl⟩ F' N'
  exact ret h' tk' F' N'
end
theorem new_off {new rest : Led} {I dx rs p rm rsc : Addr} {oI o1 o2 o3 o4 : Obj} {rws : List Row} (q : ∀ x ∈ new, p < x.1 ∧ AllLt x.1 ((I, oI) :: (dx, o1) :: (rs, o2) :: (rm, o3) :: (rsc, o4) :: (rowsLed rws ++ rest))) : OwnOff new (I :: keys dx rs p rm rsc rws) := fun z hz b hb => by
  obtain ⟨h1, h2, h3, h4, h5, h6, h7⟩ := q z hz
  refine Nat.ne_of_gt ?_
  simp only [List.mem_cons] at hb
  rcases hb with rfl | rfl | rfl | rfl | rfl | rfl | hb
  · exact h2
  · exact h3
  · exact h4
  · exact h1
  · exact h5
  · exact h6
  · obtain ⟨R, hR, rfl⟩ := List.mem_map.mp hb
    exact of_allLt h7 _ (List.mem_append_left _ (mem_rows hR))
section
variable {w : World} {ra dx rs p rm rsc : Addr} {i : Nat} {es : List DictEntry} {pn k : Int} {ms : List Value} {rws : List Row} {rest : Led} {mv : Value} {td : Addr}
theorem Sit.grow {new : Led} {es' : List DictEntry} {pn' k' : Int} {mv' : Value} {td' : Addr} (S : Sit w ra dx rs p rm rsc i es pn k ms rws rest mv td) (h : OwnOff new (keys dx rs p rm rsc rws)) (R : RunD rs mv' es') (h1 : 0 ≤ pn') (h2 : 0 ≤ k') (hT : Told w (new ++ rest) mv' td') :
    Sit w ra dx rs p rm rsc i es' pn' k' ms rws (new ++ rest) mv' td' :=
  have hs : ∀ z ∈ rest, z ∈ new ++ rest := fun _ hz => List.mem_append_right _ hz
  ⟨R, h1, h2, hs _ S.ra, S.sv.mono hs, fun R hR x hx => (S.tds R hR x hx).mono hs, S.mks, hT, ownOff_app h S.off, S.nd, S.l1, S.l2⟩
theorem Sit.le {j : Nat} (S : Sit w ra dx rs p rm rsc i es pn k ms rws rest mv td) (h : i ≤ j) : Sit w ra dx rs p rm rsc j es pn k ms rws rest mv td :=
  { S with l1 := Nat.le_trans S.l1 h, l2 := Nat.le_trans S.l2 h }
end
theorem off_mid {a n r : Led} {adr : List Addr} (h : OwnOff (a ++ r) adr) (h' : OwnOff n adr) : OwnOff (a ++ (n ++ r)) adr := fun z hz => by
  rcases List.mem_append.mp hz with e | e
  · exact h z (List.mem_append_left _ e)
  · rcases List.mem_append.mp e with e | e
    · exact h' z e
    · exact h z (List.mem_append_right _ e)
theorem hI_of {led : Led} {dx rs p rm rsc I : Addr} {o1 o2 o3 o4 o5 : Obj} (i1 : @Ne Nat dx I) (i2 : @Ne Nat rs I) (i3 : @Ne Nat p I) (i4 : @Ne Nat rm I) (i5 : @Ne Nat rsc I) (h : OwnOff led [dx, rs, p, rm, rsc, I]) : ∀ z ∈ (dx, o1) :: (rs, o2) :: (p, o3) :: (rm, o4) :: (rsc, o5) :: led, z.1 ≠ I := by
  simp only [List.forall_mem_cons]
  exact ⟨i1, i2, i3, i4, i5, fun z hz => h z hz I (by simp)⟩
end Mine
end

section
open PySem PySem.W PyProof.Rows PyProof.V PySem.Spec
namespace Mine
section
variable {w : World} {ra dx rs p rm rsc : Addr} {i : Nat} {es : List DictEntry} {pn k : Int} {ms : List Value} {rws : List Row} {rest : Led} {mv : Value} {td : Addr}
theorem Sit.pen {pn' k' : Int} (S : Sit w ra dx rs p rm rsc i es pn k ms rws rest mv td) (h1 : 0 ≤ pn') (h2 : 0 ≤ k') : Sit w ra dx rs p rm rsc i es pn' k' ms rws rest mv td :=
  { S with pn0 := h1, k0 := h2 }
theorem off_five {led : Led} {a : Addr} {o1 o2 o3 o4 o5 : Obj} (h : AllLt a ((dx, o1) :: (rs, o2) :: (p, o3) :: (rm, o4) :: (rsc, o5) :: (rowsLed rws ++ led))) : (∀ b ∈ keys dx rs p rm rsc rws, a ≠ b) ∧ ∀ z ∈ led, z.1 ≠ a := by
  obtain ⟨h1, h2, h3, h4, h5, h6⟩ := h
  refine ⟨fun b hb => Nat.ne_of_gt ?_, fun z hz => Nat.ne_of_lt (of_allLt h6 z (List.mem_append_right _ hz))⟩
  simp only [List.mem_cons] at hb
  rcases hb with rfl | rfl | rfl | rfl | rfl | hb
  · exact h1
  · exact h2
  · exact h3
  · exact h4
  · exact h5
  · obtain ⟨R, hR, rfl⟩ := List.mem_map.mp hb
    exact of_allLt h6 _ (List.mem_append_left _ (mem_rows hR))
theorem Sit.push {r : Addr} {c : Nat} {t : Tok} (S : Sit w ra dx rs p rm rsc i es pn k ms rws rest mv td) (h : ∀ b ∈ keys dx rs p rm rsc rws, r ≠ b) (h' : ∀ z ∈ rest, z.1 ≠ r) :
    Sit w ra dx rs p rm rsc (i + 1) es pn k (ms ++ [.int ((vsOf rws).length : Int) t]) (⟨r, c, []⟩ :: rws) rest mv td := by
  have nd := S.nd
  refine ⟨S.R, S.pn0, S.k0, S.ra, ?_, ?_, ⟨ms, t, rfl, S.mks⟩, S.td, ?_, ?_, Nat.succ_le_succ S.l1, ?_⟩
  · simpa [vsOf, mvOf] using S.sv
  · intro R hR x hx
    rcases List.mem_cons.mp hR with e | e
    · rw [e] at hx; exact nomatch hx
    · exact S.tds R e x hx
  · intro z hz b hb
    simp only [List.mem_cons, List.map_cons] at hb
    rcases hb with hb | hb | hb | hb | hb | hb | hb
    · exact S.off z hz b (by simp [hb])
    · exact S.off z hz b (by simp [hb])
    · exact S.off z hz b (by simp [hb])
    · exact S.off z hz b (by simp [hb])
    · exact S.off z hz b (by simp [hb])
    · exact hb ▸ h' z hz
    · exact S.off z hz b (by simp only [List.mem_cons]; exact .inr (.inr (.inr (.inr (.inr hb)))))
  · simp only [List.mem_cons, forall_eq_or_imp] at h
    obtain ⟨a1, a2, a3, a4, a5, a6⟩ := h
    simp only [List.nodup_cons, List.mem_cons, not_or, List.map_cons] at nd ⊢
    obtain ⟨⟨b1, b2, b3, b4, b5⟩, ⟨c1, c2, c3, c4⟩, ⟨d1, d2, d3⟩, ⟨e1, e2⟩, f1, g1⟩ := nd
    exact ⟨⟨b1, b2, b3, b4, fun e => a1 e.symm, b5⟩, ⟨c1, c2, c3, fun e => a2 e.symm, c4⟩, ⟨d1, d2, fun e => a3 e.symm, d3⟩, ⟨e1, fun e => a4 e.symm, e2⟩, ⟨fun e => a5 e.symm, f1⟩, fun e => a6 _ e rfl, g1⟩
  · have := S.l2
    simp only [vsOf, List.map_nil, List.append_nil]
    omega
theorem Sit.keep {si : Addr} {t : Tok} {c : Nat} {R : Row} {es' : List DictEntry} (S : Sit w ra dx rs p rm rsc i es pn k ms (R :: rws) rest mv td) (hR : RunD rs mv es') (h : ∀ b ∈ keys dx rs p rm rsc (R :: rws), si ≠ b) :
    Sit w ra dx rs p rm rsc (i + 1) es' pn k ms (⟨R.r, c, R.it ++ [(.ref si, mv, td)]⟩ :: rws) ((si, tupO #[.str (Str.ofString "match") t, mv]) :: rest) mv td := by
  have hs : ∀ z ∈ rest, z ∈ (si, tupO #[.str (Str.ofString "match") t, mv]) :: rest := fun _ hz => .tail _ hz
  have sv := S.sv
  refine ⟨hR, S.pn0, S.k0, hs _ S.ra, ?_, ?_, S.mks, S.td.mono hs, ?_, S.nd, Nat.le_trans S.l1 (Nat.le_succ _), ?_⟩
  · have q := (sv.mono hs).snoc (si := si) (t := t) (mi := mv) (.head _) hR.hv
    simpa [vsOf, mvOf] using q
  · intro R' hR' x hx
    rcases List.mem_cons.mp hR' with e | e
    · rw [e] at hx
      rcases List.mem_append.mp hx with q | q
      · exact (S.tds R (.head _) x q).mono hs
      · rw [List.mem_singleton.mp q]; exact S.td.mono hs
    · exact (S.tds R' (.tail _ e) x hx).mono hs
  · exact ownOff_step h S.off
  · have := S.l2
    simp only [vsOf, List.map_append, List.length_append, List.map_cons, List.map_nil, List.length_cons, List.length_nil] at this ⊢
    omega
theorem mv_take (rws : List Row) (j : Nat) : (mvOf rws).take (vsOf (rws.drop j)).length = mvOf (rws.drop j) := by
  obtain ⟨tl, e⟩ := mv_drop rws j
  rw [vm_len, e, List.take_left]
theorem Sit.pop {j : Nat} {es' : List DictEntry} {ms' : List Value} {td' : Addr} (S : Sit w ra dx rs p rm rsc i es pn k ms rws rest mv td) (hR : RunD rs (mvAt rws j mv) es') (hm : MarksAt (rws.drop j) ms') (hT : Told w rest (mvAt rws j mv) td') :
    Sit w ra dx rs p rm rsc i es' pn k ms' (rws.drop j) rest (mvAt rws j mv) td' := by
  have hk : ∀ b ∈ keys dx rs p rm rsc (rws.drop j), b ∈ keys dx rs p rm rsc rws := fun b hb => by
    simp only [List.mem_cons] at hb ⊢
    rcases hb with hb | hb | hb | hb | hb | hb
    · exact .inl hb
    · exact .inr (.inl hb)
    · exact .inr (.inr (.inl hb))
    · exact .inr (.inr (.inr (.inl hb)))
    · exact .inr (.inr (.inr (.inr (.inl hb))))
    · rw [List.map_drop] at hb
      exact .inr (.inr (.inr (.inr (.inr (List.mem_of_mem_drop hb)))))
  refine ⟨hR, S.pn0, S.k0, S.ra, ?_, fun R h => S.tds R (List.mem_of_mem_drop h), hm, hT, ownOff_sub S.off hk, ?_, ?_, Nat.le_trans (vs_le rws j) S.l2⟩
  · have q := S.sv.take (vsOf (rws.drop j)).length
    rwa [vs_take, mv_take] at q
  · refine S.nd.sublist ?_
    simp only [keys, List.map_drop]
    exact .cons_cons _ (.cons_cons _ (.cons_cons _ (.cons_cons _ (.cons_cons _ (List.drop_sublist _ _)))))
  · rw [List.length_drop]
    have := S.l1
    omega
theorem Sit.row {R : Row} (S : Sit w ra dx rs p rm rsc i es pn k ms (R :: rws) rest mv td) : (@Ne Nat dx R.r ∧ @Ne Nat rs R.r ∧ @Ne Nat p R.r ∧ @Ne Nat rm R.r ∧ @Ne Nat rsc R.r) ∧ ∀ z ∈ rowsLed rws ++ rest, z.1 ≠ R.r := by
  have q := S.nd
  simp only [List.nodup_cons, List.mem_cons, not_or, List.map_cons] at q
  obtain ⟨⟨_, _, _, _, a, _⟩, ⟨_, _, _, b, _⟩, ⟨_, _, c, _⟩, ⟨_, d, _⟩, ⟨e, _⟩, f, _⟩ := q
  refine ⟨⟨a, b, c, d, e⟩, fun z hz => ?_⟩
  rcases List.mem_append.mp hz with h | h
  · obtain ⟨R', h1, rfl⟩ := of_rows h
    exact fun e => f (e ▸ List.mem_map_of_mem (f := Row.r) h1)
  · exact S.off z h _ (by simp)
theorem Sit.mlen (S : Sit w ra dx rs p rm rsc i es pn k ms rws rest mv td) : ms.length = rws.length ∧ (scOf rws).length = rws.length ∧ rws.length ≤ i ∧ (vsOf rws).length ≤ i := ⟨S.mks.len, scOf_len rws, S.l1, S.l2⟩
theorem offK {led : Led} {a b c d e f I : Addr} (h : OwnOff led [a, b, c, d, e, f]) (hI : ∀ z ∈ led, z.1 ≠ I) : OwnOff led [a, b, c, d, e, f, I] := fun z hz x hx => by
  simp only [List.mem_cons, List.not_mem_nil, or_false] at hx
  rcases hx with rfl | rfl | rfl | rfl | rfl | rfl | rfl
  · exact h z hz _ (.head _)
  · exact h z hz _ (.tail _ (.head _))
  · exact h z hz _ (.tail _ (.tail _ (.head _)))
  · exact h z hz _ (.tail _ (.tail _ (.tail _ (.head _))))
  · exact h z hz _ (.tail _ (.tail _ (.tail _ (.tail _ (.head _)))))
  · exact h z hz _ (.tail _ (.tail _ (.tail _ (.tail _ (.tail _ (.head _))))))
  · exact hI z hz
theorem vs_keep {X : List Row} {r : Addr} {c c' : Nat} {it : List (Value × Value × Addr)} {x : Value × Value × Addr} : vsOf (⟨r, c, it ++ [x]⟩ :: X) = vsOf (⟨r, c', it⟩ :: X) ++ [x.1] := by simp [vsOf]
theorem it_keep {it : List (Value × Value × Addr)} {x : Value × Value × Addr} : (it.map fun x => Value.ref x.2.2).toArray.push (.ref x.2.2) = ((it ++ [x]).map fun x => Value.ref x.2.2).toArray := by simp
end
theorem hI_all {led : Led} {dx rs p rm rsc I : Addr} {o1 o2 o3 o4 o5 : Obj} (i1 : @Ne Nat dx I) (i2 : @Ne Nat rs I) (i3 : @Ne Nat p I) (i4 : @Ne Nat rm I) (i5 : @Ne Nat rsc I) (h : ∀ z ∈ led, z.1 ≠ I) : ∀ z ∈ (dx, o1) :: (rs, o2) :: (p, o3) :: (rm, o4) :: (rsc, o5) :: led, z.1 ≠ I := by
  simp only [List.forall_mem_cons]
  exact ⟨i1, i2, i3, i4, i5, h⟩
theorem ne_mid {a r : Led} {I si : Addr} {o : Obj} (h : ∀ z ∈ a ++ r, z.1 ≠ I) (h' : @Ne Nat si I) : ∀ z ∈ a ++ (si, o) :: r, z.1 ≠ I := fun z hz => by
  rcases List.mem_append.mp hz with e | e
  · exact h z (List.mem_append_left _ e)
  · rcases List.mem_cons.mp e with e | e
    · exact e ▸ h'
    · exact h z (List.mem_append_right _ e)
end Mine
end

section
local macro_rules | `(tactic| walk_at "call ref") => `(tactic| (k_here; (with_reducible show wpAny _ _ (call (Value.ref 545) _) _ _ _); k_dflt (refine' draw_use ?B ?F ?X ?N ?U ?T ?k ?hn ?hk0 ?hm ?hd ?hu ?_; (case B => k_asm); (case F => k_asm); (case X => k_asm); (case N => k_asm); (case U => k_updF); (case T => k_asm); (case k => first | exact rfl | assumption); (case hn => omega); (case hk0 => omega); (case hm => omega); (case hd => decide); (case hu => decide); k_whole; intro r' tr' n' t' k' u' c' h' tk' q1 q2 q3 q4 F' N'; (try dsimp only at N'); (try k_sweep); (try k_fold))))
local macro_rules | `(tactic| walk_at "call type:range") => `(tactic| (k_here; (rename Fr _ _ _ _ => F'); (rename News _ _ _ _ => N'); first
  | (with_unfolding_all refine range1_rows F' N' ?_; intro _ _ _ _ _ _ _ _ _)
  | (with_unfolding_all refine range2_rows F' N' ?_; intro _ _ _ _ _ _ _ _ _)))
local macro_rules | `(tactic| walk_at "exec For Name Call cons nil") => `(tactic| (k_here; (rename Fr _ _ _ _ => lF'); (with_unfolding_all refine' For_invVF lF' ?k1 ?k2 ?_; (case k1 => exact rfl); (case k2 => exact rfl); k_whole)))
local macro_rules | `(tactic| walk_at "pyIter ref") => `(tactic| (refine Hold.loop ?_))
local macro_rules | `(tactic| walk_at "call ref") => `(tactic| (k_here; (first | (with_reducible show wpAny _ _ (call (Value.ref 569) _) _ _ _) | (with_reducible show wpAny _ _ (call (Value.ref 564) _) _ _ _) | (with_reducible show wpAny _ _ (call (Value.ref 292) _) _ _ _) | (with_reducible show wpAny _ _ (call (Value.ref 214) _) _ _ _)); refine Hold.of ?_))
local macro_rules | `(tactic| walk_at "setAttr ref") => `(tactic| (k_here; k_dflt (refine' set_match ?k1 ?k2 ?k3 ?k4 ?kU ?kR ?kh ?_; (case k1 | k2 | k3 => k_asm); (case k4 => k_mem); (case kU => k_updF); (case kR => with_reducible assumption); (case kh => first | rfl | assumption); k_whole; intro es' n' h' R' F' N'; (try dsimp only at N'); (try k_sweep))))
local macro_rules | `(tactic| walk_at "call builtin:len") => `(tactic| (k_here; (with_reducible show wpAny _ _ (call (Value.builtin "len") [Value.ref _]) _ _ _); k_dflt (refine' kst_len ?k1 ?k2 ?k3 ?k4 ?_; (case k1 => k_asm); (case k2 => k_mem); (case k3 => rfl); (case k4 => omega); k_whole)))
local macro_rules | `(tactic| walk_at "compareOp NotEq ref ref") => `(tactic| (refine Hold.of ?_))
local macro_rules | `(tactic| walk_at "call builtin:list.pop") => `(tactic| (refine Hold.of ?_))
section
open PySem PySem.W PyProof.Rows PyProof.V PySem.Spec
namespace Mine
example : True := by w_top off; trivial
noncomputable abbrev forB : Stmt → List Stmt
  | .For _ _ b .. => b
  | _ => []
noncomputable abbrev lawB : List Stmt := match fB f_53 with | .stmts b => b | _ => []
set_option maxRecDepth 100000 in
set_option maxHeartbeats 8000000 in
theorem tail_ (w : World) (mean : ExcName → Option Value) (mg mb : Str → Option Value) (fa L : Addr) (cd : Value) (base h₀ : Heap) (m : Str → Option Value) (s₁ : Shared) (h1 : Heap) (tk1 : Nat) (Q : Flow → Shared → Prop) (E1 : Value → Shared → Prop)
    (ra dx rs p rm rsc : Addr) (i : Nat) (es : List DictEntry) (n c1 : Nat) (pn : Int) (pt : Tok) (k : Int) (pu : Tok) (c : Nat) (ms : List Value) (c2 c3 : Nat) (rws : List Row) (rest : Led) (mv : Value) (td : Addr) (I : Addr) (oI : Obj)
    (B : Below callerA base [] h₀) (F : Fr h₀ L h1 m) (X : (hd.heap_1 w.params).In h₀)
    (N : News h₀ L h1 ((I, oI) :: ledOf dx rs p rm rsc es n c1 pn pt k pu c ms c2 c3 rws rest)) (T : Top view lo mean mg mb h₀)
    (S : Sit w ra dx rs p rm rsc i es pn k ms rws rest mv td) (V : Vars ra p rm rsc td m) (hI : ∀ z ∈ ledOf dx rs p rm rsc es n c1 pn pt k pu c ms c2 c3 rws rest, z.1 ≠ I) :
    wpAny (model PySem.Challenge.rw_nz0194_01.row.prog w) (callerA.deeper (envOf "law" (fS f_53) L fa cd)) (execs [nth (forB (nth lawB 7)) 2] (envOf "law" (fS f_53) L fa cd))
      (TurnEnd h₀ L I oI (Inv w ra dx rs p rm rsc i) s₁ Q)
      (fun e s' => wpAny (model PySem.Challenge.rw_nz0194_01.row.prog w) (callerA.deeper (envOf "law" (fS f_53) L fa cd)) (leaving (envOf "law" (fS f_53) L fa cd) e) (fun _ s'' => E1 e s'') (fun e' s'' => E1 e' s'') s') { s₁ with heap := h1, toks := tk1 } := by
  revert X; k_fill; intro X
  conv in (nth _ 2) => whnf
  generalize hS : fS f_53 = sc
  conv at hS => lhs; whnf
  subst hS
  rw [V.map] at F
  k_steps
  refine Hold.out ?_
  k_dflt (refine' so_use ?B ?F ?X ?N ?T ?k ?ra ?dx ?R ?hT ?hd ?hu ?_; (case B => exact B); (case F => exact F); (case X => exact X); (case N => exact N); (case T => exact T); (case k => exact rfl); (case ra => exact .tail _ (.tail _ (.tail _ (.tail _ (.tail _ (.tail _ (List.mem_append_right _ S.ra))))))); (case dx => exact .tail _ (.head _)); (case R => exact S.R); (case hT => exact S.td.mono fun z hz => .tail _ (.tail _ (.tail _ (.tail _ (.tail _ (.tail _ (List.mem_append_right _ hz))))))); (case hd => decide); (case hu => decide))
  k_whole
  intro h' tk' F' N'
  k_steps
  (rename News _ _ _ _ => N9); (rename Fr _ _ _ _ => F9)
  exact TurnEnd.intro _ F9 N9 hI ⟨_, _, _, _, _, _, _, _, _, _, _, _, _, _, _, rfl, S, by rw [← V.map]; exact V⟩
end Mine
end

section
open PySem PySem.W PyProof.Rows PyProof.V PySem.Spec
namespace Mine
example : True := by w_top off; trivial
noncomputable abbrev ifE : Stmt → List Stmt
  | .If _ _ e .. => e
  | _ => []
noncomputable abbrev ifB : Stmt → List Stmt
  | .If _ b _ .. => b
  | _ => []
noncomputable abbrev way1 : Stmt := nth (forB (nth lawB 7)) 1
noncomputable abbrev way2 : Stmt := nth (ifE way1) 0
noncomputable abbrev way3 : Stmt := nth (ifE way2) 0
noncomputable abbrev way4 : Stmt := nth (ifE way3) 0
theorem match_perm {a b c d e f : Addr × Obj} {l r n : Led} : ∀ x ∈ a :: b :: c :: d :: e :: f :: (l ++ (n ++ r)), x ∈ d :: (n ++ (a :: b :: c :: e :: f :: (l ++ r))) := fun x hx => by
  simp only [List.mem_cons, List.mem_append] at hx ⊢
  grind
theorem match_perm0 {a b c d e f : Addr × Obj} {l : Led} : ∀ x ∈ d :: (a :: b :: c :: e :: f :: l), x ∈ a :: b :: c :: d :: e :: f :: l := fun x hx => by
  simp only [List.mem_cons] at hx ⊢
  grind
set_option maxRecDepth 100000 in
set_option maxHeartbeats 8000000 in
theorem way_match (w : World) (mean : ExcName → Option Value) (mg mb : Str → Option Value) (fa L : Addr) (cd : Value) (base h₀ : Heap) (m : Str → Option Value) (s₁ : Shared) (h1 : Heap) (tk1 : Nat) (Q : Flow → Shared → Prop) (E1 : Value → Shared → Prop)
    (ra dx rs p rm rsc : Addr) (i : Nat) (es : List DictEntry) (n c1 : Nat) (pn : Int) (pt : Tok) (k : Int) (pu : Tok) (c : Nat) (ms : List Value) (c2 c3 : Nat) (rws : List Row) (rest : Led) (mv : Value) (td : Addr) (I : Addr) (oI : Obj)
    (B : Below callerA base [] h₀) (F : Fr h₀ L h1 m) (X : (hd.heap_1 w.params).In h₀)
    (N : News h₀ L h1 ((I, oI) :: ledOf dx rs p rm rsc es n c1 pn pt k pu c ms c2 c3 rws rest)) (T : Top view lo mean mg mb h₀)
    (S : Sit w ra dx rs p rm rsc i es pn k ms rws rest mv td) (V : Vars ra p rm rsc td m) (hI : ∀ z ∈ ledOf dx rs p rm rsc es n c1 pn pt k pu c ms c2 c3 rws rest, z.1 ≠ I)
    (ret : ∀ es' n' pn' pt' k' pu' c' rest' mv' td' h' tk' m', Sit w ra dx rs p rm rsc i es' pn' k' ms rws rest' mv' td' → Vars ra p rm rsc td' m' → Fr h₀ L h' m' → News h₀ L h' ((I, oI) :: ledOf dx rs p rm rsc es' n' c1 pn' pt' k' pu' c' ms c2 c3 rws rest') →
      (∀ z ∈ ledOf dx rs p rm rsc es' n' c1 pn' pt' k' pu' c' ms c2 c3 rws rest', z.1 ≠ I) → Q .next { s₁ with heap := h', toks := tk' }) :
    wpAny (model PySem.Challenge.rw_nz0194_01.row.prog w) (callerA.deeper (envOf "law" (fS f_53) L fa cd)) (execs [nth (ifE way4) 0] (envOf "law" (fS f_53) L fa cd)) Q
      (fun e s' => wpAny (model PySem.Challenge.rw_nz0194_01.row.prog w) (callerA.deeper (envOf "law" (fS f_53) L fa cd)) (leaving (envOf "law" (fS f_53) L fa cd) e) (fun _ s'' => E1 e s'') (fun e' s'' => E1 e' s'') s') { s₁ with heap := h1, toks := tk1 } := by
  revert X; k_fill; intro X
  conv in (nth _ 0) => whnf
  generalize hS : fS f_53 = sc
  conv at hS => lhs; whnf
  subst hS
  rw [V.map] at F
  obtain ⟨d1, d2, d3, d4, d5, d6, d7, d8, d9, d10⟩ := S.ne
  have offA := offJ S.offs fun z hz => hI z (.tail _ (.tail _ (.tail _ (.tail _ (.tail _ hz)))))
  have i1 : @Ne Nat dx I := hI _ (.head _)
  have i2 : @Ne Nat rs I := hI _ (.tail _ (.head _))
  have i3 : @Ne Nat p I := hI _ (.tail _ (.tail _ (.head _)))
  have i4 : @Ne Nat rm I := hI _ (.tail _ (.tail _ (.tail _ (.head _))))
  have i5 : @Ne Nat rsc I := hI _ (.tail _ (.tail _ (.tail _ (.tail _ (.head _)))))
  k_steps
  refine Hold.out ?_
  refine match_ w p pn k pt pu c ((I, oI) :: (dx, dictOf es n) :: (rs, listOf (vsOf rws).toArray c1) :: (rm, listOf ms.toArray c2) :: (rsc, listOf (scOf rws).toArray c3) :: (rowsLed rws ++ rest)) ?_ S.pn0 S.k0 mean mg mb _ _ _ _ _ _ _ _ _ _ base h₀ L _ _ _ _ B F X (cb_drop N match_perm0) T rfl (by decide) (by decide) ?_
  · exact ownOff_step (by simpa using fun e => i3 e.symm) (ownOff_step (by simpa using d2) (ownOff_step (by simpa using d5) (ownOff_step (by simpa using fun e => d8 e.symm) (ownOff_step (by simpa using fun e => d9 e.symm) (ownOff_sub offA (by simp))))))
  rintro r news' h' tk' ⟨r1, mt, td', new, n', t', k', u', c', rfl, q1, q2, rfl, q3, q4, q5⟩ F' N'
  replace N' := cb_drop N' match_perm
  have hn := new_off q5
  have offB : OwnOff (rowsLed rws ++ (new ++ rest)) [dx, rs, p, rm, rsc, I] := off_mid offA (ownOff_sub hn (by simp))
  have hr1 : (r1, tupO #[.ref mt, .ref td']) ∈ rowsLed rws ++ (new ++ rest) := List.mem_append_right _ (List.mem_append_left _ q3)
  have hra : (ra, instObj 440 dx) ∈ rowsLed rws ++ (new ++ rest) := List.mem_append_right _ (List.mem_append_right _ S.ra)
  have R := S.R
  clear N offA F
  dsimp only
  k_steps
  (rename News _ _ _ _ => N9); (rename Fr _ _ _ _ => F9); (rename RunD _ _ _ => R9)
  exact ret _ _ _ _ _ _ _ _ _ _ _ _ _ (S.grow (ownOff_sub hn fun b hb => .tail _ hb) R9 q1 q2 (q4.mono fun z hz => List.mem_append_left _ hz)) ⟨rfl, rfl, rfl, rfl, rfl⟩ F9 N9 (hI_of i1 i2 i3 i4 i5 offB)
end Mine
end

section
open PySem PySem.W PyProof.Rows PyProof.V PySem.Spec
namespace Mine
example : True := by w_top off; trivial
theorem save_perm0 {a b c d e f g : Addr × Obj} {l : Led} : ∀ x ∈ b :: c :: a :: d :: e :: f :: g :: l, x ∈ a :: b :: c :: d :: e :: f :: g :: l := fun x hx => by
  simp only [List.mem_cons] at hx ⊢
  grind
theorem save_perm1 {a b c d e f g h : Addr × Obj} {l r : Led} : ∀ x ∈ d :: a :: b :: e :: f :: g :: h :: (l ++ c :: r), x ∈ a :: b :: c :: d :: e :: f :: g :: h :: (l ++ r) := fun x hx => by
  simp only [List.mem_cons, List.mem_append] at hx ⊢
  grind
set_option maxRecDepth 100000 in
set_option maxHeartbeats 8000000 in
theorem way3_ (w : World) (mean : ExcName → Option Value) (mg mb : Str → Option Value) (fa L : Addr) (cd : Value) (base h₀ : Heap) (m : Str → Option Value) (s₁ : Shared) (h1 : Heap) (tk1 : Nat) (Q : Flow → Shared → Prop) (E1 : Value → Shared → Prop)
    (ra dx rs p rm rsc : Addr) (i : Nat) (es : List DictEntry) (n c1 : Nat) (pn : Int) (pt : Tok) (k : Int) (pu : Tok) (c : Nat) (ms : List Value) (c2 c3 : Nat) (R : Row) (rws : List Row) (rest : Led) (mv : Value) (td : Addr) (I : Addr) (oI : Obj)
    (B : Below callerA base [] h₀) (F : Fr h₀ L h1 m) (X : (hd.heap_1 w.params).In h₀)
    (N : News h₀ L h1 ((I, oI) :: ledOf dx rs p rm rsc es n c1 pn pt k pu c ms c2 c3 (R :: rws) rest)) (T : Top view lo mean mg mb h₀) (hi : i < 10)
    (S : Sit w ra dx rs p rm rsc i es pn k ms (R :: rws) rest mv td) (V : Vars ra p rm rsc td m) (hI : ∀ z ∈ ledOf dx rs p rm rsc es n c1 pn pt k pu c ms c2 c3 (R :: rws) rest, z.1 ≠ I)
    (ret : ∀ es' n' c1' c3' rws' rest' h' tk' m', Sit w ra dx rs p rm rsc (i + 1) es' pn k ms rws' rest' mv td → Vars ra p rm rsc td m' → Fr h₀ L h' m' → News h₀ L h' ((I, oI) :: ledOf dx rs p rm rsc es' n' c1' pn pt k pu c ms c2 c3' rws' rest') →
      (∀ z ∈ ledOf dx rs p rm rsc es' n' c1' pn pt k pu c ms c2 c3' rws' rest', z.1 ≠ I) → Q .next { s₁ with heap := h', toks := tk' }) :
    wpAny (model PySem.Challenge.rw_nz0194_01.row.prog w) (callerA.deeper (envOf "law" (fS f_53) L fa cd)) (execs [nth (ifB way3) 0, nth (ifB way3) 1] (envOf "law" (fS f_53) L fa cd)) Q
      (fun e s' => wpAny (model PySem.Challenge.rw_nz0194_01.row.prog w) (callerA.deeper (envOf "law" (fS f_53) L fa cd)) (leaving (envOf "law" (fS f_53) L fa cd) e) (fun _ s'' => E1 e s'') (fun e' s'' => E1 e' s'') s') { s₁ with heap := h1, toks := tk1 } := by
  revert X; k_fill; intro X
  conv in (nth _ 0) => whnf
  conv in (nth _ 1) => whnf
  generalize hS : fS f_53 = sc
  conv at hS => lhs; whnf
  subst hS
  rw [V.map] at F
  obtain ⟨d1, d2, d3, d4, d5, d6, d7, d8, d9, d10⟩ := S.ne
  obtain ⟨⟨r1, r2, r3, r4, r5⟩, hr⟩ := S.row
  obtain ⟨m1, m2, m3, m4⟩ := S.mlen
  have i1 : @Ne Nat dx I := hI _ (.head _)
  have i2 : @Ne Nat rs I := hI _ (.tail _ (.head _))
  have i3 : @Ne Nat p I := hI _ (.tail _ (.tail _ (.head _)))
  have i4 : @Ne Nat rm I := hI _ (.tail _ (.tail _ (.tail _ (.head _))))
  have i5 : @Ne Nat rsc I := hI _ (.tail _ (.tail _ (.tail _ (.tail _ (.head _)))))
  have i6 : @Ne Nat R.r I := hI _ (.tail _ (.tail _ (.tail _ (.tail _ (.tail _ (.head _))))))
  have offA : OwnOff (rowsLed rws ++ rest) [dx, rs, p, rm, rsc, I, R.r] := offK (offJ (fun z hz => S.offs z (.tail _ hz)) fun z hz => hI z (.tail _ (.tail _ (.tail _ (.tail _ (.tail _ (.tail _ hz))))))) hr
  k_steps
  refine Hold.out ?_
  refine save w ra dx rs es n c1 (vsOf (R :: rws)) mv ((I, oI) :: (p, penO pn pt k pu c) :: (rm, listOf ms.toArray c2) :: (rsc, listOf (scOf (R :: rws)).toArray c3) :: (R.r, R.obj) :: (rowsLed rws ++ rest)) ?_ (by omega) ?_ d1 S.R mean mg mb _ _ _ _ _ _ _ _ _ _ base h₀ L _ _ _ _ B F X (cb_drop N save_perm0) T rfl (by decide) (by decide) ?_
  · exact .tail _ (.tail _ (.tail _ (.tail _ (.tail _ (List.mem_append_right _ S.ra)))))
  · exact ownOff_step (by simpa using ⟨fun e => i1 e.symm, fun e => i2 e.symm⟩) (ownOff_step (by simpa using ⟨fun e => d2 e.symm, fun e => d5 e.symm⟩) (ownOff_step (by simpa using ⟨fun e => d3 e.symm, fun e => d6 e.symm⟩) (ownOff_step (by simpa using ⟨fun e => d4 e.symm, fun e => d7 e.symm⟩) (ownOff_step (by simpa using ⟨fun e => r1 e.symm, fun e => r2 e.symm⟩) (ownOff_sub offA (by simp))))))
  rintro r news' h' tk' ⟨rfl, si, t9, c9, rfl, u1, u2, u3⟩ F' N'
  clear N
  obtain ⟨u4, u5, u6, u7, u8, u9⟩ := u3
  replace u1 := ltN u1; replace u2 := ltN u2; replace u4 := ltN u4; replace u5 := ltN u5; replace u6 := ltN u6; replace u7 := ltN u7; replace u8 := ltN u8
  dsimp only at u4 u5 u6 u7 u8
  dsimp only
  k_steps
  refine item_last (vi := scOf rws) (v := .ref R.r) ⟨_, (N' _ (.tail _ (.tail _ (.tail _ (.tail _ (.tail _ (.tail _ (.head _)))))))).1, rfl, _, rfl⟩ ?_
  have l9 : (R.it.map fun x => Value.ref x.2.2).length < 100 := by
    simp only [vsOf, List.length_append, List.length_map] at m4 ⊢
    omega
  k_steps
  (rename News _ _ _ _ => N9); (rename Fr _ _ _ _ => F9)
  have e1 : vsOf (R :: rws) ++ [Value.ref si] = vsOf (⟨R.r, R.c + 1, R.it ++ [(.ref si, mv, td)]⟩ :: rws) := (vs_keep (X := rws) (r := R.r) (c := R.c + 1) (c' := R.c) (it := R.it) (x := (Value.ref si, mv, td))).symm
  have e2 : (List.map (fun x => Value.ref x.snd.snd) R.it).toArray.push (Value.ref td) = ((R.it ++ [(Value.ref si, mv, td)]).map fun x => Value.ref x.2.2).toArray := it_keep (x := (Value.ref si, mv, td))
  rw [e1, e2] at N9
  have N8 := cb_drop N9 save_perm1
  have hI' : ∀ z ∈ (R.r, listOf ((R.it ++ [(Value.ref si, mv, td)]).map fun x => Value.ref x.2.2).toArray (R.c + 1)) :: (rowsLed rws ++ (si, tupO #[.str (Str.ofString "match") t9, mv]) :: rest), z.1 ≠ I := List.forall_mem_cons.mpr ⟨i6, ne_mid (fun z hz => offA z hz I (by simp)) (Nat.ne_of_gt u4)⟩
  exact ret _ _ _ _ (⟨R.r, R.c + 1, R.it ++ [(.ref si, mv, td)]⟩ :: rws) _ _ _ _ (S.keep S.R (off_five (rws := R :: rws) (led := rest) (o1 := dictOf es n) (o2 := dictOf es n) (o3 := dictOf es n) (o4 := dictOf es n) (o5 := dictOf es n) ⟨u1, u2, u5, u6, u7, u8, u9⟩).1) ⟨rfl, rfl, rfl, rfl, rfl⟩ F9 N8 (hI_all i1 i2 i3 i4 i5 hI')
end Mine
end

section
open PySem PySem.W PyProof.Rows PyProof.V PySem.Spec
namespace Mine
example : True := by w_top off; trivial
/-- between the laps -/
def JLap (w : World) (ra dx rs p rm rsc : Addr) (es : List DictEntry) (n c1 : Nat) (pn : Int) (pt : Tok) (k : Int) (pu : Tok) (c : Nat) (rws : List Row) (J : Nat) (rest : Led) (mv : Value) (I : Addr) (oI : Obj) (j : Nat) (m₁ : Str → Option Value) (nx : Led) : Prop :=
  ∃ ms' c2' c3' td', nx = (I, oI) :: (dx, dictOf es n) :: (rs, listOf (vsOf (rws.drop J)).toArray c1) :: (p, penO pn pt k pu c) :: (rm, listOf ms'.toArray c2') :: (rsc, listOf (scOf (rws.drop j)).toArray c3') :: (rowsLed rws ++ rest) ∧
    MarksAt (rws.drop j) ms' ∧ Told w rest (mvAt rws j mv) td' ∧ Vars ra p rm rsc td' m₁
theorem drop_cons {α : Type} {l : List α} {j : Nat} (h : j < l.length) : ∃ R, R ∈ l ∧ l.drop j = R :: l.drop (j + 1) := ⟨l[j], List.getElem_mem h, List.drop_eq_getElem_cons h⟩
theorem lap_mem {l l' r : Led} (hs : ∀ z ∈ l', z ∈ l) : ∀ x ∈ l' ++ r, x ∈ l ++ r := fun x hx => by
  rcases List.mem_append.mp hx with h | h
  · exact List.mem_append_left _ (hs x h)
  · exact List.mem_append_right _ h
theorem lap_perm {a b c d e f : Addr × Obj} {l l' r : Led} (hs : ∀ z ∈ l', z ∈ l) : ∀ x ∈ a :: b :: c :: d :: e :: f :: (l' ++ r), x ∈ a :: b :: c :: d :: e :: f :: (l ++ r) := fun x hx => by
  have q := lap_mem (r := r) hs x
  simp only [List.mem_cons] at hx ⊢
  grind
set_option maxRecDepth 100000 in
set_option maxHeartbeats 8000000 in
theorem laps (w : World) (mean : ExcName → Option Value) (mg mb : Str → Option Value) (fa L : Addr) (cd : Value) (base h₀ : Heap) (m : Str → Option Value) (s₁ : Shared) (h1 : Heap) (tk1 : Nat) (Q : Flow → Shared → Prop) (E1 : Value → Shared → Prop)
    (ra dx rs p rm rsc : Addr) (i : Nat) (es0 es : List DictEntry) (n c1 : Nat) (pn : Int) (pt : Tok) (k : Int) (pu : Tok) (c : Nat) (ms : List Value) (c2 c3 : Nat) (rws : List Row) (J : Nat) (tJ : Tok) (rest : Led) (mv : Value) (td : Addr) (I : Addr) (oI : Obj)
    (B : Below callerA base [] h₀) (F : Fr h₀ L h1 (fun y => if y = Str.ofString "many" then some (.int (J : Int) tJ) else m y)) (X : (hd.heap_1 w.params).In h₀)
    (N : News h₀ L h1 ((I, oI) :: (dx, dictOf es n) :: (rs, listOf (vsOf (rws.drop J)).toArray c1) :: (p, penO pn pt k pu c) :: (rm, listOf ms.toArray c2) :: (rsc, listOf (scOf rws).toArray c3) :: (rowsLed rws ++ rest))) (T : Top view lo mean mg mb h₀) (hi : i < 10) (hJ : J ≤ rws.length)
    (S : Sit w ra dx rs p rm rsc i es0 pn k ms rws rest mv td) (hR : RunD rs (mvAt rws J mv) es) (V : Vars ra p rm rsc td m) (hI : ∀ z ∈ ledOf dx rs p rm rsc es n c1 pn pt k pu c ms c2 c3 rws rest, z.1 ≠ I)
    (ret : ∀ ms' c2' c3' td' h' tk' m', Sit w ra dx rs p rm rsc i es pn k ms' (rws.drop J) rest (mvAt rws J mv) td' → Vars ra p rm rsc td' m' → Fr h₀ L h' m' → News h₀ L h' ((I, oI) :: ledOf dx rs p rm rsc es n c1 pn pt k pu c ms' c2' c3' (rws.drop J) rest) →
      (∀ z ∈ ledOf dx rs p rm rsc es n c1 pn pt k pu c ms' c2' c3' (rws.drop J) rest, z.1 ≠ I) → Q .next { s₁ with heap := h', toks := tk' }) :
    wpAny (model PySem.Challenge.rw_nz0194_01.row.prog w) (callerA.deeper (envOf "law" (fS f_53) L fa cd)) (execs [nth (ifB way2) 2] (envOf "law" (fS f_53) L fa cd)) Q
      (fun e s' => wpAny (model PySem.Challenge.rw_nz0194_01.row.prog w) (callerA.deeper (envOf "law" (fS f_53) L fa cd)) (leaving (envOf "law" (fS f_53) L fa cd) e) (fun _ s'' => E1 e s'') (fun e' s'' => E1 e' s'') s') { s₁ with heap := h1, toks := tk1 } := by
  revert X; k_fill; intro X
  conv in (nth _ 2) => whnf
  generalize hS : fS f_53 = sc
  conv at hS => lhs; whnf
  subst hS
  have Vm := V.map
  rw [Vm] at F
  obtain ⟨d1, d2, d3, d4, d5, d6, d7, d8, d9, d10⟩ := S.ne
  obtain ⟨m1, m2, m3, m4⟩ := S.mlen
  have i1 : @Ne Nat dx I := hI _ (.head _)
  have i2 : @Ne Nat rs I := hI _ (.tail _ (.head _))
  have i3 : @Ne Nat p I := hI _ (.tail _ (.tail _ (.head _)))
  have i4 : @Ne Nat rm I := hI _ (.tail _ (.tail _ (.tail _ (.head _))))
  have i5 : @Ne Nat rsc I := hI _ (.tail _ (.tail _ (.tail _ (.tail _ (.head _)))))
  have offA := offJ S.offs fun z hz => hI z (.tail _ (.tail _ (.tail _ (.tail _ (.tail _ hz)))))
  k_steps
  refine Hold.out ?_
  (rename IsRange _ _ _ _ _ _ _ _ => hR9); (rename News _ _ _ _ => N9); (rename Fr _ _ _ _ => F9)
  refine' range_J (JLap w ra dx rs p rm rsc es n c1 pn pt k pu c rws J rest mv I oI) rfl hR9 ?e1 ?e2 F9 N9 ?start ?turn ?done
  case e1 => exact (small_range (by omega) (by omega) (by omega)).1
  case e2 => exact (small_range (by omega) (by omega) (by omega)).2
  case start => exact ⟨ms, c2, c3, td, rfl, S.mks, by rw [mvAt_zero]; exact S.td, ⟨rfl, rfl, rfl, rfl, rfl⟩⟩
  case turn =>
    rintro j t9 m₁ nx I2 oI2 h tk hj ⟨ms', c2', c3', td', rfl, hM, hT, V'⟩ hI2 F' N'
    rw [V'.map] at F'
    obtain ⟨R, hRm, hd⟩ := drop_cons (l := rws) (j := j) (by omega)
    rw [hd] at hM N'
    obtain ⟨ms'', t8, rfl, hM'⟩ := hM
    simp only [List.forall_mem_cons] at hI2
    obtain ⟨j1, j2, j3, j4, j5, j6, j7⟩ := hI2
    replace j1 := neN j1; replace j2 := neN j2; replace j3 := neN j3; replace j4 := neN j4; replace j5 := neN j5; replace j6 := neN j6
    have offB := offK offA j7
    have l8 := hM'.len
    have l7 := scOf_len (rws.drop (j + 1))
    rw [List.length_drop] at l8 l7
    clear N9 F9
    k_steps
    refine Hold.out ?_
    dsimp only
    refine' kl_pop F' N' (kpa_last _ _) ?U ?z ?_
    case U => k_upd
    case z => (simp only [sizeLine_eq]; simp only [List.length_append, List.length_cons, List.length_nil]; omega)
    intro h8 F8 N8
    k_steps
    (rename News _ _ _ _ => N7); (rename Fr _ _ _ _ => F7)
    refine Hold.out ?_
    dsimp only
    refine' kl_pop F7 N7 (kpa_last _ (scOf (rws.drop (j + 1)))) ?U ?z ?_
    case U => k_upd
    case z => (simp only [sizeLine_eq]; simp only [List.length_append, List.length_cons, List.length_nil]; omega)
    intro h6 F6 N6
    k_steps
    (rename News _ _ _ _ => N5); (rename Fr _ _ _ _ => F5)
    have hRm9 : (R.r, R.obj) ∈ rowsLed rws ++ rest := List.mem_append_left _ (mem_rows hRm)
    have hj9 : ∀ (o1 o2 o3 o4 o5 : Obj), ∀ z ∈ (I, oI) :: (dx, o1) :: (rs, o2) :: (p, o3) :: (rm, o4) :: (rsc, o5) :: (rowsLed rws ++ rest), z.1 ≠ I2 := by
      intro o1 o2 o3 o4 o5
      simp only [List.forall_mem_cons]
      exact ⟨j1, j2, j3, j4, j5, j6, j7⟩
    refine Hold.out (ne_nil N5 (.tail _ (.tail _ (.tail _ (.tail _ (.tail _ (.tail _ (.tail _ (.tail _ hRm9)))))))) (.head _) (Nat.le_of_ble_eq_true rfl) ?_)
    cases hit : R.it with
    | nil =>
      simp only [List.map_nil, List.isEmpty_nil, Bool.not_true]
      k_steps
      (rename News _ _ _ _ => N9); (rename Fr _ _ _ _ => F9)
      exact TurnEnd.intro _ F9 (cb_drop N9 fun x h => .tail _ h) (hj9 _ _ _ _ _) ⟨ms'', _, _, td', rfl, hM', by rw [mvAt_nil hd hit]; exact hT, ⟨rfl, rfl, rfl, rfl, rfl⟩⟩
    | cons x tl =>
      simp only [List.map_cons, List.isEmpty_cons, Bool.not_false]
      k_steps
      (rename News _ _ _ _ => N9); (rename Fr _ _ _ _ => F9)
      refine item_led (k := 0) (vs := R.it.map fun x => Value.ref x.2.2) (c := R.c) N9 (.tail _ (.tail _ (.tail _ (.tail _ (.tail _ (.tail _ (.tail _ (.tail _ hRm9)))))))) (by decide) (by decide) (x := Value.ref x.2.2) (by rw [hit]; rfl) ?_
      k_steps
      (rename News _ _ _ _ => N9); (rename Fr _ _ _ _ => F9)
      exact TurnEnd.intro _ F9 (cb_drop N9 fun x h => .tail _ h) (hj9 _ _ _ _ _) ⟨ms'', _, _, x.2.2, rfl, hM', by rw [mvAt_cons hd hit]; exact S.tds R hRm x (hit ▸ .head _), ⟨rfl, rfl, rfl, rfl, rfl⟩⟩
  case done =>
    rintro m₁ nx h tk ⟨ms', c2', c3', td', rfl, hM, hT, V'⟩ F' N'
    clear N9 F9
    rw [V'.map] at F'
    k_steps
    (rename News _ _ _ _ => N9); (rename Fr _ _ _ _ => F9)
    exact ret _ _ _ _ _ _ _ (S.pop hR hM hT) ⟨rfl, rfl, rfl, rfl, rfl⟩ F9 (cb_drop N9 (lap_perm (rows_drop J))) (hI_all i1 i2 i3 i4 i5 fun z hz => offA z (lap_mem (rows_drop J) z hz) I (by simp))
end Mine
end

section
open PySem PySem.W PyProof.Rows PyProof.V PySem.Spec
namespace Mine
example : True := by w_top off; trivial
local macro_rules | `(tactic| walk_at "execs cons") => `(tactic| (k_here; (first | (with_reducible show wpAny _ _ (execs [Stmt.Assign _ (Expr.Call (Expr.Name (Str.ofString "_law_match") _) _ _ _) _] _) _ _ _) | (with_reducible show wpAny _ _ (execs [Stmt.If (Expr.UnaryOp _ _ _) _ _ _] _) _ _ _) | (with_reducible show wpAny _ _ (execs [Stmt.For _ _ _ _ _] _) _ _ _)); refine Hold.of ?_))
theorem leave_perm0 {a b c d e f : Addr × Obj} {l : Led} : ∀ x ∈ b :: c :: a :: d :: e :: f :: l, x ∈ a :: b :: c :: d :: e :: f :: l := fun x hx => by
  simp only [List.mem_cons] at hx ⊢
  grind
theorem leave_perm1 {a b c d e f : Addr × Obj} {l : Led} : ∀ x ∈ a :: b :: c :: d :: e :: f :: l, x ∈ b :: c :: a :: d :: e :: f :: l := fun x hx => by
  simp only [List.mem_cons] at hx ⊢
  grind
theorem lt_nat {r : Int} {b : Nat} (h : r < (b : Int)) (h0 : 0 ≤ r) : ∃ j : Nat, r = (j : Int) ∧ j < b := by
  obtain ⟨j, rfl⟩ := Int.eq_ofNat_of_zero_le h0
  exact ⟨j, rfl, Int.ofNat_lt.mp h⟩
theorem neg_idx {j b : Nat} (h : j < b) : seqIndex? (-(1 + (j : Int))) b = some (b - (j + 1)) := by
  unfold seqIndex?
  have e : (-(1 + (j : Int)) + (b : Int)).toNat = b - (j + 1) := by omega
  simp only
  split <;> simp_all <;> omega
set_option maxRecDepth 100000 in
set_option maxHeartbeats 8000000 in
theorem way2_ (w : World) (mean : ExcName → Option Value) (mg mb : Str → Option Value) (fa L : Addr) (cd : Value) (base h₀ : Heap) (m : Str → Option Value) (s₁ : Shared) (h1 : Heap) (tk1 : Nat) (Q : Flow → Shared → Prop) (E1 : Value → Shared → Prop)
    (ra dx rs p rm rsc : Addr) (i : Nat) (es : List DictEntry) (n c1 : Nat) (pn : Int) (pt : Tok) (k : Int) (pu : Tok) (c : Nat) (ms : List Value) (c2 c3 : Nat) (rws : List Row) (rest : Led) (mv : Value) (td : Addr) (I : Addr) (oI : Obj)
    (B : Below callerA base [] h₀) (F : Fr h₀ L h1 m) (X : (hd.heap_1 w.params).In h₀)
    (N : News h₀ L h1 ((I, oI) :: ledOf dx rs p rm rsc es n c1 pn pt k pu c ms c2 c3 rws rest)) (T : Top view lo mean mg mb h₀) (hi : i < 10) (h0 : 0 < rws.length)
    (S : Sit w ra dx rs p rm rsc i es pn k ms rws rest mv td) (V : Vars ra p rm rsc td m) (hI : ∀ z ∈ ledOf dx rs p rm rsc es n c1 pn pt k pu c ms c2 c3 rws rest, z.1 ≠ I)
    (ret : ∀ es' n' c1' pn' pt' k' pu' c' ms' c2' c3' rws' mv' td' h' tk' m', Sit w ra dx rs p rm rsc i es' pn' k' ms' rws' rest mv' td' → Vars ra p rm rsc td' m' → Fr h₀ L h' m' → News h₀ L h' ((I, oI) :: ledOf dx rs p rm rsc es' n' c1' pn' pt' k' pu' c' ms' c2' c3' rws' rest) →
      (∀ z ∈ ledOf dx rs p rm rsc es' n' c1' pn' pt' k' pu' c' ms' c2' c3' rws' rest, z.1 ≠ I) → Q .next { s₁ with heap := h', toks := tk' }) :
    wpAny (model PySem.Challenge.rw_nz0194_01.row.prog w) (callerA.deeper (envOf "law" (fS f_53) L fa cd)) (execs [nth (ifB way2) 0, nth (ifB way2) 1, nth (ifB way2) 2] (envOf "law" (fS f_53) L fa cd)) Q
      (fun e s' => wpAny (model PySem.Challenge.rw_nz0194_01.row.prog w) (callerA.deeper (envOf "law" (fS f_53) L fa cd)) (leaving (envOf "law" (fS f_53) L fa cd) e) (fun _ s'' => E1 e s'') (fun e' s'' => E1 e' s'') s') { s₁ with heap := h1, toks := tk1 } := by
  revert X; k_fill; intro X
  conv in (nth _ 0) => whnf
  conv in (nth _ 1) => whnf
  conv in (nth _ 2) => whnf
  generalize hS : fS f_53 = sc
  conv at hS => lhs; whnf
  subst hS
  rw [V.map] at F
  obtain ⟨d1, d2, d3, d4, d5, d6, d7, d8, d9, d10⟩ := S.ne
  obtain ⟨m1, m2, m3, m4⟩ := S.mlen
  have i1 : @Ne Nat dx I := hI _ (.head _)
  have i2 : @Ne Nat rs I := hI _ (.tail _ (.head _))
  have i3 : @Ne Nat p I := hI _ (.tail _ (.tail _ (.head _)))
  have i4 : @Ne Nat rm I := hI _ (.tail _ (.tail _ (.tail _ (.head _))))
  have i5 : @Ne Nat rsc I := hI _ (.tail _ (.tail _ (.tail _ (.tail _ (.head _)))))
  have offA := offJ S.offs fun z hz => hI z (.tail _ (.tail _ (.tail _ (.tail _ (.tail _ hz)))))
  have pn0 := S.pn0
  have k0 := S.k0
  unfold ledOf at N
  k_steps
  (rename News _ _ _ _ => N9); (rename _ < ((List.length ms : Nat) : Int) => q9)
  obtain ⟨j, rfl, hj⟩ := lt_nat q9 (by assumption)
  have hj9 : j < rws.length := by omega
  obtain ⟨t9, hm9⟩ := S.mks.at hj9
  rw [← m1] at hm9
  refine kde_neg ⟨_, (N9 _ (.tail _ (.tail _ (.tail _ (.tail _ (.head _)))))).1, rfl, _, rfl⟩ (by omega) (by omega) (neg_idx hj) hm9 ?_
  k_steps
  refine Hold.out ?_
  (rename News _ _ _ _ => N9); (rename Fr _ _ _ _ => F9)
  refine leave w ra dx rs es n c1 (vsOf rws) (mvOf rws) mv ((vsOf (rws.drop (j + 1))).length) t9 ((I, oI) :: (p, penO _ _ _ _ _) :: (rm, listOf ms.toArray c2) :: (rsc, listOf (scOf rws).toArray c3) :: (rowsLed rws ++ rest)) ?_ (S.sv.mono fun z hz => .tail _ (.tail _ (.tail _ (.tail _ (List.mem_append_right _ hz))))) (vs_le rws _) (by omega) ?_ d1 S.R mean mg mb _ _ _ _ _ _ _ _ _ _ base h₀ L _ _ _ _ B F9 X (cb_drop N9 leave_perm0) T rfl (by decide) (by decide) ?_
  · exact .tail _ (.tail _ (.tail _ (.tail _ (List.mem_append_right _ S.ra))))
  · exact ownOff_step (by simpa using ⟨fun e => i1 e.symm, fun e => i2 e.symm⟩) (ownOff_step (by simpa using ⟨fun e => d2 e.symm, fun e => d5 e.symm⟩) (ownOff_step (by simpa using ⟨fun e => d3 e.symm, fun e => d6 e.symm⟩) (ownOff_step (by simpa using ⟨fun e => d4 e.symm, fun e => d7 e.symm⟩) (ownOff_sub offA (by simp)))))
  rintro r news' h' tk' ⟨rfl, es', n', c', rfl, hR⟩ F' N'
  rw [vs_take] at N'
  rw [vm_len] at hR
  rw [show (1 + (j : Int)) = ((j + 1 : Nat) : Int) by omega] at F'
  clear N9 F9
  dsimp only
  k_steps
  refine Hold.out ?_
  (rename News _ _ _ _ => N9); (rename Fr _ _ _ _ => F9)
  refine laps w mean mg mb fa L cd base h₀ _ s₁ _ _ Q E1 ra dx rs p rm rsc i es es' n' c' _ _ _ _ _ ms c2 c3 rws (j + 1) _ rest mv td I oI B F9 X (cb_drop N9 leave_perm1) T hi hj9 (S.pen (by assumption) (by assumption)) hR ⟨rfl, rfl, rfl, rfl, rfl⟩ (hI_all i1 i2 i3 i4 i5 fun z hz => offA z hz I (by simp)) ?_
  exact fun ms' c2' c3' td' h' tk' m' S' V' F' N' hI' => ret _ _ _ _ _ _ _ _ _ _ _ _ _ _ _ _ _ S' V' F' N' hI'
end Mine
end

section
open PySem PySem.W PyProof.Rows PyProof.V PySem.Spec
namespace Mine
example : True := by w_top off; trivial
local macro_rules | `(tactic| walk_at "zz") => `(tactic| skip)
local macro_rules | `(tactic| walk_at "execs cons") => `(tactic| (k_here; (first | (with_reducible show wpAny _ _ (execs [Stmt.Assign _ (Expr.Call (Expr.Name (Str.ofString "_law_match") _) _ _ _) _] _) _ _ _) | (with_reducible show wpAny _ _ (execs [Stmt.If (Expr.UnaryOp _ _ _) _ _ _] _) _ _ _) | (with_reducible show wpAny _ _ (execs [Stmt.Expr (Expr.Call (Expr.Name _ _) _ _ _) _, _] _) _ _ _) | (with_reducible show wpAny _ _ (execs [Stmt.Assign _ (Expr.BinOp _ _ _ _) _, _, _] _) _ _ _)); refine Hold.of ?_))
theorem vs_nil {r : Addr} {c : Nat} {rws : List Row} : vsOf (⟨r, c, []⟩ :: rws) = vsOf rws := by simp [vsOf]
theorem Sit.none_ {w : World} {ra dx rs p rm rsc : Addr} {i : Nat} {es es' : List DictEntry} {pn k pn' k' : Int} {ms : List Value} {rws : List Row} {rest : Led} {mv mv' : Value} {td d : Addr} {o : Obj} (S : Sit w ra dx rs p rm rsc i es pn k ms rws rest mv td) (h : ∀ b ∈ keys dx rs p rm rsc rws, d ≠ b) (R : RunD rs mv' es') (h1 : 0 ≤ pn') (h2 : 0 ≤ k') (hT : Told w ((d, o) :: rest) mv' d) :
    Sit w ra dx rs p rm rsc i es' pn' k' ms rws ((d, o) :: rest) mv' d := S.grow (new := [(d, o)]) (ownOff_one h) R h1 h2 hT
theorem none_perm {a b c d e f g t : Addr × Obj} {l r : Led} : ∀ x ∈ b :: c :: d :: e :: f :: g :: (l ++ (a :: r)), x ∈ t :: a :: b :: c :: d :: e :: f :: g :: (l ++ r) := fun x hx => by
  simp only [List.mem_cons, List.mem_append] at hx ⊢
  grind
theorem push_perm {a b c d e f g : Addr × Obj} {l : Led} : ∀ x ∈ b :: c :: d :: e :: f :: g :: a :: l, x ∈ a :: b :: c :: d :: e :: f :: g :: l := fun x hx => by
  simp only [List.mem_cons] at hx ⊢
  grind
theorem push_news {h₀ h : Heap} {L lx I dx rs p rm rsc : Addr} {oI od op : Obj} {rws : List Row} {rest : Led} {ms : List Value} {c1 c2 c3 : Nat}
    (N : News h₀ L h ((lx, listOf #[] 0) :: (I, oI) :: (dx, od) :: (rs, listOf (vsOf rws).toArray c1) :: (p, op) :: (rm, listOf ms.toArray c2) :: (rsc, listOf (scOf rws ++ [Value.ref lx]).toArray c3) :: (rowsLed rws ++ rest))) :
    News h₀ L h ((I, oI) :: (dx, od) :: (rs, listOf (vsOf (⟨lx, 0, []⟩ :: rws)).toArray c1) :: (p, op) :: (rm, listOf ms.toArray c2) :: (rsc, listOf (scOf (⟨lx, 0, []⟩ :: rws)).toArray c3) :: (rowsLed (⟨lx, 0, []⟩ :: rws) ++ rest)) := by
  rw [vs_nil]
  exact cb_drop N push_perm
set_option maxRecDepth 100000 in
set_option maxHeartbeats 8000000 in
theorem turn (w : World) (mean : ExcName → Option Value) (mg mb : Str → Option Value) (fa L : Addr) (cd : Value) (base h₀ : Heap) (m : Str → Option Value) (s₁ : Shared) (h1 : Heap) (tk1 : Nat) (Q : Flow → Shared → Prop) (E1 : Value → Shared → Prop)
    (ra dx rs p rm rsc : Addr) (i : Nat) (es : List DictEntry) (n c1 : Nat) (pn : Int) (pt : Tok) (k : Int) (pu : Tok) (c : Nat) (ms : List Value) (c2 c3 : Nat) (rws : List Row) (rest : Led) (mv : Value) (td : Addr) (I : Addr) (oI : Obj) (tv : Value)
    (B : Below callerA base [] h₀) (F : Fr h₀ L h1 (fun y => if y = Str.ofString "turn" then some tv else m y)) (X : (hd.heap_1 w.params).In h₀)
    (N : News h₀ L h1 ((I, oI) :: ledOf dx rs p rm rsc es n c1 pn pt k pu c ms c2 c3 rws rest)) (T : Top view lo mean mg mb h₀) (hi : i < 10)
    (S : Sit w ra dx rs p rm rsc i es pn k ms rws rest mv td) (V : Vars ra p rm rsc td m) (hI : ∀ z ∈ ledOf dx rs p rm rsc es n c1 pn pt k pu c ms c2 c3 rws rest, z.1 ≠ I) :
    wpAny (model PySem.Challenge.rw_nz0194_01.row.prog w) (callerA.deeper (envOf "law" (fS f_53) L fa cd)) (execs [nth (forB (nth lawB 7)) 0, nth (forB (nth lawB 7)) 1, nth (forB (nth lawB 7)) 2] (envOf "law" (fS f_53) L fa cd))
      (TurnEnd h₀ L I oI (Inv w ra dx rs p rm rsc (i + 1)) { s₁ with heap := h1, toks := tk1 } Q)
      (fun e s' => wpAny (model PySem.Challenge.rw_nz0194_01.row.prog w) (callerA.deeper (envOf "law" (fS f_53) L fa cd)) (leaving (envOf "law" (fS f_53) L fa cd) e) (fun _ s'' => E1 e s'') (fun e' s'' => E1 e' s'') s') { s₁ with heap := h1, toks := tk1 } := by
  revert X; k_fill; intro X
  conv in (nth _ 0) => whnf
  conv in (nth _ 1) => whnf
  conv in (nth _ 2) => whnf
  generalize hS : fS f_53 = sc
  conv at hS => lhs; whnf
  subst hS
  rw [V.map] at F
  obtain ⟨d1, d2, d3, d4, d5, d6, d7, d8, d9, d10⟩ := S.ne
  have i1 : @Ne Nat dx I := hI _ (.head _)
  have i2 : @Ne Nat rs I := hI _ (.tail _ (.head _))
  have i3 : @Ne Nat p I := hI _ (.tail _ (.tail _ (.head _)))
  have i4 : @Ne Nat rm I := hI _ (.tail _ (.tail _ (.tail _ (.head _))))
  have i5 : @Ne Nat rsc I := hI _ (.tail _ (.tail _ (.tail _ (.tail _ (.head _)))))
  have offA := offJ S.offs fun z hz => hI z (.tail _ (.tail _ (.tail _ (.tail _ (.tail _ hz)))))
  unfold ledOf at N
  have pn0 := S.pn0
  have k0 := S.k0
  have hra : (ra, instObj 440 dx) ∈ rowsLed rws ++ rest := List.mem_append_right _ S.ra
  have R := S.R
  obtain ⟨m1, m2, m3, m4⟩ := S.mlen
  k_steps
  · (rename News _ _ _ _ => N9); (rename Fr _ _ _ _ => F9); (rename _ ∧ _ => l9)
    rw [List.push_toArray, List.push_toArray] at N9
    have o9 := off_five (rws := rws) (led := rest) (o1 := oI) (o2 := oI) (o3 := oI) (o4 := oI) (o5 := oI) l9.2
    have N8 := push_news N9
    exact Hold.out (tail_ w mean mg mb fa L cd base h₀ _ _ _ _ Q E1 ra dx rs p rm rsc (i + 1) _ _ _ _ _ _ _ _ _ _ _ _ rest mv td I oI B F9 X N8 T ((S.pen (by assumption) (by assumption)).push o9.1 o9.2) ⟨rfl, rfl, rfl, rfl, rfl⟩ (hI_all i1 i2 i3 i4 i5 (List.forall_mem_cons.mpr ⟨Nat.ne_of_gt l9.1, fun z hz => offA z hz I (by simp)⟩)))
  · (rename News _ _ _ _ => N9); (rename Fr _ _ _ _ => F9)
    (rename @Eq Int _ 2 => e9); subst e9
    refine Hold.out (ne_nil N9 (.tail _ (.tail _ (.tail _ (.tail _ (.tail _ (.head _)))))) (.head _) (Nat.le_of_ble_eq_true rfl) ?_)
    cases rws with
    | nil =>
      obtain rfl : ms = [] := S.mks
      simp only [List.isEmpty_nil, Bool.not_true]
      k_steps
      (rename News _ _ _ _ => N9); (rename Fr _ _ _ _ => F9)
      refine Hold.out ?_
      refine way_match w mean mg mb fa L cd base h₀ _ _ _ _ _ E1 ra dx rs p rm rsc (i + 1) _ _ _ _ _ _ _ _ _ _ _ _ rest mv td I oI B F9 X (cb_drop N9 fun x h => .tail _ h) T ((S.pen (by assumption) (by assumption)).le (Nat.le_succ i)) ⟨rfl, rfl, rfl, rfl, rfl⟩ (hI_all i1 i2 i3 i4 i5 fun z hz => offA z hz I (by simp)) ?_
      k_whole
      intro es' n' pn' pt' k' pu' c' rest' mv' td' h' tk' m' S' V' F' N' hI'
      k_steps
      exact Hold.out (tail_ w mean mg mb fa L cd base h₀ _ _ _ _ Q E1 ra dx rs p rm rsc (i + 1) _ _ _ _ _ _ _ _ _ _ _ _ _ _ _ I oI B F' X N' T S' V' hI')
    | cons R0 rws =>
      have hne : ms.isEmpty = false := List.isEmpty_eq_false_iff.mpr (fun e => by rw [e] at m1; exact nomatch m1)
      simp only [hne, Bool.not_false]
      k_steps
      (rename News _ _ _ _ => N9); (rename Fr _ _ _ _ => F9)
      refine Hold.out ?_
      refine way2_ w mean mg mb fa L cd base h₀ _ _ _ _ _ E1 ra dx rs p rm rsc i _ _ _ _ _ _ _ _ _ _ _ (R0 :: rws) rest mv td I oI B F9 X (cb_drop N9 fun x h => .tail _ h) T hi (Nat.succ_pos _) (S.pen (by assumption) (by assumption)) ⟨rfl, rfl, rfl, rfl, rfl⟩ (hI_all i1 i2 i3 i4 i5 fun z hz => offA z hz I (by simp)) ?_
      k_whole
      intro es' n' c1' pn' pt' k' pu' c' ms' c2' c3' rws' mv' td' h' tk' m' S' V' F' N' hI'
      k_steps
      exact Hold.out (tail_ w mean mg mb fa L cd base h₀ _ _ _ _ Q E1 ra dx rs p rm rsc (i + 1) _ _ _ _ _ _ _ _ _ _ _ _ _ _ _ I oI B F' X N' T (S'.le (Nat.le_succ i)) V' hI')
  · (rename News _ _ _ _ => N9); (rename Fr _ _ _ _ => F9)
    (rename @Eq Int _ 3 => e9); subst e9
    refine Hold.out (ne_nil N9 (.tail _ (.tail _ (.tail _ (.tail _ (.tail _ (.head _)))))) (.head _) (Nat.le_of_ble_eq_true rfl) ?_)
    cases rws with
    | nil =>
      obtain rfl : ms = [] := S.mks
      simp only [List.isEmpty_nil, Bool.not_true]
      k_steps
      (rename News _ _ _ _ => N9); (rename Fr _ _ _ _ => F9)
      refine Hold.out ?_
      refine way_match w mean mg mb fa L cd base h₀ _ _ _ _ _ E1 ra dx rs p rm rsc (i + 1) _ _ _ _ _ _ _ _ _ _ _ _ rest mv td I oI B F9 X (cb_drop N9 fun x h => .tail _ h) T ((S.pen (by assumption) (by assumption)).le (Nat.le_succ i)) ⟨rfl, rfl, rfl, rfl, rfl⟩ (hI_all i1 i2 i3 i4 i5 fun z hz => offA z hz I (by simp)) ?_
      k_whole
      intro es' n' pn' pt' k' pu' c' rest' mv' td' h' tk' m' S' V' F' N' hI'
      k_steps
      exact Hold.out (tail_ w mean mg mb fa L cd base h₀ _ _ _ _ Q E1 ra dx rs p rm rsc (i + 1) _ _ _ _ _ _ _ _ _ _ _ _ _ _ _ I oI B F' X N' T S' V' hI')
    | cons R0 rws =>
      have hne : ms.isEmpty = false := List.isEmpty_eq_false_iff.mpr (fun e => by rw [e] at m1; exact nomatch m1)
      simp only [hne, Bool.not_false]
      k_steps
      (rename News _ _ _ _ => N9); (rename Fr _ _ _ _ => F9)
      refine Hold.out ?_
      refine way3_ w mean mg mb fa L cd base h₀ _ _ _ _ _ E1 ra dx rs p rm rsc i _ _ _ _ _ _ _ _ _ _ _ R0 rws rest mv td I oI B F9 X (cb_drop N9 fun x h => .tail _ h) T hi (S.pen (by assumption) (by assumption)) ⟨rfl, rfl, rfl, rfl, rfl⟩ (hI_all i1 i2 i3 i4 i5 fun z hz => offA z hz I (by simp)) ?_
      k_whole
      intro es' n' c1' c3' rws' rest' h' tk' m' S' V' F' N' hI'
      k_steps
      exact Hold.out (tail_ w mean mg mb fa L cd base h₀ _ _ _ _ Q E1 ra dx rs p rm rsc (i + 1) _ _ _ _ _ _ _ _ _ _ _ _ _ _ _ I oI B F' X N' T S' V' hI')
  · (rename News _ _ _ _ => N9); (rename Fr _ _ _ _ => F9); (rename RunD _ _ _ => R9); (rename Obj.IsDictOf (PySem.strKind _ _) _ _ => hs9); (rename FlatPairs PyData.str _ _ => fs9); (rename (_ == sysModules) = false => lo9); (rename @LT.lt Nat _ I _ ∧ _ => l9)
    have o9 := off_five (rws := rws) (led := rest) (o1 := oI) (o2 := oI) (o3 := oI) (o4 := oI) (o5 := oI) l9.2
    exact Hold.out (tail_ w mean mg mb fa L cd base h₀ _ _ _ _ Q E1 ra dx rs p rm rsc (i + 1) _ _ _ _ _ _ _ _ _ _ _ rws _ _ _ I oI B F9 X (cb_drop N9 none_perm) T ((S.none_ o9.1 R9 (by assumption) (by assumption) ⟨none, [], .none, ⟨lo9, _, [], .head _, hs9, fs9⟩, Tells.empty⟩).le (Nat.le_succ i)) ⟨rfl, rfl, rfl, rfl, rfl⟩ (hI_all i1 i2 i3 i4 i5 (ne_mid (fun z hz => offA z hz I (by simp)) (Nat.ne_of_gt l9.1))))
  · (rename News _ _ _ _ => N9); (rename Fr _ _ _ _ => F9)
    refine Hold.out ?_
    refine way_match w mean mg mb fa L cd base h₀ _ _ _ _ _ E1 ra dx rs p rm rsc (i + 1) _ _ _ _ _ _ _ _ _ _ _ _ rest mv td I oI B F9 X N9 T ((S.pen (by assumption) (by assumption)).le (Nat.le_succ i)) ⟨rfl, rfl, rfl, rfl, rfl⟩ (hI_all i1 i2 i3 i4 i5 fun z hz => offA z hz I (by simp)) ?_
    k_whole
    intro es' n' pn' pt' k' pu' c' rest' mv' td' h' tk' m' S' V' F' N' hI'
    k_steps
    exact Hold.out (tail_ w mean mg mb fa L cd base h₀ _ _ _ _ Q E1 ra dx rs p rm rsc (i + 1) _ _ _ _ _ _ _ _ _ _ _ _ _ _ _ I oI B F' X N' T S' V' hI')
end Mine
end

section
open PySem PySem.W PyProof.Rows PyProof.V PySem.Spec
namespace Mine
example : True := by w_top off; trivial
section
variable {prog : Program} {w : World} {A : Around} {h₀ : Heap} {L : Addr} {m : Str → Option Value} {env : Env} {ct elt : Expr} {x : Str} {scope : Scope} {cl : List (Str × Addr)} {s : Shared} {S : Led → Prop} {P : Nat → Value → Prop} {Fin : List Value → Led → Prop}
theorem comp_invT {n : Nat} (J : Nat → List Value → Led → Prop)
    (turn : ∀ i v ys nx I oI C oC D m₂ h tk (E' : Value → Shared → Prop), i < n → J i ys nx → P i v → LCg.NsObj oC m₂ → m₂ x = some v → Fr h₀ L h m → News h₀ L h ((I, oI) :: (C, oC) :: (D, LCg.lst ys) :: nx) → LCg.Off3 I C D nx → ((@Ne Nat I C) ∧ (@Ne Nat I D) ∧ (@Ne Nat C D)) →
      wpAny (model prog w) A (PySem.isTrue ct (compEnvC scope cl C env) (eval ct (compEnvC scope cl C env))) (fun ok s' => if ok = true then
        wpAny (model prog w) A (eval elt (compEnvC scope cl C env)) (LCg.CompEnd h₀ L m { s with heap := h, toks := tk } I oI C oC D (LCg.lst ys) S (fun y nx' => J (i + 1) (ys ++ [y]) nx')) E' s'
        else LCg.CompEnd h₀ L m { s with heap := h, toks := tk } I oI C oC D (LCg.lst ys) S (fun _ nx' => J (i + 1) ys nx') Value.none s') E' { s with heap := h, toks := tk })
    (fin : ∀ ys nx, J n ys nx → Fin ys nx) {nx : Led} (start : J 0 [] nx) : LCt.CompRestT prog w A h₀ L m env ct elt x scope cl s S P Fin n 0 [] nx := by
  have key : ∀ (j i : Nat) (ys : List Value) (nx : Led), i + j = n → J i ys nx → LCt.CompRestT prog w A h₀ L m env ct elt x scope cl s S P Fin j i ys nx := by
    intro j
    induction j with
    | zero =>
      intro i ys nx hi hj
      have e : i = n := by omega
      exact LCt.CompRestT.zero (fin ys nx (e ▸ hj))
    | succ j ih =>
      intro i ys nx hi hj
      refine LCt.CompRestT.succ ?_
      intro v I oI C oC D m₂ h tk E' hv hC hx F N off ne
      refine wpAny_mono (turn i v ys nx I oI C oC D m₂ h tk E' (by omega) hj hv hC hx F N off ne) (fun ok s₂ hq => ?_) fun _ _ e => e
      cases ok with
      | true =>
        simp only [if_true] at hq ⊢
        refine wpAny_mono hq (fun y s₃ hq => ?_) fun _ _ e => e
        obtain ⟨h', tk', nw, e, F', N', off', hS, hJ⟩ := hq
        exact ⟨h', tk', nw, e, F', N', off', hS, ih (i + 1) _ nw (by omega) hJ⟩
      | false =>
        simp only [Bool.false_eq_true, if_false] at hq ⊢
        obtain ⟨h', tk', nw, e, F', N', off', hS, hJ⟩ := hq
        exact ⟨h', tk', nw, e, F', N', off', hS, ih (i + 1) _ nw (by omega) hJ⟩
  exact key n 0 [] nx (by omega) start
end
theorem sc_at {v : Value} : ∀ {rws : List Row} {i : Nat}, (scOf rws)[i]? = some v → ∃ R X, R ∈ rws ∧ v = .ref R.r ∧ rws.drop (rws.length - (i + 1)) = R :: X ∧ rws.drop (rws.length - i) = X
  | [], i, h => by simp [scOf] at h
  | R :: rws, i, h => by
    rw [scOf] at h
    have hl := scOf_len rws
    by_cases q : i < rws.length
    · rw [List.getElem?_append_left (by omega)] at h
      obtain ⟨R', X, h1, h2, h3, h4⟩ := sc_at h
      refine ⟨R', X, .tail _ h1, h2, ?_, ?_⟩
      · rw [List.length_cons, show rws.length + 1 - (i + 1) = rws.length - (i + 1) + 1 by omega, List.drop_succ_cons]; exact h3
      · rw [List.length_cons, show rws.length + 1 - i = rws.length - i + 1 by omega, List.drop_succ_cons]; exact h4
    · rw [List.getElem?_append_right (by omega)] at h
      have e : i = rws.length := by
        rcases Nat.lt_or_ge rws.length i with q' | q'
        · rw [List.getElem?_eq_none (by simp; omega)] at h; exact nomatch h
        · omega
      subst e
      rw [hl, Nat.sub_self] at h
      refine ⟨R, rws, .head _, (Option.some.inj h).symm, ?_, ?_⟩
      · simp
      · simp
local macro_rules | `(tactic| walk_at "compareOp Eq ref ref") => `(tactic| (refine Hold.of ?_))
local macro_rules | `(tactic| walk_at "CompSrcT") => `(tactic| (refine Hold.of ?_))
local macro_rules | `(tactic| walk_at "CompEnd") => `(tactic| (refine Hold.of ?_))
set_option maxRecDepth 100000 in
set_option maxHeartbeats 8000000 in
theorem foot (w : World) (mean : ExcName → Option Value) (mg mb : Str → Option Value) (fa L : Addr) (cd : Value) (base h₀ : Heap) (m : Str → Option Value) (s₁ : Shared) (h1 : Heap) (tk1 : Nat) (Q : Flow → Shared → Prop) (E1 : Value → Shared → Prop)
    (ra dx rs p rm rsc : Addr) (i : Nat) (es : List DictEntry) (n c1 : Nat) (pn : Int) (pt : Tok) (k : Int) (pu : Tok) (c : Nat) (ms : List Value) (c2 c3 : Nat) (rws : List Row) (rest : Led) (mv : Value) (td : Addr)
    (B : Below callerA base [] h₀) (F : Fr h₀ L h1 m) (X : (hd.heap_1 w.params).In h₀)
    (N : News h₀ L h1 (ledOf dx rs p rm rsc es n c1 pn pt k pu c ms c2 c3 rws rest)) (T : Top view lo mean mg mb h₀) (hi : i < 11)
    (S : Sit w ra dx rs p rm rsc i es pn k ms rws rest mv td) (V : Vars ra p rm rsc td m)
    (ret : ∀ h' tk' m', Fr h₀ L h' m' → Q (.ret (.bool true)) { s₁ with heap := h', toks := tk' }) :
    wpAny (model PySem.Challenge.rw_nz0194_01.row.prog w) (callerA.deeper (envOf "law" (fS f_53) L fa cd)) (execs [nth lawB 8, nth lawB 9, nth lawB 10] (envOf "law" (fS f_53) L fa cd)) Q
      (fun e s' => wpAny (model PySem.Challenge.rw_nz0194_01.row.prog w) (callerA.deeper (envOf "law" (fS f_53) L fa cd)) (leaving (envOf "law" (fS f_53) L fa cd) e) (fun _ s'' => E1 e s'') (fun e' s'' => E1 e' s'') s') { s₁ with heap := h1, toks := tk1 } := by
  revert X; k_fill; intro X
  conv in (nth _ 8) => whnf
  conv in (nth _ 9) => whnf
  conv in (nth _ 10) => whnf
  generalize hS : fS f_53 = sc
  conv at hS => lhs; whnf
  subst hS
  rw [V.map] at F
  obtain ⟨d1, d2, d3, d4, d5, d6, d7, d8, d9, d10⟩ := S.ne
  obtain ⟨m1, m2, m3, m4⟩ := S.mlen
  have offA := S.offs
  unfold ledOf at N
  k_steps
  refine Hold.out ?_
  refine leave w ra dx rs es n c1 (vsOf rws) (mvOf rws) mv 0 _ ((p, penO _ _ _ _ _) :: (rm, listOf ms.toArray c2) :: (rsc, listOf (scOf rws).toArray c3) :: (rowsLed rws ++ rest)) ?_ (S.sv.mono fun z hz => .tail _ (.tail _ (.tail _ (List.mem_append_right _ hz)))) (Nat.zero_le _) (by omega) ?_ d1 S.R mean mg mb _ _ _ _ _ _ _ _ _ _ base h₀ L _ _ _ _ B F X N T rfl (by decide) (by decide) ?_
  · exact .tail _ (.tail _ (.tail _ (List.mem_append_right _ S.ra)))
  · exact ownOff_step (by simpa using ⟨fun e => d2 e.symm, fun e => d5 e.symm⟩) (ownOff_step (by simpa using ⟨fun e => d3 e.symm, fun e => d6 e.symm⟩) (ownOff_step (by simpa using ⟨fun e => d4 e.symm, fun e => d7 e.symm⟩) (ownOff_sub offA (by simp))))
  rintro r news' h' tk' ⟨rfl, es', n', c', rfl, hR⟩ F' N'
  rw [List.take_zero] at N'
  dsimp only
  k_steps
  refine Hold.out ?_
  refine LCt.CompSrcT.ledger rfl F' N' (.tail _ (.tail _ (.tail _ (.tail _ (.head _))))) (by rw [sizeLine_eq, List.size_toArray]; omega) ?_
  intro g9
  refine comp_invT (fun i ys nx => nx = (dx, dictOf es' n') :: (rs, listOf #[] c') :: (p, penO pn pt k pu c) :: (rm, listOf ms.toArray c2) :: (rsc, listOf (scOf rws).toArray c3) :: (rowsLed rws ++ rest) ∧ ys = firstsOf (rws.drop (rws.length - i))) ?_ ?_ ⟨rfl, by simp [firstsOf]⟩
  · rintro j v ys nx I oI C oC D m₂ h tk E' hj ⟨rfl, rfl⟩ hv hC hx F9 N9 off9 ne'
    rw [List.getElem?_toArray] at hv
    obtain ⟨R, X, hRm, rfl, hd1, hd2⟩ := sc_at hv
    k_steps
    (rename News _ _ _ _ => N5); (rename Fr _ _ _ _ => F5)
    have hRm9 : (R.r, R.obj) ∈ rowsLed rws ++ rest := List.mem_append_left _ (mem_rows hRm)
    refine Hold.out (ne_nil N5 (.tail _ (.tail _ (.tail _ (.tail _ (.tail _ (.tail _ (.tail _ (.tail _ (.tail _ hRm9))))))))) (.head _) (Nat.le_of_ble_eq_true rfl) ?_)
    cases hit : R.it with
    | nil =>
      simp only [List.map_nil, List.isEmpty_nil, Bool.not_true]
      k_steps
      (rename News _ _ _ _ => N8); (rename Fr _ _ _ _ => F8)
      refine Hold.out (LCg.CompEnd.intro F8 N8 _ (fun _ h => .tail _ h) off9 (.inr ⟨_, (.tail _ (.tail _ (.tail _ (.tail _ (.head _))))), rfl, _, rfl⟩) ⟨rfl, ?_⟩)
      rw [hd1, hd2, firstsOf, hit, List.append_nil]
    | cons x tl =>
      simp only [List.map_cons, List.isEmpty_cons, Bool.not_false]
      k_steps
      (rename News _ _ _ _ => N8); (rename Fr _ _ _ _ => F8)
      refine item_led (k := 0) (vs := R.it.map fun x => Value.ref x.2.2) (c := R.c) N8 (.tail _ (.tail _ (.tail _ (.tail _ (.tail _ (.tail _ (.tail _ (.tail _ (.tail _ hRm9))))))))) (by decide) (by decide) (x := Value.ref x.2.2) (by rw [hit]; rfl) ?_
      k_steps
      (rename News _ _ _ _ => N8); (rename Fr _ _ _ _ => F8)
      refine Hold.out (LCg.CompEnd.intro F8 N8 _ (fun _ h => .tail _ h) off9 (.inr ⟨_, (.tail _ (.tail _ (.tail _ (.tail _ (.head _))))), rfl, _, rfl⟩) ⟨rfl, ?_⟩)
      rw [hd1, hd2, firstsOf, hit]
  · rintro ys nx ⟨rfl, hys⟩
    unfold LCg.FinA
    intro D1 h tk F9 N9 o1'
    have hra : (ra, instObj 440 dx) ∈ rowsLed rws ++ rest := List.mem_append_right _ S.ra
    rw [List.size_toArray, m2, Nat.sub_self, List.drop_zero] at hys
    k_steps
    (rename News _ _ _ _ => N5); (rename Fr _ _ _ _ => F5)
    refine Hold.out (eq_nil (vs := []) N5 (.tail _ (.tail _ (.tail _ (.head _)))) (.head _) (Nat.le_of_ble_eq_true rfl) ?_)
    simp only [List.isEmpty_nil]
    k_steps
    (rename News _ _ _ _ => N5); (rename Fr _ _ _ _ => F5)
    refine Hold.out (ne_nil (vs := ys) (c := ys.length) N5 (.tail _ (.tail _ (.head _))) (.head _) (Nat.le_of_ble_eq_true rfl) ?_)
    cases ys with
    | nil =>
      have hT9 : Told w rest ((mvOf rws)[0]?.getD mv) td := by rw [firsts_nil hys.symm]; exact S.td
      simp only [List.isEmpty_nil, Bool.not_true]
      k_steps
      refine Hold.out ?_
      (rename News _ _ _ _ => N4); (rename Fr _ _ _ _ => F4)
      k_dflt (refine' so_use ?B ?F ?X ?N ?T ?k ?ra ?dx ?R9 ?hT ?hd ?hu ?_; (case B => exact B); (case F => exact F4); (case X => exact X); (case N => exact N4); (case T => exact T); (case k => exact rfl); (case ra => exact (.tail _ (.tail _ (.tail _ (.tail _ (.tail _ (.tail _ (.tail _ (.tail _ hra))))))))); (case dx => exact (.tail _ (.tail _ (.tail _ (.head _))))); (case R9 => exact hR); (case hT => exact hT9.mono fun z hz => (.tail _ (.tail _ (.tail _ (.tail _ (.tail _ (.tail _ (.tail _ (.tail _ (List.mem_append_right _ hz)))))))))); (case hd => decide); (case hu => decide))
      k_whole
      intro h' tk' F' N'
      k_steps
      (rename Fr _ _ _ _ => F3)
      exact ret _ _ _ F3
    | cons y ys =>
      obtain ⟨td2, mv2, rfl, e2, hT2⟩ := firsts_cons S.tds hys.symm
      have hT9 : Told w rest ((mvOf rws)[0]?.getD mv) td2 := by rw [e2]; exact hT2
      simp only [List.isEmpty_cons, Bool.not_false]
      k_steps
      refine Hold.out ?_
      (rename News _ _ _ _ => N4); (rename Fr _ _ _ _ => F4)
      k_dflt (refine' so_use ?Bz ?Fz ?Xz ?Nz ?Tz ?kz ?raz ?dxz ?R9z ?hTz ?hdz ?huz ?_; (case Bz => exact B); (case Fz => exact F4); (case Xz => exact X); (case Nz => exact N4); (case Tz => exact T); (case kz => exact rfl); (case raz => exact (.tail _ (.tail _ (.tail _ (.tail _ (.tail _ (.tail _ (.tail _ (.tail _ hra))))))))); (case dxz => exact (.tail _ (.tail _ (.tail _ (.head _))))); (case R9z => exact hR); (case hTz => exact hT9.mono fun z hz => (.tail _ (.tail _ (.tail _ (.tail _ (.tail _ (.tail _ (.tail _ (.tail _ (List.mem_append_right _ hz)))))))))); (case hdz => decide); (case huz => decide))
      k_whole
      intro h' tk' F' N'
      k_steps
      (rename Fr _ _ _ _ => F3)
      exact ret _ _ _ F3
end Mine
end

section
open PySem PySem.W PyProof.Rows PyProof.V PySem.Spec
namespace Mine
example : True := by w_top off; trivial
theorem start_perm {a b c d e f g : Addr × Obj} {l : Led} : ∀ x ∈ e :: f :: g :: d :: c :: b :: l, x ∈ a :: b :: c :: d :: e :: f :: g :: l := fun x hx => by
  simp only [List.mem_cons] at hx ⊢
  grind
theorem Sit.start {w : World} {ra dx rs p rm rsc d : Addr} {es : List DictEntry} {pn k : Int} {rest : Led} {o : Obj} (R : RunD rs .none es) (h1 : 0 ≤ pn) (h2 : 0 ≤ k) (hra : (ra, instObj 440 dx) ∈ rest) (off : OwnOff rest [dx, rs, p]) (d1 : @Ne Nat dx rs) (d2 : @Ne Nat dx p) (d3 : @Ne Nat rs p)
    (a1 : @LT.lt Nat _ dx rm ∧ @LT.lt Nat _ rs rm ∧ @LT.lt Nat _ p rm ∧ AllLt rm rest) (a2 : @LT.lt Nat _ rm rsc ∧ @LT.lt Nat _ dx rsc ∧ @LT.lt Nat _ rs rsc ∧ @LT.lt Nat _ p rsc ∧ AllLt rsc rest)
    (a3 : @LT.lt Nat _ rsc d ∧ @LT.lt Nat _ rm d ∧ @LT.lt Nat _ dx d ∧ @LT.lt Nat _ rs d ∧ @LT.lt Nat _ p d ∧ AllLt d rest) (hl : (d == sysModules) = false) (hs : o.IsDictOf (PySem.strKind PySem.Challenge.rw_nz0194_01.row.prog w) []) (fs : FlatPairs PyData.str [] []) :
    Sit w ra dx rs p rm rsc 0 es pn k [] [] ((d, o) :: rest) .none d := by
  obtain ⟨b1, b2, b3, b4⟩ := a1
  obtain ⟨c1, c2, c3, c4, c5⟩ := a2
  obtain ⟨e1, e2, e3, e4, e5, e6⟩ := a3
  refine ⟨R, h1, h2, .tail _ hra, .nil, fun _ h => (nomatch h), rfl, ⟨none, [], .none, ⟨hl, _, [], .head _, hs, fs⟩, Tells.empty⟩, ?_, ?_, Nat.le_refl _, Nat.le_refl _⟩
  · refine ownOff_step (fun b hb => ?_) fun z hz b hb => ?_
    · simp only [List.mem_cons, List.map_nil, List.not_mem_nil, or_false] at hb
      refine Nat.ne_of_gt ?_
      rcases hb with rfl | rfl | rfl | rfl | rfl <;> assumption
    · simp only [List.mem_cons, List.map_nil, List.not_mem_nil, or_false] at hb
      rcases hb with rfl | rfl | rfl | rfl | rfl
      · exact off z hz _ (.head _)
      · exact off z hz _ (.tail _ (.head _))
      · exact off z hz _ (.tail _ (.tail _ (.head _)))
      · exact Nat.ne_of_lt (of_allLt b4 z hz)
      · exact Nat.ne_of_lt (of_allLt c5 z hz)
  · simp only [List.nodup_cons, List.mem_cons, List.map_nil, List.not_mem_nil, or_false, not_or, List.nodup_nil, and_true, not_false_eq_true]
    exact ⟨⟨d1, d2, Nat.ne_of_lt b1, Nat.ne_of_lt c2⟩, ⟨d3, Nat.ne_of_lt b2, Nat.ne_of_lt c3⟩, ⟨Nat.ne_of_lt b3, Nat.ne_of_lt c4⟩, Nat.ne_of_lt c1⟩
set_option maxRecDepth 100000 in
set_option maxHeartbeats 8000000 in
theorem seg2 (w : World) (mean : ExcName → Option Value) (mg mb : Str → Option Value) (fa L : Addr) (cd : Value) (base h₀ : Heap) (m : Str → Option Value) (s : Shared) (Q : Flow → Shared → Prop) (E1 : Value → Shared → Prop)
    (ra dx rs p : Addr) (es : List DictEntry) (n0 cs pc : Nat) (pn : Int) (pt pu : Tok) (rest : Led)
    (B : Below callerA base [] h₀) (F : Fr h₀ L s.heap (fun y => if y = Str.ofString "run" then some (.ref ra) else if y = Str.ofString "pen" then some (.ref p) else m y)) (X : (hd.heap_1 w.params).In h₀)
    (N : News h₀ L s.heap ((dx, dictOf es n0) :: (rs, listOf #[] cs) :: (p, penO pn pt 0 pu pc) :: rest)) (T : Top view lo mean mg mb h₀)
    (hpn : 0 ≤ pn) (R : RunD rs .none es) (hra : (ra, instObj 440 dx) ∈ rest) (off : OwnOff rest [dx, rs, p]) (d1 : @Ne Nat dx rs) (d2 : @Ne Nat dx p) (d3 : @Ne Nat rs p)
    (ret : ∀ h' tk' m', Fr h₀ L h' m' → Q (.ret (.bool true)) { s with heap := h', toks := tk' }) :
    wpAny (model PySem.Challenge.rw_nz0194_01.row.prog w) (callerA.deeper (envOf "law" (fS f_53) L fa cd)) (execs [nth lawB 6, nth lawB 7, nth lawB 8, nth lawB 9, nth lawB 10] (envOf "law" (fS f_53) L fa cd)) Q
      (fun e s' => wpAny (model PySem.Challenge.rw_nz0194_01.row.prog w) (callerA.deeper (envOf "law" (fS f_53) L fa cd)) (leaving (envOf "law" (fS f_53) L fa cd) e) (fun _ s'' => E1 e s'') (fun e' s'' => E1 e' s'') s') s := by
  revert X; k_fill; intro X
  conv in (nth lawB 6) => whnf
  conv in (nth lawB 7) => whnf
  conv in (nth lawB 8) => whnf
  conv in (nth lawB 9) => whnf
  conv in (nth lawB 10) => whnf
  generalize hS : fS f_53 = S
  conv at hS => lhs; whnf
  subst hS
  have off' := off
  k_steps
  refine Hold.out ?_
  (rename IsRange _ _ _ _ _ _ _ _ => hR9); (rename News _ _ _ _ => N9); (rename Fr _ _ _ _ => F9)
  (rename Obj.IsDictOf (PySem.strKind _ _) _ _ => hs9); (rename FlatPairs PyData.str _ _ => fs9); (rename (_ == sysModules) = false => lo9)
  have N8 := cb_drop N9 start_perm
  refine' range_J (Inv w ra dx rs p _ _) rfl hR9 ?e1 ?e2 F9 N8 ⟨es, n0, cs, _, _, _, _, _, [], 0, 0, [], _, .none, _, rfl, Sit.start R (by assumption) (by assumption) hra off d1 d2 d3 (by assumption) (by assumption) (by assumption) lo9 hs9 fs9, ⟨rfl, rfl, rfl, rfl, rfl⟩⟩ ?turn ?done
  case e1 => exact (small_range (by omega) (by omega) (by omega)).1
  case e2 => exact (small_range (by omega) (by omega) (by omega)).2
  case turn =>
    rintro i t9 m₁ nx I oI h tk hi ⟨es', n', c1', pn', pt', k', pu', c', ms, c2', c3', rws, rest', mv, td, rfl, S', V'⟩ hI F' N'
    exact turn w mean mg mb fa L cd base h₀ m₁ _ h tk _ E1 ra dx rs p _ _ i _ _ _ _ _ _ _ _ _ _ _ _ _ _ _ I oI _ B F' X N' T (by omega) S' V' hI
  case done =>
    rintro m₁ nx h tk ⟨es', n', c1', pn', pt', k', pu', c', ms, c2', c3', rws, rest', mv, td, rfl, S', V'⟩ F' N'
    exact foot w mean mg mb fa L cd base h₀ m₁ _ h tk Q E1 ra dx rs p _ _ _ _ _ _ _ _ _ _ _ _ _ _ _ _ _ _ B F' X N' T (by omega) S' V' fun h' tk' m' F' => ret h' tk' m' F'
end Mine
end

end
section
open PySem PySem.W PyProof.Rows PyProof.V PySem.Spec
namespace Mine
section
variable {w : World} {mean : ExcName → Option Value} {mg mb : Str → Option Value} {dp un : Nat} {gd' : Option (List Code)} {cn' : Str} {cs : Scope} {a : Addr} {ccd : Value} {cl : List (Str × Addr)} {outer : List Env} {A₀ : Around} {base h₀ : Heap} {L : Addr} {m : Str → Option Value} {s : Shared} {Q E : Value → Shared → Prop}
theorem specials_use {st sd hp hdx gd : Addr} {lm z : Value} {ses hes : List DictEntry} {sn hn : Nat} {og : Obj} {t tg : Tok} {k : Int} {led : Led}
    (B : Below A₀ base outer h₀) (F : Fr h₀ L s.heap m) (X : (hd.heap_1 w.params).In h₀) (N : News h₀ L s.heap ((gd, og) :: (hdx, dictOf hes hn) :: led)) (T : Top view lo mean mg mb h₀) (hk : cs.kind = .function)
    (hst : (st, instObj 525 sd) ∈ led) (hsd : (sd, dictOf ses sn) ∈ led) (DS : EsOf w.params ses (stL hp gd tg)) (hhp : (hp, instObj 161 hdx) ∈ led) (DH : EsOf w.params hes (hpL lm k t z))
    (hog : og.IsDictOf (SK w) []) (glo : (gd == sysModules) = false) (off : OwnOff led [gd, hdx]) (hne : gd ≠ hdx) (hd : dp + 22 < recursionLimit) (hu : un + 240 < cLine)
    (ret : ∀ og kvs new oh t1 t2 h' tk', og.IsDictOf (SK w) kvs → SpOne w new kvs "main::\"" (.str " " t1) → SpOne w new kvs "main::;" (.str "\x1c" t2) → Fr h₀ L h' m → News h₀ L h' ((gd, og) :: (hdx, oh) :: (new ++ led)) → Q .none { s with heap := h', toks := tk' }) :
    wpAny (model PySem.Challenge.rw_nz0194_01.row.prog w) (ktrTop dp un gd' cn' cs L a ccd cl outer) (call (.ref 207) [.ref st]) Q E s := by
  refine specials w st sd hp hdx gd lm z ses hes sn hn og t tg k led hst hsd DS hhp DH hog glo off hne mean mg mb dp un gd' cn' cs a ccd cl outer A₀ base h₀ L m s Q E B F X N T hk hd hu ?_
  rintro r led' h' tk' ⟨rfl, og, kvs, new, oh, t1, t2, rfl, h1, h2, h3⟩ F' N'
  exact ret _ _ _ _ _ _ _ _ h1 h2 h3 F' N'
theorem old_use {st sd gd g gx sc hp : Addr} {ses ges : List DictEntry} {sn gn : Nat} {og : Obj} {kvs : List (Str × Value)} {x : Str} {tx tg : Tok} {gnum gcnt gwk nm : Value} {led : Led}
    (B : Below A₀ base outer h₀) (F : Fr h₀ L s.heap m) (X : (hd.heap_1 w.params).In h₀) (N : News h₀ L s.heap ((gd, og) :: led)) (T : Top view lo mean mg mb h₀) (hk : cs.kind = .function)
    (hst : (st, instObj 525 sd) ∈ led) (hsd : (sd, dictOf ses sn) ∈ led) (hg : (g, instObj 78 gx) ∈ led) (hgx : (gx, dictOf ges gn) ∈ led) (DS : EsOf w.params ses (stL hp gd tg)) (DG : EsOf w.params ges (gbL gnum gcnt gwk nm (.ref sc)))
    (hog : og.IsDictOf (SK w) kvs) (hkx : valueAt kvs x = some (.ref g)) (glo : (gd == sysModules) = false) (hd : dp + 20 < recursionLimit) (hu : un + 200 < cLine)
    (ret : ∀ h' tk', Fr h₀ L h' m → News h₀ L h' ((gd, og) :: led) → Q (.ref sc) { s with heap := h', toks := tk' }) :
    wpAny (model PySem.Challenge.rw_nz0194_01.row.prog w) (ktrTop dp un gd' cn' cs L a ccd cl outer) (call (.ref 494) [.ref st, .str x tx]) Q E s := by
  refine scalar_old w st sd gd g gx sc hp ses ges sn gn og kvs x tx tg gnum gcnt gwk nm led hst hsd hg hgx DS DG hog hkx glo mean mg mb dp un gd' cn' cs a ccd cl outer A₀ base h₀ L m s Q E B F X N T hk hd hu ?_
  rintro r led' h' tk' ⟨rfl, rfl⟩ F' N'
  exact ret _ _ F' N'
end
theorem RunD.ofEs {P : Params} {es : List DictEntry} {l : List (Str × Value)} {rs : Addr} (D : EsOf P es l) (h1 : l.lookup (Str.ofString "match") = some .none) (h2 : l.lookup (Str.ofString "saves") = some (.ref rs)) (h3 : l.length ≤ 100) : RunD rs .none es :=
  ⟨D.getO h1, D.getO h2, by rw [D.len]; exact h3, rfl⟩
theorem fr_two {h₀ h : Heap} {L : Addr} {m : Str → Option Value} {x y : Str} {a b : Value} (F : Fr h₀ L h m) (h1 : m x = some a) (h2 : m y = some b) : Fr h₀ L h (fun z => if z = x then some a else if z = y then some b else m z) := by
  have e : m = fun z => if z = x then some a else if z = y then some b else m z := by
    funext z
    split
    · rename_i e; rw [e]; exact h1
    split
    · rename_i e; rw [e]; exact h2
    rfl
  rw [← e]; exact F
end Mine
end

section
open PySem PySem.W PyProof.Rows PyProof.V PySem.Spec
namespace Mine
example : True := by w_top off; trivial
local macro_rules | `(tactic| walk_at "getAttr ref") => `(tactic| (k_here; k_dflt (refine' get_own ?k1 ?k2 ?k3 ?k4 ?k5 ?k6 ?k7 ?k8 ?k9 ?_; (case k1 | k2 => k_asm); (case k3 => k_inst); (case k4 | k5 | k6 | k7 => k_is); (case k8 => first | with_reducible assumption | exact EsOf.getO (by with_reducible assumption) (by exact rfl)); (case k9 => rfl); k_whole); (try dsimp only)))
local macro_rules | `(tactic| walk_at "getMethod ref") => `(tactic| (k_here; k_dflt (refine' method_inst ?k1 ?k2 ?k3 ?k4 ?k5 ?k6 ?k7 ?_; (case k1 | k2 => k_asm); (case k3 => k_inst); (case k4 | k5 | k6 => k_is); (case k7 => exact EsOf.getO (by with_reducible assumption) (by exact rfl)); k_whole); (try dsimp only [List.cons_append, List.nil_append, List.append_nil])))
local macro_rules | `(tactic| walk_at "call ref") => `(tactic| (k_here; (with_reducible show wpAny _ _ (call (Value.ref 494) _) _ _ _); refine Hold.of ?_))
local macro_rules | `(tactic| walk_at "execs cons") => `(tactic| (k_here; (with_reducible show wpAny _ _ (execs [Stmt.Assign [Expr.Tuple _ _ _] _ _, _, _, _, _] _) _ _ _); refine Hold.of ?_))
theorem seg_perm {a b c d e f g : Addr × Obj} {l : Led} : ∀ x ∈ [c, f, g, b], x ∈ a :: b :: c :: d :: e :: f :: g :: l := fun x hx => by
  simp only [List.mem_cons, List.not_mem_nil, or_false] at hx ⊢
  grind
set_option maxRecDepth 100000 in
set_option maxHeartbeats 8000000 in
theorem seg1 (w : World) (mean : ExcName → Option Value) (mg mb : Str → Option Value) (fa L : Addr) (cd : Value) (base h₀ : Heap) (m : Str → Option Value) (s : Shared) (Q : Flow → Shared → Prop) (E1 : Value → Shared → Prop)
    (ra dx rs p st sd gd hp : Addr) (es ses : List DictEntry) (n0 cs pc sn : Nat) (pn : Int) (pt pu tg t1 t2 : Tok) (new : Led) (og : Obj) (kvs : List (Str × Value))
    (B : Below callerA base [] h₀) (F : Fr h₀ L s.heap (fun y => if y = Str.ofString "run" then some (.ref ra) else if y = Str.ofString "pen" then some (.ref p) else m y)) (X : (hd.heap_1 w.params).In h₀)
    (N : News h₀ L s.heap ((gd, og) :: (ra, instObj 440 dx) :: (dx, dictOf es n0) :: (st, instObj 525 sd) :: (sd, dictOf ses sn) :: (rs, listOf #[] cs) :: (p, penO pn pt 0 pu pc) :: new)) (T : Top view lo mean mg mb h₀)
    (hpn : 0 ≤ pn) (R : RunD rs .none es) (hst : getL (Str.ofString "stash") es = some (some (.ref st))) (DS : EsOf w.params ses (stL hp gd tg)) (hog : og.IsDictOf (SK w) kvs) (glo : (gd == sysModules) = false)
    (sp1 : SpOne w new kvs "main::\"" (.str " " t1)) (sp2 : SpOne w new kvs "main::;" (.str "\x1c" t2))
    (o1 : @Ne Nat ra dx) (o2 : @Ne Nat ra rs) (o3 : @Ne Nat ra p) (d1 : @Ne Nat dx rs) (d2 : @Ne Nat dx p) (d3 : @Ne Nat rs p)
    (ret : ∀ h' tk' m', Fr h₀ L h' m' → Q (.ret (.bool true)) { s with heap := h', toks := tk' }) :
    wpAny (model PySem.Challenge.rw_nz0194_01.row.prog w) (callerA.deeper (envOf "law" (fS f_53) L fa cd)) (execs [nth lawB 5, nth lawB 6, nth lawB 7, nth lawB 8, nth lawB 9, nth lawB 10] (envOf "law" (fS f_53) L fa cd)) Q
      (fun e s' => wpAny (model PySem.Challenge.rw_nz0194_01.row.prog w) (callerA.deeper (envOf "law" (fS f_53) L fa cd)) (leaving (envOf "law" (fS f_53) L fa cd) e) (fun _ s'' => E1 e s'') (fun e' s'' => E1 e' s'') s') s := by
  revert X; k_fill; intro X
  conv in (nth _ 5) => whnf
  conv in (nth _ 6) => whnf
  conv in (nth _ 7) => whnf
  conv in (nth _ 8) => whnf
  conv in (nth _ 9) => whnf
  conv in (nth _ 10) => whnf
  generalize hS : fS f_53 = sc
  conv at hS => lhs; whnf
  subst hS
  obtain ⟨_, _, _, _, _, _, _, _, _, _, _, _, _, _, _, hz1v, hz1g, hz1gx, hz1sc, hz1scx, Dz1G, Dz1C⟩ := sp1
  obtain ⟨_, _, _, _, _, _, _, _, _, _, _, _, _, _, _, hz2v, hz2g, hz2gx, hz2sc, hz2scx, Dz2G, Dz2C⟩ := sp2
  k_steps
  refine Hold.out ?_
  (rename News _ _ _ _ => N9); (rename Fr _ _ _ _ => F9)
  k_dflt (refine' old_use ?z1B ?z1F ?z1X ?z1N ?z1T ?z1k ?z1st ?z1sd ?z1g ?z1gx ?z1DS ?z1DG ?z1og ?z1kx ?z1lo ?z1hd ?z1hu ?_; (case z1B => exact B); (case z1F => exact F9); (case z1X => exact X); (case z1N => exact N9); (case z1T => exact T); (case z1k => exact rfl); (case z1st => exact (.tail _ (.tail _ (.head _)))); (case z1sd => exact (.tail _ (.tail _ (.tail _ (.head _))))); (case z1g => exact (.tail _ (.tail _ (.tail _ (.tail _ (.tail _ (.tail _ hz1g))))))); (case z1gx => exact (.tail _ (.tail _ (.tail _ (.tail _ (.tail _ (.tail _ hz1gx))))))); (case z1DS => exact DS); (case z1DG => exact Dz1G); (case z1og => exact hog); (case z1kx => exact hz1v); (case z1lo => exact glo); (case z1hd => decide); (case z1hu => decide))
  k_whole
  intro h' tk' F' N'
  k_steps
  refine Hold.out ?_
  (rename News _ _ _ _ => N9); (rename Fr _ _ _ _ => F9)
  k_dflt (refine' old_use ?z2B ?z2F ?z2X ?z2N ?z2T ?z2k ?z2st ?z2sd ?z2g ?z2gx ?z2DS ?z2DG ?z2og ?z2kx ?z2lo ?z2hd ?z2hu ?_; (case z2B => exact B); (case z2F => exact F9); (case z2X => exact X); (case z2N => exact N9); (case z2T => exact T); (case z2k => exact rfl); (case z2st => exact (.tail _ (.tail _ (.head _)))); (case z2sd => exact (.tail _ (.tail _ (.tail _ (.head _))))); (case z2g => exact (.tail _ (.tail _ (.tail _ (.tail _ (.tail _ (.tail _ hz2g))))))); (case z2gx => exact (.tail _ (.tail _ (.tail _ (.tail _ (.tail _ (.tail _ hz2gx))))))); (case z2DS => exact DS); (case z2DG => exact Dz2G); (case z2og => exact hog); (case z2kx => exact hz2v); (case z2lo => exact glo); (case z2hd => decide); (case z2hu => decide))
  k_whole
  intro h' tk' F' N'
  k_steps
  (rename News _ _ _ _ => N9); (rename Fr _ _ _ _ => F9)
  exact Hold.out (seg2 w mean mg mb fa L cd base h₀ _ _ Q E1 ra dx rs p es n0 cs pc pn pt pu [(ra, instObj 440 dx)] B F9 X (cb_drop N9 seg_perm) T hpn R (.head _) (ownOff_one (by simpa using ⟨o1, o2, o3⟩)) d1 d2 d3 fun h' tk' m' F' => ret h' tk' m' F')
end Mine
end

section
open PySem PySem.W PyProof.Rows PyProof.V PySem.Spec
namespace Mine
section
variable {prog : Program} {w : World} {A : Around} {E : Value → Shared → Prop} {s : Shared} {h₀ : Heap} {L : Addr} {m : Str → Option Value} {K : Frag} {C x dx d : Addr} {ox o : Obj} {es : List DictEntry} {n : Nat} {l l' : List (Str × Value)} {name : Str} {v : Value} {rest : Led}
theorem es_B {Q : Unit → Shared → Prop} (F : Fr h₀ L s.heap m) (X : K.In h₀) (N : News h₀ L s.heap ((dx, dictOf es n) :: rest)) (off : OwnOff rest [dx]) (I : InstAt s.heap x ox C (some (dictOf es n))) (hd : ox.dict = some dx)
    (hs : findIn K (.ref C) "__setattr__" = some (some (.builtin "object.__setattr__"))) (hp : plainOver K C = true) (ht : takerIn K C name = some none) (hh : hasDictIn K C = true)
    (D : EsOf w.params es l) (hl : putA name v l = l') (hz : l'.length ≤ 1000)
    (ret : ∀ es' n' h' tk', EsOf w.params es' l' → Fr h₀ L h' m → News h₀ L h' ((dx, dictOf es' n') :: rest) → Q () { s with heap := h', toks := tk' }) :
    wpAny (model prog w) A (setAttr (.ref x) name v) Q E s :=
  es_set F X N I hd hs hp ht hh (UpdF.head fun p hp => off p hp dx (.head _)) D hl hz ret
theorem es_K {Q : Unit → Shared → Prop} (F : Fr h₀ L s.heap m) (X : K.In h₀) (N : News h₀ L s.heap ((d, o) :: (dx, dictOf es n) :: rest)) (off : OwnOff rest [dx]) (hne : @Ne Nat d dx) (I : InstAt s.heap x ox C (some (dictOf es n))) (hd : ox.dict = some dx)
    (hs : findIn K (.ref C) "__setattr__" = some (some (.builtin "object.__setattr__"))) (hp : plainOver K C = true) (ht : takerIn K C name = some none) (hh : hasDictIn K C = true)
    (D : EsOf w.params es l) (hl : putA name v l = l') (hz : l'.length ≤ 1000)
    (ret : ∀ es' n' h' tk', EsOf w.params es' l' → OwnOff ((d, o) :: rest) [dx] → Fr h₀ L h' m → News h₀ L h' ((dx, dictOf es' n') :: (d, o) :: rest) → Q () { s with heap := h', toks := tk' }) :
    wpAny (model prog w) A (setAttr (.ref x) name v) Q E s :=
  es_set F X N I hd hs hp ht hh (UpdF.tail hne (UpdF.head fun p hp => off p hp dx (.head _))) D hl hz fun es' n' h' tk' D' F' N' =>
    ret es' n' h' tk' D' (ownOff_step (fun b hb => List.mem_singleton.mp hb ▸ hne) off) F' (cb_drop N' fun p hp => by
      rcases List.mem_cons.mp hp with e | hp
      · exact .tail _ (e ▸ .head _)
      · rcases List.mem_cons.mp hp with e | hp
        · exact e ▸ .head _
        · exact .tail _ (.tail _ hp))
theorem es_C {Q : Unit → Shared → Prop} (F : Fr h₀ L s.heap m) (X : K.In h₀) (N : News h₀ L s.heap ((d, o) :: (dx, dictOf es n) :: rest)) (off : OwnOff rest [dx]) (hne : @Ne Nat d dx) (_hname : (name == Str.ofString "saves" || name == Str.ofString "globs") = false) (I : InstAt s.heap x ox C (some (dictOf es n))) (hd : ox.dict = some dx)
    (hs : findIn K (.ref C) "__setattr__" = some (some (.builtin "object.__setattr__"))) (hp : plainOver K C = true) (ht : takerIn K C name = some none) (hh : hasDictIn K C = true)
    (D : EsOf w.params es l) (hl : putA name (.ref d) l = l') (hz : l'.length ≤ 1000)
    (ret : ∀ es' n' h' tk', EsOf w.params es' l' → Fr h₀ L h' m → News h₀ L h' ((dx, dictOf es' n') :: rest) → Q () { s with heap := h', toks := tk' }) :
    wpAny (model prog w) A (setAttr (.ref x) name (.ref d)) Q E s :=
  es_set F X N I hd hs hp ht hh (UpdF.tail hne (UpdF.head fun p hp => off p hp dx (.head _))) D hl hz fun es' n' h' tk' D' F' N' =>
    ret es' n' h' tk' D' F' (cb_drop N' fun p hp => .tail _ hp)
end
theorem off_lt {d : Addr} {led : Led} (h : AllLt d led) : OwnOff led [d] := fun z hz b hb => List.mem_singleton.mp hb ▸ Nat.ne_of_lt (of_allLt h z hz)
theorem AllLt.ne0 {d a : Addr} {o : Obj} {r : Led} (h : AllLt d ((a, o) :: r)) : @Ne Nat d a := Nat.ne_of_gt h.1
theorem AllLt.at {d a : Addr} {o : Obj} {r : Led} (h : AllLt d r) (hm : (a, o) ∈ r) : @LT.lt Nat _ a d := of_allLt h _ hm
end Mine
end

section
open PySem PySem.W PyProof.Rows PyProof.V PySem.Spec
namespace Mine
example : True := by w_top off; trivial
local macro_rules | `(tactic| walk_at "call ref") => `(tactic| (k_here; (with_reducible show wpAny _ _ (call (Value.ref 299) _) _ _ _); k_dflt (refine' is_use ?B ?F ?X ?N ?T ?k ?hp ?hd ?hu ?_; (case B => k_asm); (case F => k_asm); (case X => k_asm); (case N => k_asm); (case T => k_asm); (case k => first | exact rfl | assumption); (case hp => with_reducible assumption); (case hd => decide); (case hu => decide); k_whole; intro h' tk' F' N'; (try k_sweep); (try k_fold))))
local macro_rules | `(tactic| walk_at "eval ListComp") => `(tactic| (k_here; k_dflt (refine ListComp_Tup (by k_asm) (by with_unfolding_all rfl) (by decide) (by rfl) (by decide) (by rfl) ?_)))
local macro_rules | `(tactic| walk_at "TupSrc") => `(tactic| (refine Hold.of ?_))
local macro_rules | `(tactic| walk_at "CompEnd") => `(tactic| (refine Hold.of ?_))
local macro_rules | `(tactic| walk_at "call ref") => `(tactic| (k_here; (with_reducible show wpAny _ _ (call (Value.ref 207) _) _ _ _); refine Hold.of ?_))
local macro_rules | `(tactic| walk_at "getAttr ref") => `(tactic| (k_here; k_dflt (refine' get_own ?k1 ?k2 ?k3 ?k4 ?k5 ?k6 ?k7 ?k8 ?k9 ?_; (case k1 | k2 => k_asm); (case k3 => k_inst); (case k4 | k5 | k6 | k7 => k_is); (case k8 => first | with_reducible assumption | exact EsOf.getO (by with_reducible assumption) (by exact rfl)); (case k9 => rfl); k_whole); (try dsimp only)))
local macro_rules | `(tactic| walk_at "execs cons") => `(tactic| (k_here; (with_reducible show wpAny _ _ (execs [Stmt.If _ _ _ _, Stmt.Assign [Expr.Tuple _ _ _] _ _, _, _, _, _] _) _ _ _); refine Hold.of ?_))
theorem law_perm2 {a b s1 s2 s3 s4 s5 s6 s7 : Addr × Obj} {l : Led} : ∀ x ∈ a :: s4 :: s5 :: s1 :: s2 :: s6 :: s7 :: l, x ∈ a :: b :: (l ++ [s1, s2, s3, s4, s5, s6, s7]) := fun x hx => by
  simp only [List.mem_cons, List.mem_append, List.not_mem_nil, or_false] at hx ⊢
  grind
theorem chain_off {p hdx hp sd st gd dx ra rs : Nat} {o1 o2 o3 o4 o5 o6 o7 : Obj} (c1 : p < hdx) (c2 : hdx < hp) (c3 : hp < sd) (c4 : sd < st) (c5 : st < gd) (c6 : gd < dx) (c7 : dx < ra) (c8 : ra < rs) :
    OwnOff [(st, o1), (sd, o2), (hp, o3), (ra, o4), (dx, o5), (rs, o6), (p, o7)] [gd, hdx] := by
  have key : ∀ y : Nat, (y < gd ∧ hdx < y) ∨ gd < y ∨ y < hdx → ∀ b ∈ [gd, hdx], y ≠ b := fun y hy b hb => by
    simp only [List.mem_cons, List.not_mem_nil, or_false] at hb
    rcases hb with rfl | rfl <;> omega
  have h1 : hdx < sd := Nat.lt_trans c2 c3
  have h2 : hdx < st := Nat.lt_trans h1 c4
  have h3 : gd < ra := Nat.lt_trans c6 c7
  have h4 : sd < gd := Nat.lt_trans c4 c5
  exact ownOff_step (key _ (.inl ⟨c5, h2⟩)) (ownOff_step (key _ (.inl ⟨h4, h1⟩)) (ownOff_step (key _ (.inl ⟨Nat.lt_trans c3 h4, c2⟩)) (ownOff_step (key _ (.inr (.inl h3))) (ownOff_step (key _ (.inr (.inl c6))) (ownOff_step (key _ (.inr (.inl (Nat.lt_trans h3 c8)))) (ownOff_step (key _ (.inr (.inr c1))) fun _ h => (nomatch h)))))))
set_option maxRecDepth 100000 in
set_option maxHeartbeats 8000000 in
theorem seg0 (w : World) (mean : ExcName → Option Value) (mg mb : Str → Option Value) (fa L : Addr) (cd : Value) (base h₀ : Heap) (m : Str → Option Value) (s : Shared) (Q : Flow → Shared → Prop) (E1 : Value → Shared → Prop)
    (ra dx rs p st sd gd hp hdx : Addr) (es ses hes : List DictEntry) (n0 cs pc sn hn : Nat) (pn k : Int) (pt pu tg t : Tok) (og : Obj) (lm z : Value)
    (B : Below callerA base [] h₀) (F : Fr h₀ L s.heap (fun y => if y = Str.ofString "run" then some (.ref ra) else if y = Str.ofString "pen" then some (.ref p) else m y)) (X : (hd.heap_1 w.params).In h₀)
    (N : News h₀ L s.heap [(gd, og), (hdx, dictOf hes hn), (st, instObj 525 sd), (sd, dictOf ses sn), (hp, instObj 161 hdx), (ra, instObj 440 dx), (dx, dictOf es n0), (rs, listOf #[] cs), (p, penO pn pt 0 pu pc)]) (T : Top view lo mean mg mb h₀)
    (hpn : 0 ≤ pn) (R : RunD rs .none es) (hst : getL (Str.ofString "stash") es = some (some (.ref st))) (DS : EsOf w.params ses (stL hp gd tg)) (DH : EsOf w.params hes (hpL lm k t z)) (hog : og.IsDictOf (SK w) []) (glo : (gd == sysModules) = false)
    (c1 : @LT.lt Nat _ p hdx) (c2 : @LT.lt Nat _ hdx hp) (c3 : @LT.lt Nat _ hp sd) (c4 : @LT.lt Nat _ sd st) (c5 : @LT.lt Nat _ st gd) (c6 : @LT.lt Nat _ gd dx) (c7 : @LT.lt Nat _ dx ra) (c8 : @LT.lt Nat _ ra rs)
    (ret : ∀ h' tk' m', Fr h₀ L h' m' → Q (.ret (.bool true)) { s with heap := h', toks := tk' }) :
    wpAny (model PySem.Challenge.rw_nz0194_01.row.prog w) (callerA.deeper (envOf "law" (fS f_53) L fa cd)) (execs [nth lawB 3, nth lawB 4, nth lawB 5, nth lawB 6, nth lawB 7, nth lawB 8, nth lawB 9, nth lawB 10] (envOf "law" (fS f_53) L fa cd)) Q
      (fun e s' => wpAny (model PySem.Challenge.rw_nz0194_01.row.prog w) (callerA.deeper (envOf "law" (fS f_53) L fa cd)) (leaving (envOf "law" (fS f_53) L fa cd) e) (fun _ s'' => E1 e s'') (fun e' s'' => E1 e' s'') s') s := by
  revert X; k_fill; intro X
  conv in (nth _ 3) => whnf
  conv in (nth _ 4) => whnf
  conv in (nth _ 5) => whnf
  conv in (nth _ 6) => whnf
  conv in (nth _ 7) => whnf
  conv in (nth _ 8) => whnf
  conv in (nth _ 9) => whnf
  conv in (nth _ 10) => whnf
  generalize hS : fS f_53 = sc
  conv at hS => lhs; whnf
  subst hS
  have off := chain_off (o1 := instObj 525 sd) (o2 := dictOf ses sn) (o3 := instObj 161 hdx) (o4 := instObj 440 dx) (o5 := dictOf es n0) (o6 := listOf #[] cs) (o7 := penO pn pt 0 pu pc) c1 c2 c3 c4 c5 c6 c7 c8
  have e1 : @LT.lt Nat _ p gd := Nat.lt_trans c1 (Nat.lt_trans c2 (Nat.lt_trans c3 (Nat.lt_trans c4 c5)))
  have e2 : @LT.lt Nat _ hdx gd := Nat.lt_trans c2 (Nat.lt_trans c3 (Nat.lt_trans c4 c5))
  have e3 : @LT.lt Nat _ p dx := Nat.lt_trans e1 c6
  k_steps
  refine Hold.out ?_
  (rename News _ _ _ _ => N9); (rename Fr _ _ _ _ => F9); (rename Frag.In _ _ => X9)
  refine ⟨530, _, _, rfl, rfl, F9, N9, ⟨_, X9 _ _ (by k_is), rfl, _, rfl⟩, (by decide), ?_⟩
  intro g9
  refine comp_inv (fun i ys nx => nx = _ ∧ ∀ y ∈ ys, y = Value.bool true) ?_ ?_ ⟨rfl, fun _ h => (nomatch h)⟩
  · rintro i v ys nx I oI C oC D m₂ h tk E' hi ⟨rfl, hys⟩ hv hC hx F' N' off' ne'
    obtain ⟨p9, t9, hp9, hpi, rfl⟩ := names_at hv
    have hq9 := names_is _ hp9
    k_steps
    (rename News _ _ _ _ => N9); (rename Fr _ _ _ _ => F9)
    exact Hold.out (LCg.CompEnd.intro F9 N9 _ (fun _ h => h) off' trivial ⟨rfl, bools_snoc hys⟩)
  · rintro ys nx ⟨rfl, hys⟩
    unfold LCg.FinE
    intro D1 h tk F' N' o1'
    refine in_bools N' (.head _) hys rfl ?_
    replace N' := cb_drop N' fun _ h => List.mem_cons_of_mem _ h
    clear o1'
    k_steps
    refine Hold.out ?_
    (rename News _ _ _ _ => N9); (rename Fr _ _ _ _ => F9)
    refine ⟨531, _, _, rfl, rfl, F9, N9, ⟨_, X9 _ _ (by k_is), rfl, _, rfl⟩, (by decide), ?_⟩
    intro g8
    refine comp_inv (fun i ys nx => nx = _ ∧ ∀ y ∈ ys, y = Value.bool false) ?_ ?_ ⟨rfl, fun _ h => (nomatch h)⟩
    · rintro i v ys nx I oI C oC D m₂ h tk E' hi ⟨rfl, hys⟩ hv hC hx F' N' off' ne'
      obtain ⟨x9, t9, hp9, rfl⟩ := others_at hv
      k_steps
      (rename News _ _ _ _ => N9); (rename Fr _ _ _ _ => F9)
      exact Hold.out (LCg.CompEnd.intro F9 N9 _ (fun _ h => h) off' trivial ⟨rfl, bools_snoc hys⟩)
    · rintro zs nx ⟨rfl, hzs⟩
      unfold LCg.FinE
      intro D2 h tk F' N' o2'
      refine in_bools N' (.head _) hzs rfl ?_
      replace N' := cb_drop N' fun _ h => List.mem_cons_of_mem _ h
      clear o2'
      k_steps
      k_dflt (refine' Hold.out (specials_use ?s9B ?s9F ?s9X N' ?s9T ?s9k (.head _) (.tail _ (.head _)) DS (.tail _ (.tail _ (.head _))) DH hog glo off (Nat.ne_of_gt e2) ?s9hd ?s9hu ?_); (case s9B => exact B); (case s9F => k_asm); (case s9X => exact X9); (case s9T => exact T); (case s9k => exact rfl); (case s9hd => decide); (case s9hu => decide))
      k_whole
      intro og2 kvs2 new oh t1 t2 h' tk' hog2 sp1 sp2 F' N'
      k_steps
      (rename News _ _ _ _ => N6); (rename Fr _ _ _ _ => F6)
      exact Hold.out (seg1 w mean mg mb fa L cd base h₀ m _ Q E1 ra dx rs p st sd gd hp es ses n0 cs pc sn pn pt pu tg _ _ new og2 kvs2 B F6 X9 (cb_drop N6 law_perm2) T hpn R hst DS hog2 glo sp1 sp2 (Nat.ne_of_gt c7) (Nat.ne_of_lt c8) (Nat.ne_of_gt (Nat.lt_trans e3 c7)) (Nat.ne_of_lt (Nat.lt_trans c7 c8)) (Nat.ne_of_gt e3) (Nat.ne_of_gt (Nat.lt_trans (Nat.lt_trans e3 c7) c8)) fun h' tk' m' F' => ret h' tk' m' F')
end Mine
end

section
open PySem PySem.W PyProof.Rows PyProof.V PySem.Spec
namespace Mine
example : True := by w_top off; trivial
local macro_rules | `(tactic| walk_at "call ref") => `(tactic| (k_here; (with_reducible show wpAny _ _ (call (Value.ref 538) _) _ _ _); (rename IntsAre _ _ => I9); (rename Heap.IsList _ _ _ => hL9); k_dflt (refine' pen_ _ _ _ _ _ I9 ?z _ _ _ _ _ _ _ _ _ _ _ _ _ _ _ _ _ _ _ _ ?B ?F ?X ?N ?T ?k hL9 ?hd ?hu ?_; (case z => omega); (case B => k_asm); (case F => k_asm); (case X => k_asm); (case N => k_asm); (case T => k_asm); (case k => first | exact rfl | assumption); (case hd => decide); (case hu => decide); k_whole; intro p' n' t' u' c' h' tk' hn' l1 F' N'; (try k_lt l1); (try k_sweep); (try k_fold))))
local macro_rules | `(tactic| walk_at "getAttr ref") => `(tactic| (k_here; k_dflt (refine' get_own ?k1 ?k2 ?k3 ?k4 ?k5 ?k6 ?k7 ?k8 ?k9 ?_; (case k1 | k2 => k_asm); (case k3 => k_inst); (case k4 | k5 | k6 | k7 => k_is); (case k8 => exact EsOf.getO (by with_reducible assumption) (by exact rfl)); (case k9 => rfl); k_whole); (try dsimp only)))
theorem law_perm {a1 a2 a3 a4 a5 a6 a7 a8 a9 a10 a11 a12 a13 : Addr × Obj} : ∀ x ∈ [a5, a9, a6, a4, a10, a3, a1, a2, a13], x ∈ [a1, a2, a3, a4, a5, a6, a7, a8, a9, a10, a11, a12, a13] := fun x hx => by
  simp only [List.mem_cons, List.not_mem_nil, or_false] at hx ⊢
  grind
local macro_rules | `(tactic| k_lt $h:ident) => `(tactic| replace $h := PySem.W.allLt_of $h)
local macro_rules | `(tactic| walk_at "zset") => `(tactic| ((case k1 | k2 | k3 => k_asm); (case k4 => first | with_reducible assumption | exact off_lt (by with_reducible assumption)); (case k5 => k_inst); (case k6 => exact rfl); (case k7 | k8 | k9 | ka => k_is); (case kD => first | with_reducible assumption | exact EsOf.nil); (case kl => repeat (first | with_reducible exact putA_hd | with_reducible exact putA_nil | (apply putA_tl; (case h => decide)))); (case kz => exact Nat.le_of_ble_eq_true rfl); k_whole))
local macro_rules | `(tactic| walk_at "setAttr ref") => `(tactic| (k_here; first
  | (k_dflt (refine' es_B ?k1 ?k2 ?k3 ?k4 ?k5 ?k6 ?k7 ?k8 ?k9 ?ka ?kD ?kl ?kz ?_; walk_at "zset"); intro es' n' h' tk' D' F' N')
  | (k_dflt (refine' es_C ?k1 ?k2 ?k3 ?k4 ?kn ?kx ?k5 ?k6 ?k7 ?k8 ?k9 ?ka ?kD ?kl ?kz ?_; (case kx => decide); walk_at "zset"; (case kn => first | exact Nat.ne_of_gt (by with_reducible assumption) | exact AllLt.ne0 (by with_reducible assumption))); intro es' n' h' tk' D' F' N')
  | (k_dflt (refine' es_K ?k1 ?k2 ?k3 ?k4 ?kn ?k5 ?k6 ?k7 ?k8 ?k9 ?ka ?kD ?kl ?kz ?_; walk_at "zset"; (case kn => first | exact Nat.ne_of_gt (by with_reducible assumption) | exact AllLt.ne0 (by with_reducible assumption))); intro es' n' h' tk' D' o' F' N'); (try k_sweep)))
local macro_rules | `(tactic| walk_at "execs cons") => `(tactic| (k_here; (with_reducible show wpAny _ _ (execs [Stmt.If (Expr.BoolOp _ _ _) _ _ _, Stmt.Expr _ _, _, _, _, _, _, _] _) _ _ _); refine Hold.of ?_))
local macro_rules | `(tactic| k_qdec) => `(tactic| as_aux_lemma => kernel_rfl)
set_option maxRecDepth 100000 in
set_option maxHeartbeats 8000000 in
theorem w1 : PySem.Challenge.rw_nz0194_01.Holds := hd (by
  k_go0
  (all_goals try k_fold)
  k_steps
  (rename Below callerA _ _ _ => B9); (rename Top _ _ (ExcName.means _) _ _ (Shared.heap _) => T9)
  (rename News _ _ _ _ => N9); (rename Fr _ _ _ _ => F9)
  k_dflt (refine' Hold.out (seg0 _ _ _ _ _ _ _ _ _ _ _ _ _ _ _ _ _ _ _ _ _ _ _ _ _ _ _ _ _ _ _ _ _ _ _ _ _ _ _ B9 (fr_two F9 rfl rfl) ?uX (cb_drop N9 law_perm) T9 ?upn ?uR ?ust ?uDS ?uDH ?uhog ?uglo ?uc1 ?uc2 ?uc3 ?uc4 ?uc5 ?uc6 ?uc7 ?uc8 ?uret))
  case uX => k_asm
  case upn => assumption
  case uR => refine' RunD.ofEs ?u8D ?u8a ?u8b ?u8c; (case u8D => with_reducible assumption); (case u8a => exact rfl); (case u8b => exact rfl); (case u8c => exact Nat.le_of_ble_eq_true rfl)
  case ust => exact EsOf.getO (by with_reducible assumption) (by exact rfl)
  case uDS => with_reducible assumption
  case uDH => with_reducible assumption
  case uhog => with_reducible assumption
  case uglo => with_reducible assumption
  case uc1 => first | with_reducible assumption | exact AllLt.at (by with_reducible assumption) (by repeat (first | exact List.Mem.head _ | apply List.Mem.tail))
  case uc2 => first | with_reducible assumption | exact AllLt.at (by with_reducible assumption) (by repeat (first | exact List.Mem.head _ | apply List.Mem.tail))
  case uc3 => first | with_reducible assumption | exact AllLt.at (by with_reducible assumption) (by repeat (first | exact List.Mem.head _ | apply List.Mem.tail))
  case uc4 => first | with_reducible assumption | exact AllLt.at (by with_reducible assumption) (by repeat (first | exact List.Mem.head _ | apply List.Mem.tail))
  case uc5 => first | with_reducible assumption | exact AllLt.at (by with_reducible assumption) (by repeat (first | exact List.Mem.head _ | apply List.Mem.tail))
  case uc6 => first | with_reducible assumption | exact AllLt.at (by with_reducible assumption) (by repeat (first | exact List.Mem.head _ | apply List.Mem.tail))
  case uc7 => first | with_reducible assumption | exact AllLt.at (by with_reducible assumption) (by repeat (first | exact List.Mem.head _ | apply List.Mem.tail))
  case uc8 => first | with_reducible assumption | exact AllLt.at (by with_reducible assumption) (by repeat (first | exact List.Mem.head _ | apply List.Mem.tail))
  case uret =>
    intro h' tk' m' F'
    k_whole
    k_steps)
end Mine
end
theorem PySem.Challenge.cw_nz0194_01_holds : PySem.Challenge.rw_nz0194_01.Holds := by
  exact Mine.w1
