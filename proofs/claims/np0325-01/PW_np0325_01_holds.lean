import PyProof.Rows.All
import Wide.All
import OpenK.AllK
import Wide.FinOn
import Lean
import PySem.Challenge.RW_np0325_01
set_option Elab.async false
set_option maxRecDepth 100000
set_option linter.unusedVariables false
set_option maxHeartbeats 8000000
namespace Mine
section
open PySem PySem.W PyProof.Rows PySem.Calls
noncomputable abbrev pw : Program := PySem.Challenge.pw_np0325_01
noncomputable abbrev rw' : OpenLaw := PySem.Challenge.rw_np0325_01
noncomputable def stmtAt (i : Nat) : Stmt := (pw.main.body[i]?).getD (.Pass ⟨0, 0, 0, 0⟩)
noncomputable def clsAt (i j : Nat) : Stmt := match stmtAt i with
 | .ClassDef _ _ _ b _ _ _ _ _ _ _ => (b[j]?).getD (.Pass ⟨0, 0, 0, 0⟩)
 | s => s
noncomputable def fdName : Stmt → Str
 | .FunctionDef n _ _ _ _ _ _ _ _ _ => n
 | _ => Str.empty
noncomputable def fdParams : Stmt → Arguments
 | .FunctionDef _ a _ _ _ _ _ _ _ _ => a
 | _ => default
noncomputable def fdBody : Stmt → List Stmt
 | .FunctionDef _ _ b _ _ _ _ _ _ _ => b
 | _ => []
noncomputable def fdScope : Stmt → Scope
 | .FunctionDef _ _ _ _ _ _ s _ _ _ => s
 | _ => default
noncomputable def fnK (st : Stmt) (qual : String) (dV : Value) (pm : String) (pt : Tok) (cd : Addr) (an : Option Addr) : Obj :=
 ⟨.type "function", none, .func (fnOf (fdName st) (Str.ofString qual) (fdParams st) (fdBody st) (fdScope st) dV .none .none (.str (Str.ofString pm) pt) an (.ref cd) .none), #[]⟩
noncomputable def cdK (a : String) (ta : Tok) (b : String) (tb tc : Tok) (d e k : Int) (l : Addr) (m : Bool) (n : Int) (q : Addr) (r r2 : Value) (r3 : Addr) (t u : Int) (tv : Tok) : Obj :=
 ⟨.type "code", none, .fields #[.str (Str.ofString a) ta, .str (Str.ofString b) tb, .str "/claim/cut.py" tc, .int d 0, .int e 0, .int 0 0, .int 0 0, .int k 0, .ref l, .bool m, .int n 0, .ref q, .none, r, r2, .ref r3, .int t 0, .int u 0, .str "/claim/cut.py" tv], #[]⟩
noncomputable def deK (P : Params) (k : String) (t : Tok) (v : Value) : DictEntry := ⟨PyData.keyHash P (Str.ofString k), .str (Str.ofString k) t, v⟩
noncomputable def tupK (vs : List Value) (n : Nat) : Obj := ⟨.type "tuple", none, .seq vs.toArray n, #[]⟩
noncomputable abbrev m0 : String × Tok := ("ringgate.basics", 194)
noncomputable abbrev m1 : String × Tok := ("ringgate.tnum", 299)
noncomputable abbrev m2 : String × Tok := ("ringgate.ranges", 522)
noncomputable abbrev m3 : String × Tok := ("ringgate.kinds", 837)
noncomputable abbrev m4 : String × Tok := ("ringgate.orders", 1004)
noncomputable abbrev m5 : String × Tok := ("ringgate.pointers", 1110)
noncomputable abbrev m6 : String × Tok := ("ringgate.cells", 1242)
noncomputable abbrev m7 : String × Tok := ("law_np0325_01", 1469)
noncomputable abbrev KEnts := List (Addr × (Params → Obj))
noncomputable def mtC (m : String × Tok) (a t t2 : Nat) (ln na : Int) (nm q : String) (st : Stmt) (dV : Value) (an : Bool) (r : KEnts) : KEnts :=
 (a, fun _ => cdK nm t q (t + 1) (t + 2) ln na 3 (a - 5) true 181 (a - 4) (.ref (a - 3)) (.ref (a - 2)) (a - 1) t2 ln (t2 + 1)) :: (a + 1, fun _ => fnK st q dV m.1 m.2 a (match an with
  | true => some (a + 4)
  | false => none)) :: r
noncomputable def fnC (m : String × Tok) (a t t2 : Nat) (ln na : Int) (nm : String) (st : Stmt) (dV : Value) (r : KEnts) : KEnts := mtC m a t t2 ln na nm nm st dV false r
noncomputable def clC (a : Addr) (nm : String) (t u : Tok) (r : KEnts) : KEnts :=
 (a, fun _ => ⟨.type "type", none, .cls { name := nm, bases := [.type "object"], mro := [.ref a, .type "object"], ns := a - 1, qualname := nm, hasDict := true, slotNames := [], subclasses := [], abstract := false, collection := none, hasDel := false }, #[none, none, some (.str nm t), some (.str nm u), some (.builtin "object.__new__"), some (.bool true)]⟩) :: r
noncomputable def stC (a : Addr) (r : KEnts) : KEnts := (a, fun _ => ⟨.type "staticmethod", some (a - 1), .fields #[.ref (a - 2), .bool false], #[]⟩) :: r
noncomputable def tuC (a : Addr) (i : Int) (t : Tok) (r : KEnts) : KEnts := (a, fun _ => tupK [.int i t] 0) :: r
noncomputable abbrev rf (k : String) (t : Tok) (a : Addr) : String × Tok × Value := (k, t, .ref a)
noncomputable def diC (a : Addr) (n : Nat) (es : List (String × Tok × Value)) (r : KEnts) : KEnts := (a, fun P => dictOf (es.map fun e => deK P e.1 e.2.1 e.2.2) n) :: r
noncomputable def kEnts : KEnts :=
 .cons (2, fun P => ⟨.none, none, .dict [deK P "type.__subclasses__.Exception.0" 244 (.int (46) 0), deK P "type.__subclasses__.Exception.n" 245 (.int (1) 0)].toArray 2, #[]⟩) <|
 diC 3 110 [("__name__", 165, (.str "law_np0325_01" 1469)), ("__doc__", 166, .none), ("__package__", 167, .none), ("__loader__", 168, (.builtin "__main__.__loader__#opaque")), ("__spec__", 169, .none), rf "__annotations__" 170 6, rf "__builtins__" 171 4, ("__file__", 173, (.str "/claim/cut.py" 172)), ("__cached__", 174, .none), rf "_wall" 193 21, ("U64", 197, (.int (18446744073709551615) 196)), ("U32", 199, (.int (4294967295) 198)), ("S64_MAX", 201, (.int (9223372036854775807) 200)), ("S64_MIN", 204, (.int (-9223372036854775808) 203)), ("S32_MAX", 206, (.int (2147483647) 205)), ("S32_MIN", 209, (.int (-2147483648) 208)), rf "GateError" 247 46, rf "Refusal" 263 59, rf "ones" 270 68, rf "wrap" 279 76, rf "signed" 289 84, rf "bit_count" 298 91, rf "Tnum" 467 211, rf "without" 477 222, rf "tnum_add" 487 229, rf "tnum_sub" 498 236, rf "tnum_meet" 506 243, rf "tnum_low32" 513 250, rf "tnum_with_low32" 521 257, ("ROUNDS", 525, (.int (3) 524)), rf "Scalar" 714 366, rf "raise_least" 723 377, rf "lower_most" 732 384, rf "ends_by_bits" 740 391, rf "ends_by_sign" 752 398, rf "halves_by_wholes" 760 405, rf "least_whole" 771 412, rf "most_whole" 782 419, rf "wholes_by_halves" 792 426, rf "is_empty" 799 433, rf "bits_by_ends" 809 440, rf "deduced" 817 447, rf "made" 829 454, rf "or_unknown" 836 461, ("MOVED", 840, (.str "stack value packet room" 839)), rf "Reg" 897 486, rf "none" 903 497, rf "number_reg" 912 505, rf "const_reg" 919 512, rf "any_number" 925 519, rf "context_reg" 931 526, rf "stack_reg" 939 533, rf "is_pointer" 946 540, rf "is_movable" 953 547, rf "is_const" 960 554, rf "rebuilt" 971 561, rf "with_off" 979 568, rf "with_scalar" 987 575, rf "with_number" 995 582, rf "with_reach" 1003 589, ("ALU", 1007, (.int (4) 1006)), ("JMP", 1009, (.int (5) 1008)), ("JMP32", 1011, (.int (6) 1010)), ("ALU64", 1013, (.int (7) 1012)), ("BY_REGISTER", 1015, (.int (8) 1014)), ("CLASSES", 1017, (.str "ld   ldx  st   stx  alu  jmp  jmp32alu64" 1016)), ("DEEDS", 1019, (.str "add sub mul div or  and lsh rsh neg mod xor mov arshend " 1018)), ("JUMPS", 1021, (.str "ja  eq  gt  ge  set ne  sgt sge callexitlt  le  slt sle " 1020)), ("KNOWN", 1023, (.int (14) 1022)), rf "Order" 1070 614, rf "class_of" 1078 625, rf "is_alu" 1086 632, rf "is_jumping" 1094 639, rf "operation" 1102 646, rf "is_register" 1109 653, ("MOST_OFF", 1115, (.int (536870912) 1114)), ("MOST_PACKET", 1117, (.int (65535) 1116)), rf "PACKETS" 1120 654, rf "is_far" 1127 661, rf "varies_far" 1134 668, rf "known_sum" 1146 675, rf "scalar_sum" 1158 682, rf "varying_sum" 1170 689, rf "add_to_pointer" 1182 697, rf "is_difference" 1190 704, rf "needs_id" 1198 711, rf "source_of" 1206 718, rf "moved" 1218 725, rf "sum_of" 1229 732, rf "pointer_deed" 1241 739, ("UNWRITTEN", 1245, (.str "--------" 1244)), ("REGISTERS", 1247, (.int (11) 1246)), rf "Cell" 1292 771, rf "Frame" 1355 818, rf "State" 1455 900, rf "new_frame" 1461 909, rf "first_state" 1468 916, rf "_law_kinds" 1480 917, rf "_law_far" 1486 924, rf "_law_draw" 1496 931, rf "_law_whole" 1505 938, rf "_law_varied" 1511 943, rf "_law_pointer" 1522 950, rf "_law_due" 1540 957, rf "_law_added" 1551 964, rf "_law_is_sum" 1566 971, rf "_law_state" 1575 978, rf "_law_done" 1588 986, rf "_law_deeds_right" 1594 991, rf "law" 1600 996] <|
 .cons (29, fun P => tupK [.none] 0) <|
 mtC m0 35 222 228 13 3 "__init__" "GateError.__init__" (clsAt 8 0) (.ref 29) false <|
 diC 45 3 [("__module__", 217, (.str "ringgate.basics" 194)), ("__firstlineno__", 221, (.int (11) 220)), rf "__init__" 230 36, rf "told" 237 43, rf "__static_attributes__" 240 44, rf "__weakref__" 242 47, ("__doc__", 243, .none)] <|
 .cons (46, fun P => ⟨.type "type", none, .cls { name := "GateError", bases := [(.type "Exception")], mro := [(.ref 46), (.type "Exception"), (.type "BaseException"), (.type "object")], ns := 45, qualname := "GateError", hasDict := true, slotNames := [], subclasses := [(.ref 59)], abstract := false, collection := none, hasDel := false }, [some (.ref 22), none, some (.str "GateError" 210), some (.str "GateError" 218), some (.builtin "Exception.__new__"), some (.bool true)].toArray⟩) <|
 diC 58 2 [("__module__", 255, (.str "ringgate.basics" 194)), ("__firstlineno__", 259, (.int (20) 258)), rf "__static_attributes__" 260 57, ("__doc__", 261, .none)] <|
 .cons (59, fun P => ⟨.type "type", none, .cls { name := "Refusal", bases := [(.ref 46)], mro := [(.ref 59), (.ref 46), (.type "Exception"), (.type "BaseException"), (.type "object")], ns := 58, qualname := "Refusal", hasDict := true, slotNames := [], subclasses := [], abstract := false, collection := none, hasDel := false }, [some (.ref 50), none, some (.str "Refusal" 248), some (.str "Refusal" 256), some (.builtin "Exception.__new__"), some (.bool true)].toArray⟩) <|
 fnC m0 67 264 268 22 1 "ones" (stmtAt 10) .none <|
 tuC 69 64 271 <|
 fnC m0 75 272 277 24 2 "wrap" (stmtAt 11) (.ref 69) <|
 tuC 77 64 280 <|
 fnC m0 83 281 287 26 2 "signed" (stmtAt 12) (.ref 77) <|
 fnC m0 90 290 296 29 1 "bit_count" (stmtAt 13) .none <|
 mtC m1 104 313 319 39 3 "__init__" "Tnum.__init__" (clsAt 15 0) .none false <|
 mtC m1 111 322 326 43 1 "const" "Tnum.const" (clsAt 15 1) .none true <|
 stC 114 <|
 mtC m1 121 341 344 47 0 "unknown" "Tnum.unknown" (clsAt 15 2) .none true <|
 stC 124 <|
 mtC m1 131 359 365 51 2 "span" "Tnum.span" (clsAt 15 3) .none true <|
 stC 134 <|
 mtC m1 141 380 385 56 2 "contains" "Tnum.contains" (clsAt 15 4) .none false <|
 mtC m1 148 388 392 59 1 "is_const" "Tnum.is_const" (clsAt 15 5) .none false <|
 mtC m1 155 395 399 62 1 "least" "Tnum.least" (clsAt 15 6) .none false <|
 mtC m1 162 402 406 65 1 "most" "Tnum.most" (clsAt 15 7) .none false <|
 tuC 164 64 409 <|
 mtC m1 170 410 415 68 2 "signed_least" "Tnum.signed_least" (clsAt 15 8) (.ref 164) false <|
 tuC 172 64 418 <|
 mtC m1 178 419 424 71 2 "signed_most" "Tnum.signed_most" (clsAt 15 9) (.ref 172) false <|
 mtC m1 199 442 446 80 1 "told" "Tnum.told" (clsAt 15 12) .none false <|
 diC 210 4 [("__module__", 308, (.str "ringgate.tnum" 299)), ("__firstlineno__", 312, (.int (37) 311)), rf "__init__" 321 105, rf "const" 340 114, rf "unknown" 358 124, rf "span" 379 134, rf "contains" 387 142, rf "is_const" 394 149, rf "least" 401 156, rf "most" 408 163, rf "signed_least" 417 171, rf "signed_most" 426 179, rf "is_aligned" 434 186, rf "free_bits" 441 193, rf "told" 448 200, rf "show" 457 208, rf "__static_attributes__" 460 209, rf "__dict__" 462 212, rf "__weakref__" 464 213, ("__doc__", 465, .none)] <|
 clC 211 "Tnum" 301 309 <|
 fnC m1 221 468 475 85 2 "without" (stmtAt 16) .none <|
 fnC m1 228 478 485 89 2 "tnum_add" (stmtAt 17) .none <|
 fnC m1 235 488 496 93 2 "tnum_sub" (stmtAt 18) .none <|
 fnC m1 242 499 504 97 2 "tnum_meet" (stmtAt 19) .none <|
 fnC m1 249 507 511 101 1 "tnum_low32" (stmtAt 20) .none <|
 fnC m1 256 514 519 103 2 "tnum_with_low32" (stmtAt 21) .none <|
 mtC m2 270 538 551 109 10 "__init__" "Scalar.__init__" (clsAt 24 0) .none false <|
 mtC m2 277 554 557 120 0 "unknown" "Scalar.unknown" (clsAt 24 1) .none true <|
 stC 280 <|
 mtC m2 287 572 580 124 1 "const" "Scalar.const" (clsAt 24 2) .none true <|
 stC 290 <|
 mtC m2 307 615 620 134 2 "with_sign" "Scalar.with_sign" (clsAt 24 4) .none true <|
 stC 310 <|
 mtC m2 317 635 639 138 1 "of_bits" "Scalar.of_bits" (clsAt 24 5) .none true <|
 stC 320 <|
 mtC m2 327 654 660 142 2 "contains" "Scalar.contains" (clsAt 24 6) .none false <|
 mtC m2 334 663 667 150 1 "is_const" "Scalar.is_const" (clsAt 24 7) .none false <|
 mtC m2 341 670 674 153 1 "worth" "Scalar.worth" (clsAt 24 8) .none false <|
 mtC m2 355 684 688 159 1 "ends" "Scalar.ends" (clsAt 24 10) .none false <|
 mtC m2 362 691 695 162 1 "told" "Scalar.told" (clsAt 24 11) .none false <|
 diC 365 4 [("__module__", 533, (.str "ringgate.ranges" 522)), ("__firstlineno__", 537, (.int (107) 536)), rf "__init__" 553 271, rf "unknown" 571 280, rf "const" 594 290, rf "unsigned" 614 300, rf "with_sign" 634 310, rf "of_bits" 653 320, rf "contains" 662 328, rf "is_const" 669 335, rf "worth" 676 342, rf "is_unknown" 683 349, rf "ends" 690 356, rf "told" 697 363, rf "__static_attributes__" 707 364, rf "__dict__" 709 367, rf "__weakref__" 711 368, ("__doc__", 712, .none)] <|
 clC 366 "Scalar" 526 534 <|
 fnC m2 376 715 721 164 3 "raise_least" (stmtAt 25) .none <|
 fnC m2 383 724 730 167 3 "lower_most" (stmtAt 26) .none <|
 fnC m2 390 733 738 170 2 "ends_by_bits" (stmtAt 27) .none <|
 fnC m2 397 741 750 179 3 "ends_by_sign" (stmtAt 28) .none <|
 fnC m2 404 753 758 194 1 "halves_by_wholes" (stmtAt 29) .none <|
 fnC m2 411 761 769 202 3 "least_whole" (stmtAt 30) .none <|
 fnC m2 418 772 780 207 3 "most_whole" (stmtAt 31) .none <|
 fnC m2 425 783 790 212 1 "wholes_by_halves" (stmtAt 32) .none <|
 fnC m2 432 793 797 220 1 "is_empty" (stmtAt 33) .none <|
 fnC m2 439 800 807 222 2 "bits_by_ends" (stmtAt 34) .none <|
 fnC m2 446 810 815 228 2 "deduced" (stmtAt 35) .none <|
 fnC m2 453 818 827 241 2 "made" (stmtAt 36) .none <|
 fnC m2 460 830 834 255 1 "or_unknown" (stmtAt 37) .none <|
 .cons (469, fun P => tupK [(.int (0) 853), .none, (.int (0) 854), (.int (-1) 856), (.int (0) 857), (.int (0) 858), (.int (0) 859)] 0) <|
 mtC m3 475 860 872 261 9 "__init__" "Reg.__init__" (clsAt 40 0) (.ref 469) false <|
 mtC m3 482 875 879 271 1 "told" "Reg.told" (clsAt 40 1) .none false <|
 diC 485 4 [("__module__", 848, (.str "ringgate.kinds" 837)), ("__firstlineno__", 852, (.int (259) 851)), rf "__init__" 874 476, rf "told" 881 483, rf "__static_attributes__" 890 484, rf "__dict__" 892 487, rf "__weakref__" 894 488, ("__doc__", 895, .none)] <|
 clC 486 "Reg" 841 849 <|
 fnC m3 496 898 901 273 0 "none" (stmtAt 41) .none <|
 tuC 498 0 904 <|
 fnC m3 504 905 910 275 2 "number_reg" (stmtAt 42) (.ref 498) <|
 fnC m3 511 913 917 277 1 "const_reg" (stmtAt 43) .none <|
 fnC m3 518 920 923 279 0 "any_number" (stmtAt 44) .none <|
 fnC m3 525 926 929 281 0 "context_reg" (stmtAt 45) .none <|
 fnC m3 532 932 937 283 2 "stack_reg" (stmtAt 46) .none <|
 fnC m3 539 940 944 285 1 "is_pointer" (stmtAt 47) .none <|
 fnC m3 546 947 951 287 1 "is_movable" (stmtAt 48) .none <|
 fnC m3 553 954 958 289 1 "is_const" (stmtAt 49) .none <|
 fnC m3 560 961 969 291 5 "rebuilt" (stmtAt 50) .none <|
 fnC m3 567 972 977 293 2 "with_off" (stmtAt 51) .none <|
 fnC m3 574 980 985 295 2 "with_scalar" (stmtAt 52) .none <|
 fnC m3 581 988 993 297 2 "with_number" (stmtAt 53) .none <|
 fnC m3 588 996 1001 299 2 "with_reach" (stmtAt 54) .none <|
 tuC 597 0 1036 <|
 mtC m4 603 1037 1047 313 7 "__init__" "Order.__init__" (clsAt 65 0) (.ref 597) false <|
 diC 613 4 [("__module__", 1031, (.str "ringgate.orders" 1004)), ("__firstlineno__", 1035, (.int (311) 1034)), rf "__init__" 1049 604, rf "told" 1056 611, rf "__static_attributes__" 1063 612, rf "__dict__" 1065 615, rf "__weakref__" 1067 616, ("__doc__", 1068, .none)] <|
 clC 614 "Order" 1024 1032 <|
 fnC m4 624 1071 1076 323 1 "class_of" (stmtAt 66) .none <|
 fnC m4 631 1079 1084 326 1 "is_alu" (stmtAt 67) .none <|
 fnC m4 638 1087 1092 329 1 "is_jumping" (stmtAt 68) .none <|
 fnC m4 645 1095 1100 332 1 "operation" (stmtAt 69) .none <|
 fnC m4 652 1103 1107 341 1 "is_register" (stmtAt 70) .none <|
 .cons (654, fun P => tupK [(.str "packet" 1118), (.str "packet_end" 1119)] 0) <|
 fnC m5 660 1121 1125 347 1 "is_far" (stmtAt 75) .none <|
 fnC m5 667 1128 1132 349 1 "varies_far" (stmtAt 76) .none <|
 fnC m5 674 1135 1144 351 4 "known_sum" (stmtAt 77) .none <|
 fnC m5 681 1147 1156 357 3 "scalar_sum" (stmtAt 78) .none <|
 fnC m5 688 1159 1168 363 5 "varying_sum" (stmtAt 79) .none <|
 tuC 690 0 1171 <|
 fnC m5 696 1172 1180 376 5 "add_to_pointer" (stmtAt 80) (.ref 690) <|
 fnC m5 703 1183 1188 384 2 "is_difference" (stmtAt 81) .none <|
 fnC m5 710 1191 1196 388 2 "needs_id" (stmtAt 82) .none <|
 fnC m5 717 1199 1204 390 2 "source_of" (stmtAt 83) .none <|
 fnC m5 724 1207 1216 394 5 "moved" (stmtAt 84) .none <|
 fnC m5 731 1219 1227 397 5 "sum_of" (stmtAt 85) .none <|
 fnC m5 738 1230 1239 407 3 "pointer_deed" (stmtAt 86) .none <|
 mtC m6 788 1305 1312 436 4 "__init__" "Frame.__init__" (clsAt 91 0) .none false <|
 diC 817 4 [("__module__", 1300, (.str "ringgate.cells" 1242)), ("__firstlineno__", 1304, (.int (434) 1303)), rf "__init__" 1314 789, rf "copy" 1321 796, rf "cell" 1329 803, rf "put_cell" 1338 810, rf "told" 1344 815, rf "__static_attributes__" 1348 816, rf "__dict__" 1350 819, rf "__weakref__" 1352 820, ("__doc__", 1353, .none)] <|
 clC 818 "Frame" 1293 1301 <|
 mtC m6 835 1368 1375 455 4 "__init__" "State.__init__" (clsAt 92 0) .none false <|
 mtC m6 863 1399 1404 469 2 "reg" "State.reg" (clsAt 92 4) .none false <|
 mtC m6 870 1407 1413 472 3 "put" "State.put" (clsAt 92 5) .none false <|
 mtC m6 877 1416 1421 475 1 "fresh" "State.fresh" (clsAt 92 6) .none false <|
 diC 899 4 [("__module__", 1363, (.str "ringgate.cells" 1242)), ("__firstlineno__", 1367, (.int (453) 1366)), rf "__init__" 1377 836, rf "copy" 1384 843, rf "top" 1391 850, rf "depth" 1398 857, rf "reg" 1406 864, rf "put" 1415 871, rf "fresh" 1423 878, rf "told" 1429 883, rf "all_regs" 1436 890, rf "turn_all" 1444 897, rf "__static_attributes__" 1448 898, rf "__dict__" 1450 901, rf "__weakref__" 1452 902, ("__doc__", 1453, .none)] <|
 clC 900 "State" 1356 1364 <|
 .cons (908, fun P => cdK "new_frame" 1456 "new_frame" 1457 1458 488 2 3 905 true 181 906 .none .none 907 1459 488 1460) <|
 .cons (909, fun P => fnK (stmtAt 93) "new_frame" .none "ringgate.cells" 1242 908 none) <|
 fnC m6 915 1462 1466 492 0 "first_state" (stmtAt 94) .none <|
 .cons (917, fun P => tupK [(.str "value" 1471), (.str "packet" 1472), (.str "room" 1473), (.str "stack" 1474), (.str "context" 1475), (.str "map" 1476), (.str "packet_end" 1477), (.str "value_or_null" 1478), (.str "room_or_null" 1479)] 0) <|
 fnC m7 923 1481 1484 498 0 "_law_far" (stmtAt 97) .none <|
 fnC m7 930 1487 1494 500 2 "_law_draw" (stmtAt 98) .none <|
 fnC m7 937 1497 1503 508 1 "_law_whole" (stmtAt 99) .none <|
 .cons (942, fun P => cdK "_law_varied" 1506 "_law_varied" 1507 1508 512 1 3 939 true 181 940 .none .none 941 1509 512 1510) <|
 .cons (943, fun P => fnK (stmtAt 100) "_law_varied" .none "law_np0325_01" 1469 942 none) <|
 fnC m7 949 1512 1520 528 1 "_law_pointer" (stmtAt 101) .none <|
 fnC m7 956 1523 1538 535 6 "_law_due" (stmtAt 102) .none <|
 fnC m7 963 1541 1549 554 4 "_law_added" (stmtAt 103) .none <|
 fnC m7 970 1552 1564 559 6 "_law_is_sum" (stmtAt 104) .none <|
 fnC m7 977 1567 1573 570 2 "_law_state" (stmtAt 105) .none <|
 .cons (979, fun P => tupK [(.int (0) 1576), (.int (0) 1577)] 0) <|
 fnC m7 985 1578 1586 576 4 "_law_done" (stmtAt 106) (.ref 979) <|
 .cons (990, fun P => cdK "_law_deeds_right" 1589 "_law_deeds_right" 1590 1591 581 4 3 987 true 181 988 .none .none 989 1592 581 1593) <|
 .cons (991, fun P => fnK (stmtAt 107) "_law_deeds_right" .none "law_np0325_01" 1469 990 none) <|
 .cons (995, fun P => cdK "law" 1595 "law" 1596 1597 608 1 3 992 true 181 993 .none .none 994 1598 608 1599) <|
 .cons (996, fun P => fnK (stmtAt 108) "law" .none "law_np0325_01" 1469 995 none) <|
 []
noncomputable def kFrag (P : Params) : Frag := kEnts.map fun e => (e.1, e.2 P)
noncomputable def kAddrs : List Addr := kEnts.map (·.1)
noncomputable def dLaw : DefRec := ⟨"law", fdParams (stmtAt 108), fdBody (stmtAt 108), fdScope (stmtAt 108), (stmtAt 108).pos⟩
noncomputable def qLaw : Program := view pw [108]
noncomputable def looseS : List String := ["_wall", "U64", "U32", "S64_MAX", "S64_MIN", "S32_MAX", "S32_MIN", "GateError", "Refusal", "ones", "wrap", "signed", "bit_count", "Tnum", "without", "tnum_add", "tnum_sub", "tnum_meet", "tnum_low32", "tnum_with_low32", "ROUNDS", "Scalar", "raise_least", "lower_most", "ends_by_bits", "ends_by_sign", "halves_by_wholes", "least_whole", "most_whole", "wholes_by_halves", "is_empty", "bits_by_ends", "deduced", "made", "or_unknown", "MOVED", "Reg", "none", "number_reg", "const_reg", "any_number", "context_reg", "stack_reg", "is_pointer", "is_movable", "is_const", "rebuilt", "with_off", "with_scalar", "with_number", "with_reach", "ALU", "JMP", "JMP32", "ALU64", "BY_REGISTER", "CLASSES", "DEEDS", "JUMPS", "KNOWN", "Order", "class_of", "is_alu", "is_jumping", "operation", "is_register", "MOST_OFF", "MOST_PACKET", "PACKETS", "is_far", "varies_far", "known_sum", "scalar_sum", "varying_sum", "add_to_pointer", "is_difference", "needs_id", "source_of", "moved", "sum_of", "pointer_deed", "UNWRITTEN", "REGISTERS", "Cell", "Frame", "State", "new_frame", "first_state", "_law_kinds", "_law_far", "_law_draw", "_law_whole", "_law_varied", "_law_pointer", "_law_due", "_law_added", "_law_is_sum", "_law_state", "_law_done", "_law_deeds_right"]
noncomputable def looseL : List PySem.Str := looseS.map PySem.Str.ofString
noncomputable def modsL : List PySem.Str := importedModules pw.main.body
theorem and_tt {a b : Bool} (h1 : a = true) (h2 : b = true) : (a && b) = true := by rw [h1, h2]; rfl
noncomputable abbrev rowL : OpenRow := PySem.W.Fast.tw2368527892694137696 rw'
theorem look1 : (PySem.W.Fast.tw11788848310118352699 pw.main && ((PySem.W.Fast.tw9807087744658564304 pw.main.body).isEmpty || PySem.W.Fast.tw12862048085361865435 (PySem.W.Fast.tw9807087744658564304 pw.main.body) pw.main.body)) = true := by kernel_rfl
theorem look3 : PySem.W.Fast.tw8377067652309620493 pw = true := by kernel_rfl
theorem look4 : (PySem.W.R.allR (PySem.W.Fast.tw18344453789297297638 pw) fun n => !PySem.W.Fast.tw3471404346716756564 PySem.W.Fast.tw14412699480532031325 n) = true := by kernel_rfl
theorem look5a : (!PySem.W.R.allR (PySem.W.Fast.tw5923862056798008813 pw.main.body) (PySem.W.Fast.tw3471404346716756564 PySem.W.Fast.tw17691160309236699985), PySem.W.R.filterR (PySem.W.Fast.tw13343964577679436407 pw pw.main.body)
  [{ cps := { toList := [118, 97, 114, 115] } }, { cps := { toList := [100, 105, 114] } }, { cps := { toList := [108, 111, 99, 97, 108, 115] } }]) = (false, ([] : List PySem.Str)) := by kernel_rfl
theorem look5 : PySem.W.Fast.tw8326940854005059898 { strict := false, foot := none, bare := [] } pw.main.body = true := by kernel_rfl
theorem look6 : (PySem.W.Fast.tw17119622794617984870 pw pw.main.body fun x n => PySem.W.Fast.tw17868728402115742887 n) = true := by kernel_rfl
theorem look5b : PySem.W.Fast.tw8326940854005059898 { strict := !PySem.W.R.allR (PySem.W.Fast.tw5923862056798008813 pw.main.body) (PySem.W.Fast.tw3471404346716756564 PySem.W.Fast.tw17691160309236699985), foot := none, bare := PySem.W.R.filterR (PySem.W.Fast.tw13343964577679436407 pw pw.main.body) [{ cps := { toList := [118, 97, 114, 115] } }, { cps := { toList := [100, 105, 114] } }, { cps := { toList := [108, 111, 99, 97, 108, 115] } }] } pw.main.body = true := by
 have h := look5a
 rw [Prod.mk.injEq] at h
 rw [h.1, h.2]
 exact look5
theorem looked : PySem.W.Fast.tw12908688711261696721 pw = true := by
 delta PySem.W.Fast.tw12908688711261696721
 refine and_tt (and_tt (and_tt (and_tt ?_ ?_) ?_) ?_) ?_
 ·exact look1
 ·exact look3
 ·exact look4
 ·exact look5b
 ·exact look6
theorem partly : PySem.W.Fast.tw2436336058641802641 rowL = true := by
 delta PySem.W.Fast.tw2436336058641802641
 refine and_tt (and_tt (and_tt (and_tt (and_tt (and_tt (and_tt (and_tt (and_tt (and_tt (and_tt (and_tt (and_tt looked ?_) ?_) ?_) ?_) ?_) ?_) ?_) ?_) ?_) ?_) ?_) ?_) ?_ <;> kernel_rfl
theorem rowly : PySem.W.Fast.tw17960256430627541270 rowL = true := by
 delta PySem.W.Fast.tw17960256430627541270
 refine and_tt (and_tt partly ?_) ?_ <;> kernel_rfl
theorem said : OpenLaw.wellSaid rw' = true := (congrFun PySem.W.Fast.te9446332074065402090 rw').trans (by
 delta PySem.W.Fast.tw9446332074065402090
 refine and_tt (and_tt (and_tt (and_tt (and_tt (and_tt (and_tt (and_tt (and_tt (and_tt (and_tt (and_tt (and_tt (and_tt (and_tt (and_tt (and_tt (and_tt rowly ?_) ?_) ?_) ?_) ?_) ?_) ?_) ?_) ?_) ?_) ?_) ?_) ?_) ?_) ?_) ?_) ?_) ?_ <;> kernel_rfl)
theorem hdef : defOf qLaw "law" = some (dLaw, []) := by kernel_rfl
theorem hprog : rw'.row.prog.theDef rw'.row.name = some (dLaw.params, dLaw.body, dLaw.scope) := by kernel_rfl
theorem hch1 : chainsOk qLaw = true := by kernel_rfl
theorem hch2 : opensWell rw'.row.prog = true := by kernel_rfl
theorem hch3 : (frees rw'.row.toRowW && rw'.row.within.isEmpty) = true := by kernel_rfl
theorem hchain : (chainsOk qLaw && opensWell rw'.row.prog && (frees rw'.row.toRowW && rw'.row.within.isEmpty)) = true := and_tt (and_tt hch1 hch2) hch3
theorem hkw : kwWritten? dLaw.params.kwonlyargs dLaw.params.kw_defaults = some [] := by kernel_rfl
theorem hprom : rw'.row.toRowW.promised := ⟨[.list []], by decide +kernel, by decide +kernel⟩
theorem hbare : rw'.row.prog.bare := ⟨rfl, rfl, rfl, rfl, rfl, by kernel_rfl⟩
noncomputable def insAll : List Obj → Nat → BT → BT
 | [], _, t => t
 | o :: r, n, t => insAll r (n + 1) (t.ins n o)
noncomputable def topRunG (st : SharedT → Thread → Option (SharedT × Thread)) (ok : Thread → Bool) : Nat → SharedT → Thread → Option SharedT
 | 0, _, _ => none
 | n + 1, s, t => match through t with
  | true => some s
  | false => match ok t with
   | false => none
   | true => match st s t with
    | some (s', t') => topRunG st ok n s' t'
    | none => none
theorem topRunG_spec {p : Program} {w : World} {n₀ : Nat} {ann : Option Value} : ∀ {n : Nat} {s s' : SharedT} {t : Thread}, topRunG (stepT (denote treeTable) p w) (stepOk n₀ ann) n s t = some s' →
  topRun treeTable p w n₀ ann n s.abs t = some s'.abs
 | 0, _, _, _, h => by cases h
 | n + 1, s, s', t, h => by
  unfold topRunG at h
  unfold topRun
  cases ht : through t with
  | true => rw [ht] at h; cases h; rfl
  | false =>
   rw [ht] at h
   cases hk : stepOk n₀ ann t with
   | false => rw [hk] at h; cases h
   | true =>
    rw [hk] at h
    cases hs : stepT (denote treeTable) p w s t with
    | none => rw [hs] at h; cases h
    | some r => obtain ⟨s₂, t₂⟩ := r; rw [hs] at h; rw [stepT_spec hs]; exact topRunG_spec h
noncomputable def seenG (OS : Program → List PySem.Str → List PySem.Str → (Shared → Bool) → Bool → Shared → β) (p q : Program) (loose : List PySem.Str) (h0 : Heap) (as : List Addr) (sT : SharedT) :=
 ((staticsOk (importedModules p.main.body) h0 sT.abs.heap && namesBound p sT.abs.heap && gensDone sT.abs && laidKept h0 sT.abs.heap,
  OS q loose (importedModules p.main.body) (fun _ => true) true sT.abs), as.map fun a => if Nat.blt a sT.n then (sT.tree.get a).bind alive else none)
theorem left_of_run {p q : Program} {loose : List PySem.Str} {N : Nat} {m₀ : Nat} {ann : Option Value} {H₀ : Params → Heap} {d₀ : Drawn} {k₀ : Nat} {as : List Addr} {KK : Params → Frag}
  {stp : (Code → Sem Fin) → Program → World → SharedT → Thread → Option (SharedT × Thread)} {den : (String → Option Builtin) → Code → Sem Fin} {tb : String → Option Builtin} {ok : Nat → Option Value → Thread → Bool}
  {OS : Program → List PySem.Str → List PySem.Str → (Shared → Bool) → Bool → Shared → _}
  (e1 : stepT = stp) (e2 : denote = den) (e3 : treeTable = tb) (e4 : stepOk = ok) (e5 : openSeen = OS)
  (open_ : ∀ w : World, (fencedOpening treeTable p w N).map (fun s => (s.heap, s.gens, s.drawn, s.toks)) = some (H₀ w.params, #[], d₀, k₀))
  (size : ∀ w : World, ((H₀ w.params).isNs mainGlobals && (#[] : Array GenState).size == 0, (H₀ w.params).objs.size, (H₀ w.params).nsMap mainGlobals "__annotations__") = (true, m₀, ann))
  {s0 : World → OsState → SharedT} (abs0 : ∀ w os, (s0 w os).abs = ⟨H₀ w.params, #[], d₀, k₀, os⟩)
  (run : ∀ (w : World) (os : OsState), (topRunG (stp (den tb) p w) (ok m₀ ann) N (s0 w os) (topStub p)).map (seenG OS p q loose (H₀ w.params) as) = some ((true, openGood q loose), (KK w.params).map fun x => some x.2)) :
  LeftO p q loose (fun _ => true) (fun s => as.map s.heap.get?) (fun w => (KK w.params).map fun x => some x.2) N := fun w => by
 subst e1 e2 e3 e4 e5
 obtain ⟨⟨h, gs, d, k, os⟩, e, e'⟩ := Option.map_eq_some_iff.mp (open_ w)
 obtain ⟨rfl, rfl, rfl, rfl⟩ : h = H₀ w.params ∧ gs = #[] ∧ d = d₀ ∧ k = k₀ := by simpa using e'
 obtain ⟨z1, z2, z3⟩ : _ ∧ _ ∧ _ := by simpa only [Prod.mk.injEq] using size w
 obtain ⟨sT, r1, r2⟩ := Option.map_eq_some_iff.mp (run w os)
 have r := topRunG_spec r1
 rw [abs0] at r
 obtain ⟨r3, r4⟩ := Prod.mk.inj r2
 obtain ⟨l1, l2⟩ := Prod.mk.inj r3
 have t : topFrom treeTable p w N ⟨H₀ w.params, #[], d, k, os⟩ = some sT.abs := by
  unfold topFrom
  dsimp only
  rw [z1, z2, z3, r]
  show (match staticsOk (importedModules p.main.body) (H₀ w.params) sT.abs.heap && namesBound p sT.abs.heap && gensDone sT.abs && laidKept (H₀ w.params) sT.abs.heap with | true => _ | false => _) = _
  rw [l1]
 unfold openEnds
 rw [e]
 show (topFrom treeTable p w N _).map _ = _
 rw [t]
 refine congrArg some (Prod.ext l2 ?_)
 show as.map sT.abs.heap.get? = _
 refine Eq.trans ?_ r4
 obtain ⟨T, n, life, gs, dr, tk, os'⟩ := sT
 refine List.map_congr_left fun a ha => ?_
 show (absHeap T n life).get? a = if Nat.blt a n then (T.get a).bind alive else none
 cases hb : Nat.blt a n with
 | false =>
  have lt : ¬ a < n := fun q => by rw [show Nat.blt a n = true from Nat.ble_eq_true_of_le q] at hb; cases hb
  rw [abs_get_none lt]; rfl
 | true =>
  have lt : a < n := Nat.le_of_ble_eq_true hb
  rw [if_pos rfl]
  cases g : T.get a with
  | some o => rw [abs_get lt g]; rfl
  | none =>
   exfalso
   have hm : (if Nat.blt a n then (T.get a).bind alive else none) ∈ as.map fun a => if Nat.blt a n then (T.get a).bind alive else none := List.mem_map_of_mem (f := fun a => if Nat.blt a n then (T.get a).bind alive else none) ha
   rw [show (as.map fun a => if Nat.blt a n then (T.get a).bind alive else none) = (KK w.params).map fun x => some x.2 from r4, hb, g] at hm
   obtain ⟨p, _, hp⟩ := List.mem_map.mp hm
   cases hp
noncomputable def s0 (w : World) (os : OsState) : SharedT := ⟨insAll (boot_heap w.params).objs.toList 0 .nil, (boot_heap w.params).objs.size, (boot_heap w.params).life, #[], boot_drawn, boot_toks, os⟩
theorem s0_abs (w : World) (os : OsState) : (s0 w os).abs = ⟨boot_heap w.params, #[], boot_drawn, boot_toks, os⟩ := by kernel_rfl
noncomputable def runW (w : World) (os : OsState) : Option SharedT :=
 topRunG (PySem.W.Fast.tw10156331382660048174 (PySem.W.Fast.tw11892475500146522536 PySem.W.Fast.tw14364793385576792824) pw w)
  (PySem.W.Fast.tw6613529449190102663 11 (some (.ref 6))) 7000 (s0 w os) (topStub pw)
theorem bootSize (w : World) : ((boot_heap w.params).isNs mainGlobals && (#[] : Array GenState).size == 0, (boot_heap w.params).objs.size, (boot_heap w.params).nsMap mainGlobals "__annotations__") = (true, 11, some (.ref 6)) := by kernel_rfl
theorem opens : opening pw = plainProg pw.main.scope.names := by kernel_rfl
theorem noImports : importedModules pw.main.body = [] := by kernel_rfl
theorem noNumpy : pw.main.body.any namesNumpy = false := by kernel_rfl
theorem fences (s : Shared) : fenceModules? pw s = some s := by
 unfold fenceModules?
 rw [noImports, noNumpy]; rfl
theorem ran (w : World) (os : OsState) : (runW w os).map (seenG PySem.W.Fast.tw4187177175401517315 pw qLaw looseL (boot_heap w.params) kAddrs) = some ((true, openGood qLaw looseL), (kFrag w.params).map fun p => some p.2) := by kernel_rfl
theorem left : LeftO pw qLaw looseL (fun _ => true) (fun s => kAddrs.map s.heap.get?) (fun w => (kFrag w.params).map fun x => some x.2) 7000 :=
 left_of_run (s0 := s0) PySem.W.Fast.te10156331382660048174 PySem.W.Fast.te11892475500146522536 PySem.W.Fast.te14364793385576792824 PySem.W.Fast.te6613529449190102663 PySem.W.Fast.te4187177175401517315
  (boot_open opens (by decide) fences) bootSize s0_abs ran
theorem kAddrs_eq (P : Params) : kAddrs = (kFrag P).map (·.1) := by kernel_rfl
noncomputable abbrev lawR : RowW := rw'.row.toRowW
noncomputable abbrev LawWalk : Prop := WalkO qLaw looseL (fun _ _ => True) (fun w h => (kFrag w.params).In h) lawR dLaw [] fun f vs => PySem.call f vs
theorem holds_of_walk (h : LawWalk) : PySem.Challenge.rw_np0325_01.Holds :=
 PySem.W.holds_law said fun h1 => PySem.W.holds_open (q := qLaw) (loose := looseL) (Xt := fun _ => true) (XP := fun _ _ => True) (Yf := fun s => kAddrs.map s.heap.get?)
  (Ya := fun w => (kFrag w.params).map fun (p : Addr × Obj) => some p.2) (YP := fun w h => (kFrag w.params).In h) (N := 7000) left
  (fun w s e => Frag.in_of (kAddrs_eq w.params) e) (fun w h h' x k => x.keeps k) (fun _ _ => trivial) (fun _ _ _ _ _ => trivial)
  hdef hprog hkw (fun s _ => recFacts_nil rfl) (by rfl) h1 hchain hbare hprom h
end
section
open PySem PySem.W PyProof.Rows PySem.Calls
inductive AV where
 | none
 | bool (b : Bool)
 | int (i : Int)
 | str (s : Str)
 | val (v : Value)
 | tup (xs : List AV)
 | lst (xs : List AV)
 | ints (xs : List Int)
 | obj (C : Addr) (xs : List AV)
 | hnd (k : Nat)
 | rng (lo hi : Int)
 | any
inductive MO where
 | lst (xs : List AV)
 | inst (C : Addr) (fs : List (Str × AV))
 | junk
noncomputable abbrev Mem := List MO
noncomputable abbrev Lo := List (Str × AV)
inductive T (α : Type) where
 | leaf (a : α)
 | exc (x : AV) (m : Mem)
 | ite (c : Bool) (t e : T α)
 | req (p : Prop) (t : T α)
 | stuck (why : String)
namespace T
variable {α β : Type}
noncomputable def bind : T α → (α → T β) → T β
 | leaf a, f => f a
 | exc x m, _ => exc x m
 | ite c t e, f => ite c (t.bind f) (e.bind f)
 | req p t, f => req p (t.bind f)
 | stuck w, _ => stuck w
noncomputable def All : T α → (α → Prop) → (AV → Mem → Prop) → Prop
 | leaf a, K, _ => K a
 | exc x m, _, KX => KX x m
 | ite c t e, K, KX => (c = true → t.All K KX) ∧ (c = false → e.All K KX)
 | req p t, K, KX => p ∧ t.All K KX
 | stuck _, _, _ => False
theorem all_bind {f : α → T β} {K : β → Prop} {KX : AV → Mem → Prop} : ∀ {t : T α}, (t.bind f).All K KX ↔ t.All (fun a => (f a).All K KX) KX
 | leaf _ => Iff.rfl
 | exc _ _ => Iff.rfl
 | ite c t e => by
  show ((c = true → (t.bind f).All K KX) ∧ (c = false → (e.bind f).All K KX)) ↔ _
  rw [all_bind, all_bind]; rfl
 | req p t => by
  show (p ∧ (t.bind f).All K KX) ↔ _
  rw [all_bind]; rfl
 | stuck _ => Iff.rfl
theorem All.mono {K K' : α → Prop} {KX KX' : AV → Mem → Prop} (hK : ∀ a, K a → K' a) (hX : ∀ x m, KX x m → KX' x m) : ∀ {t : T α}, t.All K KX → t.All K' KX'
 | leaf _, h => hK _ h
 | exc _ _, h => hX _ _ h
 | ite _ _ _, h => ⟨fun c => (h.1 c).mono hK hX, fun c => (h.2 c).mono hK hX⟩
 | req _ _, h => ⟨h.1, h.2.mono hK hX⟩
 | stuck _, h => h.elim
end T
noncomputable def fldS : Addr → List String
 | 59 => ["what", "at"]
 | 211 => ["value", "mask"]
 | 366 => ["bits", "umin", "umax", "smin", "smax", "umin32", "umax32", "smin32", "smax32"]
 | 486 => ["kind", "off", "scalar", "number", "map_number", "reach", "room", "frame"]
 | 614 => ["code", "dst", "src", "off", "imm", "more"]
 | 818 => ["regs", "cells", "back"]
 | 900 => ["frames", "next_number", "rooms"]
 | _ => []
noncomputable def flds (C : Addr) : List Str := (fldS C).map Str.ofString
noncomputable abbrev tupO (vs : List Value) (n : Nat) : Obj := { cls := .type "tuple", data := .seq vs.toArray n }
noncomputable abbrev lstO (vs : List Value) (n : Nat) : Obj := { cls := .type "list", data := .seq vs.toArray n }
structure Gh where
 F : Addr → Option Obj
 th : List (List Addr)
inductive IntVals : List Int → List Value → Prop
 | nil : IntVals [] []
 | cons {i t xs vs} : IntVals xs vs → IntVals (i :: xs) (.int i t :: vs)
noncomputable abbrev rngO (lo hi : Int) (t u v : Tok) : Obj := { cls := .type "range", dict := none, data := .fields #[.int lo t, .int hi u, .int 1 v], slots := #[] }
mutual
inductive Rep (P : Params) (g : Gh) : AV → Value → Prop
 | none : Rep P g .none .none
 | bool (b : Bool) : Rep P g (.bool b) (.bool b)
 | int (i : Int) (t : Tok) : Rep P g (.int i) (.int i t)
 | str (s : Str) (t : Tok) : Rep P g (.str s) (.str s t)
 | val (v : Value) : Rep P g (.val v) v
 | any (v : Value) : Rep P g .any v
 | hnd {k : Nat} {a : Addr} {r : List Addr} : g.th[k]? = some (a :: r) → Rep P g (.hnd k) (.ref a)
 | tup {xs : List AV} {vs : List Value} {a : Addr} {n : Nat} : g.F a = some (tupO vs n) → Reps P g xs vs → Rep P g (.tup xs) (.ref a)
 | lst {xs : List AV} {vs : List Value} {a : Addr} {n : Nat} : g.F a = some (lstO vs n) → Reps P g xs vs → Rep P g (.lst xs) (.ref a)
 | ints {xs : List Int} {vs : List Value} {a : Addr} {n : Nat} : g.F a = some (lstO vs n) → IntVals xs vs → Rep P g (.ints xs) (.ref a)
 | obj {C : Addr} {xs : List AV} {a d : Addr} {es : List DictEntry} {n : Nat} : g.F a = some (instObj C d) → g.F d = some (dictOf es n) → Ents P g (flds C) es xs → Rep P g (.obj C xs) (.ref a)
 | rng {lo hi : Int} {a : Addr} {t u v : Tok} : g.F a = some (rngO lo hi t u v) → Rep P g (.rng lo hi) (.ref a)
inductive Reps (P : Params) (g : Gh) : List AV → List Value → Prop
 | nil : Reps P g [] []
 | cons {x : AV} {xs : List AV} {v : Value} {vs : List Value} : Rep P g x v → Reps P g xs vs → Reps P g (x :: xs) (v :: vs)
inductive Ents (P : Params) (g : Gh) : List Str → List DictEntry → List AV → Prop
 | nil : Ents P g [] [] []
 | cons {f : Str} {t : Tok} {v : Value} {x : AV} {fs : List Str} {es : List DictEntry} {xs : List AV} : Rep P g x v → Ents P g fs es xs → Ents P g (f :: fs) (⟨PyData.keyHash P f, .str f t, v⟩ :: es) (x :: xs)
end
structure Gr (g g' : Gh) : Prop where
 F : ∀ a o, g.F a = some o → g'.F a = some o
 th : ∀ (k : Nat) (l : List Addr), g.th[k]? = some l → g'.th[k]? = some l
theorem Gr.refl (g : Gh) : Gr g g := ⟨fun _ _ h => h, fun _ _ h => h⟩
theorem Gr.trans {a b c : Gh} (x : Gr a b) (y : Gr b c) : Gr a c := ⟨fun _ _ h => y.F _ _ (x.F _ _ h), fun _ _ h => y.th _ _ (x.th _ _ h)⟩
section
variable {P : Params} {g g' : Gh}
noncomputable def RepI (P : Params) (g : Gh) (x : AV) (v : Value) : Prop := match x with
 | .none => v = .none
 | .bool b => v = .bool b
 | .int i => ∃ t, v = .int i t
 | .str s => ∃ t, v = .str s t
 | .val u => v = u
 | .any => True
 | .hnd k => ∃ a r, v = .ref a ∧ g.th[k]? = some (a :: r)
 | .tup xs => ∃ vs a n, v = .ref a ∧ g.F a = some (tupO vs n) ∧ Reps P g xs vs
 | .lst xs => ∃ vs a n, v = .ref a ∧ g.F a = some (lstO vs n) ∧ Reps P g xs vs
 | .ints xs => ∃ vs a n, v = .ref a ∧ g.F a = some (lstO vs n) ∧ IntVals xs vs
 | .obj C xs => ∃ a d es n, v = .ref a ∧ g.F a = some (instObj C d) ∧ g.F d = some (dictOf es n) ∧ Ents P g (flds C) es xs
 | .rng lo hi => ∃ a t u w, v = .ref a ∧ g.F a = some (rngO lo hi t u w)
theorem Rep.inv {x : AV} {v : Value} (h : Rep P g x v) : RepI P g x v := by
 cases h with
 | none => rfl
 | bool => rfl
 | int _ t => exact ⟨t, rfl⟩
 | str _ t => exact ⟨t, rfl⟩
 | val => rfl
 | any => trivial
 | hnd e => exact ⟨_, _, rfl, e⟩
 | tup e r => exact ⟨_, _, _, rfl, e, r⟩
 | lst e r => exact ⟨_, _, _, rfl, e, r⟩
 | «ints» e r => exact ⟨_, _, _, rfl, e, r⟩
 | obj e d r => exact ⟨_, _, _, _, rfl, e, d, r⟩
 | rng e => exact ⟨_, _, _, _, rfl, e⟩
noncomputable def RepsI (P : Params) (g : Gh) (x : List AV) (w : List Value) : Prop := match x with
 | [] => w = []
 | x :: xs => ∃ v vs, w = v :: vs ∧ Rep P g x v ∧ Reps P g xs vs
theorem Reps.inv {x : List AV} {v : List Value} (h : Reps P g x v) : RepsI P g x v := by
 cases h with
 | nil => rfl
 | cons a r => exact ⟨_, _, rfl, a, r⟩
noncomputable def EntsI (P : Params) (g : Gh) (e : List DictEntry) (x : List AV) (f : List Str) : Prop := match x with
 | [] => f = [] ∧ e = []
 | x :: xs => ∃ f' fs t v es, f = f' :: fs ∧ e = ⟨PyData.keyHash P f', .str f' t, v⟩ :: es ∧ Rep P g x v ∧ Ents P g fs es xs
theorem Ents.inv {f : List Str} {x : List AV} {e : List DictEntry} (h : Ents P g f e x) : EntsI P g e x f := by
 cases h with
 | nil => exact ⟨rfl, rfl⟩
 | cons a r => exact ⟨_, _, _, _, _, rfl, rfl, a, r⟩
noncomputable def IntsI (x : List Int) (w : List Value) : Prop := match x with
 | [] => w = []
 | i :: xs => ∃ t vs, w = .int i t :: vs ∧ IntVals xs vs
theorem IntVals.inv {x : List Int} {w : List Value} (h : IntVals x w) : IntsI x w := by
 cases h with
 | nil => rfl
 | cons r => exact ⟨_, _, rfl, r⟩
mutual
noncomputable def renAV (f : Nat → Nat) : AV → AV
 | .hnd j => .hnd (f j)
 | .tup xs => .tup (renAVs f xs)
 | .lst xs => .lst (renAVs f xs)
 | .obj C xs => .obj C (renAVs f xs)
 | .none => .none
 | .bool b => .bool b
 | .int i => .int i
 | .str s => .str s
 | .val v => .val v
 | .ints xs => .ints xs
 | .rng a b => .rng a b
 | .any => .any
noncomputable def renAVs (f : Nat → Nat) : List AV → List AV
 | [] => []
 | x :: r => renAV f x :: renAVs f r
end
mutual
noncomputable def closedP (b : Nat → Bool) : AV → Bool
 | .hnd j => b j
 | .tup xs => closedPs b xs
 | .lst xs => closedPs b xs
 | .obj _ xs => closedPs b xs
 | _ => true
noncomputable def closedPs (b : Nat → Bool) : List AV → Bool
 | [] => true
 | x :: r => closedP b x && closedPs b r
end
theorem closedP_true (x : AV) : closedP (fun _ => true) x = true :=
 AV.rec (motive_1 := fun x => closedP (fun _ => true) x = true) (motive_2 := fun x => closedPs (fun _ => true) x = true) rfl (fun _ => rfl) (fun _ => rfl) (fun _ => rfl) (fun _ => rfl) (fun _ h => h) (fun _ h => h) (fun _ => rfl) (fun _ _ h => h) (fun _ => rfl) (fun _ _ => rfl) rfl rfl
  (fun _ _ h hs => Bool.and_eq_true_iff.mpr ⟨h, hs⟩) x
theorem closedPs_true : ∀ x : List AV, closedPs (fun _ => true) x = true
 | [] => rfl
 | x :: xs => Bool.and_eq_true_iff.mpr ⟨closedP_true x, closedPs_true xs⟩
theorem renAV_id (x : AV) : renAV (fun j => j) x = x :=
 AV.rec (motive_1 := fun x => renAV (fun j => j) x = x) (motive_2 := fun x => renAVs (fun j => j) x = x) rfl (fun _ => rfl) (fun _ => rfl) (fun _ => rfl) (fun _ => rfl) (fun _ h => congrArg AV.tup h) (fun _ h => congrArg AV.lst h) (fun _ => rfl) (fun C _ h => congrArg (AV.obj C) h) (fun _ => rfl) (fun _ _ => rfl) rfl rfl
  (fun x xs h hs => by show renAV _ x :: renAVs _ xs = _; rw [h, hs]) x
theorem renAVs_id : ∀ x : List AV, renAVs (fun j => j) x = x
 | [] => rfl
 | x :: xs => by show renAV _ x :: renAVs _ xs = _; rw [renAV_id, renAVs_id xs]
structure RMap (P : Params) (g g' : Gh) (p q : Nat → Nat) (x : AV) : Prop where
 ap : ∀ v, Rep P g (renAV p x) v → Rep P g' (renAV q x) v
structure RMap2 (P : Params) (g g' : Gh) (p q : Nat → Nat) (x : List AV) : Prop where
 r : ∀ v, Reps P g (renAVs p x) v → Reps P g' (renAVs q x) v
 e : ∀ f v, Ents P g f v (renAVs p x) → Ents P g' f v (renAVs q x)
theorem RMap2.nil {p q : Nat → Nat} : RMap2 P g g' p q [] where
 r := fun v h => by rw [show v = [] from h.inv]; exact .nil
 e := fun f v h => by obtain ⟨h1, h2⟩ : f = [] ∧ v = [] := h.inv; rw [h1, h2]; exact .nil
theorem RMap2.cons {p q : Nat → Nat} {x : AV} {xs : List AV} (h : RMap P g g' p q x) (hs : RMap2 P g g' p q xs) : RMap2 P g g' p q (x :: xs) where
 r := fun v z => by obtain ⟨v, vs, rfl, a, r⟩ := z.inv; exact .cons (h.ap _ a) (hs.r _ r)
 e := fun f v z => by obtain ⟨_, _, _, _, _, rfl, rfl, a, r⟩ := z.inv; exact .cons (h.ap _ a) (hs.e _ _ r)
theorem RMap.gen {p q : Nat → Nat} {b : Nat → Bool} (hF : ∀ a o, g.F a = some o → g'.F a = some o) (ht : ∀ (j : Nat) (l : List Addr), b j = true → g.th[p j]? = some l → g'.th[q j]? = some l) (x : AV) : closedP b x = true → RMap P g g' p q x :=
 AV.rec (motive_1 := fun x => closedP b x = true → RMap P g g' p q x) (motive_2 := fun x => closedPs b x = true → RMap2 P g g' p q x)
  (fun _ => ⟨fun v h => by rw [show v = _ from h.inv]; exact .none⟩)
  (fun b _ => ⟨fun v h => by rw [show v = _ from h.inv]; exact .bool b⟩)
  (fun i _ => ⟨fun v h => by obtain ⟨t, rfl⟩ := h.inv; exact .int i t⟩)
  (fun i _ => ⟨fun v h => by obtain ⟨t, rfl⟩ := h.inv; exact .str i t⟩)
  (fun u _ => ⟨fun v h => by rw [show v = _ from h.inv]; exact .val u⟩)
  (fun xs ih k => ⟨fun v h => by obtain ⟨_, _, _, rfl, e, r⟩ := h.inv; exact .tup (hF _ _ e) ((ih k).r _ r)⟩)
  (fun xs ih k => ⟨fun v h => by obtain ⟨_, _, _, rfl, e, r⟩ := h.inv; exact .lst (hF _ _ e) ((ih k).r _ r)⟩)
  (fun xs _ => ⟨fun v h => by obtain ⟨_, _, _, rfl, e, r⟩ := h.inv; exact .ints (hF _ _ e) r⟩)
  (fun C xs ih k => ⟨fun v h => by obtain ⟨_, _, _, _, rfl, e, d, r⟩ := h.inv; exact .obj (hF _ _ e) (hF _ _ d) ((ih k).e _ _ r)⟩)
  (fun j k => ⟨fun v h => by obtain ⟨_, _, rfl, e⟩ := h.inv; exact .hnd (ht _ _ k e)⟩)
  (fun lo hi _ => ⟨fun v h => by obtain ⟨_, _, _, _, rfl, e⟩ := h.inv; exact .rng (hF _ _ e)⟩)
  (fun _ => ⟨fun v _ => .any v⟩)
  (fun _ => .nil) (fun x xs h hs k => have k := Bool.and_eq_true_iff.mp k; .cons (h k.1) (hs k.2)) x
theorem RMap.gens {p q : Nat → Nat} {b : Nat → Bool} (hF : ∀ a o, g.F a = some o → g'.F a = some o) (ht : ∀ (j : Nat) (l : List Addr), b j = true → g.th[p j]? = some l → g'.th[q j]? = some l) : ∀ x : List AV, closedPs b x = true → RMap2 P g g' p q x
 | [], _ => .nil
 | x :: xs, k => have k := Bool.and_eq_true_iff.mp k; .cons (RMap.gen hF ht x k.1) (RMap.gens hF ht xs k.2)
theorem Rep.mono (m : Gr g g') {x : AV} {v : Value} (h : Rep P g x v) : Rep P g' x v :=
 renAV_id x ▸ (RMap.gen (p := fun j => j) (q := fun j => j) m.F (fun j l _ => m.th j l) x (closedP_true x)).ap v ((renAV_id x).symm ▸ h)
theorem Reps.mono (m : Gr g g') {x : List AV} {v : List Value} (h : Reps P g x v) : Reps P g' x v :=
 renAVs_id x ▸ (RMap.gens (p := fun j => j) (q := fun j => j) m.F (fun j l _ => m.th j l) x (closedPs_true x)).r v ((renAVs_id x).symm ▸ h)
theorem Ents.mono (m : Gr g g') {f : List Str} {x : List AV} {v : List DictEntry} (h : Ents P g f v x) : Ents P g' f v x :=
 renAVs_id x ▸ (RMap.gens (p := fun j => j) (q := fun j => j) m.F (fun j l _ => m.th j l) x (closedPs_true x)).e f v ((renAVs_id x).symm ▸ h)
theorem Reps.length : ∀ {x : List AV} {v : List Value}, Reps P g x v → v.length = x.length
 | [], v, h => by rw [show v = [] from h.inv]; rfl
 | x :: xs, v, h => by obtain ⟨u, us, rfl, _, r⟩ := h.inv; exact congrArg (· + 1) r.length
theorem Reps.get : ∀ {x : List AV} {v : List Value}, Reps P g x v → ∀ {k : Nat} {y : AV}, x[k]? = some y → ∃ u, v[k]? = some u ∧ Rep P g y u
 | [], _, _, _, _, h => nomatch h
 | x :: xs, v, h, k, y, e => by
  obtain ⟨u, us, rfl, a, r⟩ := h.inv
  cases k with
  | zero => exact ⟨u, rfl, Option.some.inj e ▸ a⟩
  | succ k => exact r.get (k := k) e
theorem Reps.append : ∀ {x y : List AV} {v u : List Value}, Reps P g x v → Reps P g y u → Reps P g (x ++ y) (v ++ u)
 | [], y, v, u, h, q => by rw [show v = [] from h.inv]; exact q
 | x :: xs, y, v, u, h, q => by obtain ⟨_, _, rfl, a, r⟩ := h.inv; exact .cons a (r.append q)
theorem Reps.set {y : AV} {u : Value} (h : Rep P g y u) : ∀ {x : List AV} {v : List Value}, Reps P g x v → ∀ k, Reps P g (x.set k y) (v.set k u)
 | [], v, q, _ => by rw [show v = [] from q.inv]; exact .nil
 | x :: xs, v, q, k => by
  obtain ⟨_, _, rfl, a, r⟩ := q.inv
  cases k with
  | zero => exact .cons h r
  | succ k => exact .cons a (r.set h k)
theorem IntVals.reps : ∀ {x : List Int} {v : List Value}, IntVals x v → Reps P g (x.map .int) v
 | [], v, h => by rw [show v = [] from h.inv]; exact .nil
 | x :: xs, v, h => by obtain ⟨_, _, rfl, r⟩ := h.inv; exact .cons (.int _ _) r.reps
theorem IntVals.of_reps : ∀ {x : List Int} {v : List Value}, Reps P g (x.map .int) v → IntVals x v
 | [], v, h => by rw [show v = [] from h.inv]; exact .nil
 | x :: xs, v, h => by
  obtain ⟨w, _, rfl, a, r⟩ := h.inv
  obtain ⟨t, rfl⟩ := a.inv
  exact .cons (IntVals.of_reps r)
theorem IntVals.length : ∀ {x : List Int} {v : List Value}, IntVals x v → v.length = x.length
 | [], v, h => by rw [show v = [] from h.inv]; rfl
 | x :: xs, v, h => by obtain ⟨_, _, rfl, r⟩ := h.inv; exact congrArg (· + 1) r.length
theorem IntVals.get : ∀ {x : List Int} {v : List Value}, IntVals x v → ∀ {k : Nat} {y : Int}, x[k]? = some y → ∃ t, v[k]? = some (.int y t)
 | [], _, _, _, _, h => nomatch h
 | x :: xs, v, h, k, y, e => by
  obtain ⟨t, us, rfl, r⟩ := h.inv
  cases k with
  | zero => exact ⟨t, by rw [← Option.some.inj e]; rfl⟩
  | succ k => exact r.get (k := k) e
theorem IntVals.append : ∀ {x y : List Int} {v u : List Value}, IntVals x v → IntVals y u → IntVals (x ++ y) (v ++ u)
 | [], y, v, u, h, q => by rw [show v = [] from h.inv]; exact q
 | x :: xs, y, v, u, h, q => by obtain ⟨_, _, rfl, r⟩ := h.inv; exact .cons (r.append q)
end
structure Cx where
 w : World
 h0 : Heap
 mg : Str → Option Value
 mb : Str → Option Value
 K : (kFrag w.params).In h0
 hg : h0.Ns mainGlobals mg
 hb : h0.Ns builtinsNs mb
 lim : h0.NoLimit
 bi : ∀ x : Str, x ≠ "__name__" → mb x = bootBuiltins x
noncomputable def CellOK (P : Params) (g : Gh) (h : Heap) (l : List Addr) : MO → Prop
 | .lst xs => ∃ a vs, l = [a] ∧ h.IsList a vs.toArray ∧ Reps P g xs vs
 | .inst C fs => ∃ a d es n, l = [a, d] ∧ h.get? a = some (instObj C d) ∧ h.get? d = some (dictOf es n) ∧ Ents P g (fs.map (·.1)) es (fs.map (·.2))
 | .junk => True
noncomputable def FrameOK (g : Gh) (h : Heap) (env : Env) : Prop :=
 env.scope.kind ≠ .module ∧ ∃ L o es n, env.frame = some L ∧ h.get? L = some o ∧ o.data = .dict es n ∧ g.F L = none ∧ L ∉ g.th.flatten
noncomputable def Liv (h : Heap) (a : Addr) : Prop := ∃ o, h.get? a = some o
structure Inv (c : Cx) (A : Around) (g : Gh) (s : Shared) (mem : Mem) : Prop where
 frz : ∀ a o, g.F a = some o → s.heap.get? a = some o
 base : ∀ a o, c.h0.get? a = some o → g.F a = some o
 len : mem.length = g.th.length
 cell : ∀ (k : Nat) (m : MO) (l : List Addr), mem[k]? = some m → g.th[k]? = some l → CellOK c.w.params g s.heap l m
 nd : g.th.flatten.Nodup
 free : ∀ a ∈ g.th.flatten, g.F a = none ∧ Liv s.heap a
 stk : ∃ l, A.frames = some l ∧ ∀ env ∈ l, FrameOK g s.heap env
noncomputable def IsFr (A : Around) (p : Addr) : Prop := ∃ l env, A.frames = some l ∧ env ∈ l ∧ env.frame = some p
structure Ext (A : Around) (B : Addr → Prop) (X : Addr → Prop) (g : Gh) (s : Shared) (g' : Gh) (s' : Shared) : Prop where
 gens : s'.gens = s.gens
 drawn : s'.drawn = s.drawn
 os : s'.os = s.os
 gr : Gr g g'
 newF : ∀ a, g.F a = none → g'.F a ≠ none → ¬ B a
 newT : ∀ a, a ∈ g'.th.flatten → a ∈ g.th.flatten ∨ ¬ B a
 keep : ∀ a o, B a → s.heap.get? a = some o → a ∉ g.th.flatten → ¬ X a → ∃ sl, s'.heap.get? a = some { o with slots := sl } ∧ (¬ IsFr A a → sl = o.slots)
 live : ∀ a, B a → Liv s.heap a → Liv s'.heap a
noncomputable abbrev noX : Addr → Prop := fun _ => False
theorem Ext.refl {A : Around} (B : Addr → Prop) (X : Addr → Prop) (g : Gh) (s : Shared) : Ext A B X g s g s :=
 ⟨rfl, rfl, rfl, .refl g, fun _ h h' => (h' h).elim, fun _ h => .inl h, fun _ o _ h _ _ => ⟨o.slots, h, fun _ => rfl⟩, fun _ _ h => h⟩
theorem Ext.trans {A : Around} {B : Addr → Prop} {X : Addr → Prop} {g g1 g2 : Gh} {s s1 s2 : Shared} (x : Ext A B X g s g1 s1) (y : Ext A B X g1 s1 g2 s2) : Ext A B X g s g2 s2 where
 gens := y.gens.trans x.gens
 drawn := y.drawn.trans x.drawn
 os := y.os.trans x.os
 gr := x.gr.trans y.gr
 newF := fun a h h' => by
  cases q : g1.F a with
  | none => exact y.newF a q h'
  | some o => exact x.newF a h (by rw [q]; intro e; cases e)
 newT := fun a h => (y.newT a h).elim (x.newT a) .inr
 keep := fun a o lt h nt nx => by
  obtain ⟨sl, h1, e1⟩ := x.keep a o lt h nt nx
  obtain ⟨sl2, h2, e2⟩ := y.keep a _ lt h1 (fun q => (x.newT a q).elim nt fun q => q lt) nx
  exact ⟨sl2, h2, fun q => (e2 q).trans (e1 q)⟩
 live := fun a b h => y.live a b (x.live a b h)
theorem Ext.weaken {A : Around} {B B' : Addr → Prop} {X X' : Addr → Prop} {g g' : Gh} {s s' : Shared} (x : Ext A B X g s g' s') (le : ∀ a, B' a → B a) (hX : ∀ a, X a → X' a) : Ext A B' X' g s g' s' :=
 ⟨x.gens, x.drawn, x.os, x.gr, fun a h h' q => x.newF a h h' (le a q), fun a h => (x.newT a h).imp id fun q r => q (le a r), fun a o lt h nt nx => x.keep a o (le a lt) h nt fun q => nx (hX a q), fun a b h => x.live a (le a b) h⟩
theorem Ext.liv {A : Around} {X : Addr → Prop} {g g' : Gh} {s s' : Shared} (x : Ext A (Liv s.heap) X g s g' s') (a : Addr) (h : Liv s.heap a) : Liv s'.heap a := x.live a h h
theorem Ext.then {A : Around} {X : Addr → Prop} {g g1 g2 : Gh} {s s1 s2 : Shared} (x : Ext A (Liv s.heap) X g s g1 s1) (y : Ext A (Liv s1.heap) X g1 s1 g2 s2) : Ext A (Liv s.heap) X g s g2 s2 :=
 x.trans (y.weaken x.liv fun _ h => h)
theorem Ext.toks (A : Around) (B : Addr → Prop) (X : Addr → Prop) (g : Gh) (s : Shared) (t : Nat) : Ext A B X g s g { s with toks := t } :=
 ⟨rfl, rfl, rfl, .refl g, fun _ h h' => (h' h).elim, fun _ h => .inl h, fun _ o _ h _ _ => ⟨o.slots, h, fun _ => rfl⟩, fun _ _ h => h⟩
theorem Inv.toks {c : Cx} {A : Around} {g : Gh} {s : Shared} {mem : Mem} (I : Inv c A g s mem) (t : Nat) : Inv c A g { s with toks := t } mem :=
 ⟨I.frz, I.base, I.len, I.cell, I.nd, I.free, I.stk⟩
structure Exc (c : Cx) (B : Addr → Prop) (x : AV) (s : Shared) (g : Gh) (ea dx : Addr) (oe : Obj) (vs : Array Value) : Prop where
 nb : ¬ B ea
 nt : ea ∉ g.th.flatten
 nf : g.F ea = none
 get : s.heap.get? ea = some oe
 cls : oe.cls = .ref 59
 dict : oe.dict = some dx
 ent : ∃ es n v, g.F dx = some (dictOf es n) ∧ getL "at" es = some (some v) ∧ Rep c.w.params g x v
 data : oe.data = .fields vs
structure TbAt (B : Addr → Prop) (s : Shared) (g : Gh) (ea : Addr) (vs : Array Value) (fl : Value) (t : Addr) (oT : Obj) (ts : Array Value) : Prop where
 at_ : vs[1]? = some (.ref t)
 nb : ¬ B t
 ne : t ≠ ea
 nt : t ∉ g.th.flatten
 nf : g.F t = none
 get : s.heap.get? t = some oT
 data : oT.data = .fields ts
 fl : ts[3]? = some fl
noncomputable def Fly (c : Cx) (B : Addr → Prop) (e : Value) (x : AV) (s : Shared) (g : Gh) : Prop :=
 ∃ ea dx oe vs, e = .ref ea ∧ Exc c B x s g ea dx oe vs ∧ (vs[1]? = some .none ∨ ∃ t oT ts, TbAt B s g ea vs .none t oT ts)
theorem Fly.weaken {c : Cx} {B B' : Addr → Prop} {e : Value} {x : AV} {s : Shared} {g : Gh} (h : Fly c B e x s g) (le : ∀ a, B' a → B a) : Fly c B' e x s g := by
 obtain ⟨ea, dx, oe, vs, h1, h2, h3⟩ := h
 exact ⟨ea, dx, oe, vs, h1, ⟨fun q => h2.nb (le _ q), h2.nt, h2.nf, h2.get, h2.cls, h2.dict, h2.ent, h2.data⟩, h3.imp id fun ⟨t, oT, ts, k⟩ => ⟨t, oT, ts, k.at_, fun q => k.nb (le _ q), k.ne, k.nt, k.nf, k.get, k.data, k.fl⟩⟩
noncomputable def Post (c : Cx) (A : Around) (X : Addr → Prop) (s : Shared) (g : Gh) {α ρ : Type} (R : α → ρ → Gh → Shared → Prop) (K : ρ × Mem → Prop) (Q : α → Shared → Prop) : Prop :=
 ∀ a r s' g' mem', Ext A (Liv s.heap) X g s g' s' → Inv c A g' s' mem' → R a r g' s' → K (r, mem') → Q a s'
noncomputable def PostX (c : Cx) (A : Around) (X : Addr → Prop) (s : Shared) (g : Gh) (KX : AV → Mem → Prop) (E : Value → Shared → Prop) : Prop :=
 ∀ e x s' g' mem', Ext A (Liv s.heap) X g s g' s' → Inv c A g' s' mem' → Fly c (Liv s.heap) e x s' g' → KX x mem' → E e s'
section
variable {c : Cx} {A : Around} {X : Addr → Prop} {s s1 : Shared} {g g1 : Gh} {α ρ : Type} {R : α → ρ → Gh → Shared → Prop} {K : ρ × Mem → Prop} {KX : AV → Mem → Prop} {Q : α → Shared → Prop} {E : Value → Shared → Prop}
theorem Post.lift (h : Post c A X s g R K Q) (x : Ext A (Liv s.heap) X g s g1 s1) : Post c A X s1 g1 R K Q :=
 fun a r s2 g2 m2 x2 i2 q2 k2 => h a r s2 g2 m2 (x.then x2) i2 q2 k2
theorem PostX.lift (h : PostX c A X s g KX E) (x : Ext A (Liv s.heap) X g s g1 s1) : PostX c A X s1 g1 KX E :=
 fun e y s2 g2 m2 x2 i2 f2 k2 => h e y s2 g2 m2 (x.then x2) i2 (f2.weaken x.liv) k2
end
noncomputable def Tri (c : Cx) (A : Around) (X : Addr → Prop) (s : Shared) (g : Gh) {α ρ : Type} (t : Sem α) (R : α → ρ → Gh → Shared → Prop) (τ : T (ρ × Mem)) : Prop :=
 ∀ (Q : α → Shared → Prop) (E : Value → Shared → Prop) (K : ρ × Mem → Prop) (KX : AV → Mem → Prop), τ.All K KX → Post c A X s g R K Q → PostX c A X s g KX E → wpAny (model pw c.w) A t Q E s
section
variable {c : Cx} {A : Around} {X : Addr → Prop} {s : Shared} {g : Gh} {mem : Mem} {α β ρ σ : Type}
theorem Tri.use {t : Sem α} {R : α → ρ → Gh → Shared → Prop} {R' : β → σ → Gh → Shared → Prop} {τ : T (ρ × Mem)} {φ : ρ × Mem → T (σ × Mem)} {K : σ × Mem → Prop} {KX : AV → Mem → Prop} {Q : β → Shared → Prop} {E : Value → Shared → Prop} {Q' : α → Shared → Prop}
  (h : Tri c A X s g t R τ) (hA : (τ.bind φ).All K KX) (hQ : Post c A X s g R' K Q) (hE : PostX c A X s g KX E)
  (k : ∀ a r s1 g1 mem1, Ext A (Liv s.heap) X g s g1 s1 → Inv c A g1 s1 mem1 → R a r g1 s1 → (φ (r, mem1)).All K KX → Post c A X s1 g1 R' K Q → PostX c A X s1 g1 KX E → Q' a s1) : wpAny (model pw c.w) A t Q' E s :=
 h _ E _ KX (T.all_bind.mp hA) (fun a r s1 g1 m1 x i q hk => k a r s1 g1 m1 x i q hk (hQ.lift x) (hE.lift x)) hE
theorem Tri.bind {t : Sem α} {f : α → Sem β} {R : α → ρ → Gh → Shared → Prop} {R' : β → σ → Gh → Shared → Prop} {τ : T (ρ × Mem)} {φ : ρ × Mem → T (σ × Mem)} (h : Tri c A X s g t R τ)
  (k : ∀ a r s1 g1 mem1, Ext A (Liv s.heap) X g s g1 s1 → Inv c A g1 s1 mem1 → R a r g1 s1 → Tri c A X s1 g1 (f a) R' (φ (r, mem1))) : Tri c A X s g (t >>= f) R' (τ.bind φ) := by
 intro Q E K KX hA hQ hE
 exact wpAny_bind (h.use hA hQ hE fun a r s1 g1 m1 x i q hk hQ1 hE1 => k a r s1 g1 m1 x i q Q E K KX hk hQ1 hE1)
theorem Tri.leaf {a : α} {r : ρ} {R : α → ρ → Gh → Shared → Prop} (I : Inv c A g s mem) (h : R a r g s) : Tri c A X s g (pure a) R (.leaf (r, mem)) :=
 fun _ _ _ _ hA hQ _ => wpAny_pure (hQ _ _ _ _ _ (.refl ..) I h hA)
theorem Tri.ite {t : Sem α} {R : α → ρ → Gh → Shared → Prop} {b : Bool} {τ σ : T (ρ × Mem)} (h1 : b = true → Tri c A X s g t R τ) (h2 : b = false → Tri c A X s g t R σ) : Tri c A X s g t R (.ite b τ σ) :=
 fun Q E K KX hA hQ hE => by
  cases hb : b with
  | true => exact h1 hb Q E K KX (hA.1 hb) hQ hE
  | false => exact h2 hb Q E K KX (hA.2 hb) hQ hE
theorem Tri.req {t : Sem α} {R : α → ρ → Gh → Shared → Prop} {p : Prop} {τ : T (ρ × Mem)} (h : p → Tri c A X s g t R τ) : Tri c A X s g t R (.req p τ) :=
 fun Q E K KX hA hQ hE => h hA.1 Q E K KX hA.2 hQ hE
theorem Tri.stuck {t : Sem α} {R : α → ρ → Gh → Shared → Prop} {w : String} : Tri c A X s g t R (T.stuck w : T (ρ × Mem)) := fun _ _ _ _ hA _ _ => hA.elim
theorem Tri.mono {t : Sem α} {R R' : α → ρ → Gh → Shared → Prop} {τ : T (ρ × Mem)} (h : Tri c A X s g t R τ) (k : ∀ a r g s, R a r g s → R' a r g s) : Tri c A X s g t R' τ :=
 fun Q E K KX hA hQ hE => h Q E K KX hA (fun a r s' g' m' x i q => hQ a r s' g' m' x i (k _ _ _ _ q)) hE
theorem Tri.of {t : Sem α} {r : ρ} {R : α → ρ → Gh → Shared → Prop}
  (h : ∀ (Q : α → Shared → Prop) (E : Value → Shared → Prop), (∀ a s' g', Ext A (Liv s.heap) X g s g' s' → Inv c A g' s' mem → R a r g' s' → Q a s') → wpAny (model pw c.w) A t Q E s) : Tri c A X s g t R (.leaf (r, mem)) :=
 fun Q E _ _ hA hQ _ => h Q E fun a s' g' x i q => hQ a r s' g' mem x i q hA
end
end
section
open PySem PySem.W PyProof.Rows PySem.Calls
set_option backward.match.sparseCases false
noncomputable def lkS {α : Type} (n : Str) : List (String × α) → Option α
 | [] => none
 | (k, v) :: r => if n = Str.ofString k then some v else lkS n r
noncomputable def lkA {α : Type} (a : Addr) : List (Addr × α) → Option α
 | [] => none
 | (k, v) :: r => match Nat.beq a k with
  | true => some v
  | false => lkA a r
noncomputable def getLo (n : Str) : Lo → Option AV
 | [] => none
 | (k, v) :: r => if n = k then some v else getLo n r
noncomputable def putLo (n : Str) (v : AV) : Lo → Lo
 | [] => [(n, v)]
 | (k, u) :: r => if n = k then (k, v) :: r else (k, u) :: putLo n v r
noncomputable def methS : Addr → List (String × Addr)
 | 211 => [("contains", 142), ("is_const", 149), ("least", 156), ("most", 163), ("signed_least", 171), ("signed_most", 179), ("told", 200)]
 | 366 => [("contains", 328), ("is_const", 335), ("worth", 342), ("ends", 356), ("told", 363)]
 | 486 => [("told", 483)]
 | 900 => [("reg", 864), ("put", 871), ("fresh", 878)]
 | _ => []
noncomputable def statS : Addr → List (String × Addr)
 | 211 => [("const", 112), ("unknown", 122), ("span", 132)]
 | 366 => [("unknown", 278), ("const", 288), ("with_sign", 308), ("of_bits", 318)]
 | _ => []
noncomputable def idxS (n : Str) : List Str → Nat → Option Nat
 | [], _ => none
 | k :: r, i => if n = k then some i else idxS n r (i + 1)
noncomputable def lkE (n : Str) : List Str → List AV → Option AV
 | f :: fs, x :: xs => if n = f then some x else lkE n fs xs
 | _, _ => none
noncomputable def tame : AV → Bool
 | .val _ => false
 | .any => false
 | _ => true
noncomputable def tameO : Option AV → Option AV
 | some v => if tame v then some v else none
 | none => none
noncomputable def known (C : Addr) : Bool := [211, 366, 486, 614, 818, 900].any (Nat.beq C)
noncomputable def aInt : AV → Option Int
 | .int i => some i
 | _ => Option.none
noncomputable def aStr : AV → Option Str
 | .str i => some i
 | _ => Option.none
noncomputable def aBool : AV → Option Bool
 | .bool i => some i
 | _ => Option.none
noncomputable def aInts : AV → Option (List Int)
 | .ints i => some i
 | _ => Option.none
noncomputable def aHnd : AV → Option Nat
 | .hnd i => some i
 | _ => Option.none
noncomputable def aNone : AV → Bool
 | .none => true
 | _ => false
noncomputable def aAny : AV → Bool
 | .any => true
 | _ => false
noncomputable def aObj (C : Addr) : AV → Option (List AV)
 | .obj D xs => match Nat.beq D C with
  | true => some xs
  | false => Option.none
 | _ => Option.none
noncomputable def aLst : AV → Option (List AV)
 | .lst xs => some xs
 | _ => Option.none
noncomputable def aTup : AV → Option (List AV)
 | .tup xs => some xs
 | _ => Option.none
noncomputable def both {α β γ : Type} (a : Option α) (b : Option β) (f : α → β → γ) : Option γ := match a with
 | some x => match b with
  | some y => some (f x y)
  | Option.none => Option.none
 | Option.none => Option.none
theorem both_some {α β γ : Type} {a : Option α} {b : Option β} {f : α → β → γ} {z : γ} (h : both a b f = some z) : ∃ x y, a = some x ∧ b = some y ∧ z = f x y := by
 cases a with
 | none => exact nomatch h
 | some x =>
  cases b with
  | none => exact nomatch h
  | some y => exact ⟨x, y, rfl, rfl, (Option.some.inj h).symm⟩
noncomputable def OptP {α : Type} (p : α → Prop) (o : Option α) : Prop := match o with
 | some a => p a
 | Option.none => True
theorem OptP.of {α : Type} {p : α → Prop} {o : Option α} (h : OptP p o) {a : α} (e : o = some a) : p a := by subst e; exact h
theorem aInt_s {x : AV} {i : Int} (h : aInt x = some i) : x = .int i := (by cases x <;> first | exact trivial | exact rfl : OptP (x = .int ·) (aInt x)).of h
theorem aStr_s {x : AV} {i : Str} (h : aStr x = some i) : x = .str i := (by cases x <;> first | exact trivial | exact rfl : OptP (x = .str ·) (aStr x)).of h
theorem aBool_s {x : AV} {i : Bool} (h : aBool x = some i) : x = .bool i := (by cases x <;> first | exact trivial | exact rfl : OptP (x = .bool ·) (aBool x)).of h
theorem aInts_s {x : AV} {i : List Int} (h : aInts x = some i) : x = .ints i := (by cases x <;> first | exact trivial | exact rfl : OptP (x = .ints ·) (aInts x)).of h
theorem aHnd_s {x : AV} {i : Nat} (h : aHnd x = some i) : x = .hnd i := (by cases x <;> first | exact trivial | exact rfl : OptP (x = .hnd ·) (aHnd x)).of h
theorem aLst_s {x : AV} {i : List AV} (h : aLst x = some i) : x = .lst i := (by cases x <;> first | exact trivial | exact rfl : OptP (x = .lst ·) (aLst x)).of h
theorem aTup_s {x : AV} {i : List AV} (h : aTup x = some i) : x = .tup i := (by cases x <;> first | exact trivial | exact rfl : OptP (x = .tup ·) (aTup x)).of h
theorem aNone_s {x : AV} (h : aNone x = true) : x = .none := (by cases x <;> first | exact trivial | exact rfl : match aNone x with | true => x = .none | false => True) |> fun q => by rw [h] at q; exact q
theorem aAny_s {x : AV} (h : aAny x = true) : x = .any := (by cases x <;> first | exact trivial | exact rfl : match aAny x with | true => x = .any | false => True) |> fun q => by rw [h] at q; exact q
theorem aObj_s {C : Addr} {x : AV} {l : List AV} (h : aObj C x = some l) : x = .obj C l := (by
 cases x with
 | obj D xs =>
  show OptP (AV.obj D xs = .obj C ·) (match Nat.beq D C with
   | true => some xs
   | false => Option.none)
  cases q : Nat.beq D C with
  | true => exact Nat.eq_of_beq_eq_true q ▸ rfl
  | false => exact trivial
 | _ => exact trivial : OptP (x = .obj C ·) (aObj C x)).of h
noncomputable def optT {α β : Type} (o : Option α) (w : String) (f : α → T β) : T β := match o with
 | some a => f a
 | Option.none => .stuck w
noncomputable def condT {β : Type} (b : Bool) (w : String) (t : T β) : T β := match b with
 | true => t
 | false => .stuck w
theorem optT_all {α β : Type} {o : Option α} {w : String} {f : α → T β} {K : β → Prop} {KX : AV → Mem → Prop} (h : (optT o w f).All K KX) : ∃ a, o = some a ∧ (f a).All K KX := by
 cases o with
 | none => exact h.elim
 | some a => exact ⟨a, rfl, h⟩
theorem condT_all {β : Type} {b : Bool} {w : String} {t : T β} {K : β → Prop} {KX : AV → Mem → Prop} (h : (condT b w t).All K KX) : b = true ∧ t.All K KX := by
 cases b with
 | false => exact h.elim
 | true => exact ⟨rfl, h⟩
section
variable {c : Cx} {A : Around} {X : Addr → Prop} {s : Shared} {g : Gh} {α β ρ : Type}
theorem Tri.opt {t : Sem α} {R : α → ρ → Gh → Shared → Prop} {o : Option β} {w : String} {f : β → T (ρ × Mem)} (h : ∀ b, o = some b → Tri c A X s g t R (f b)) : Tri c A X s g t R (optT o w f) := by
 cases o with
 | none => exact Tri.stuck
 | some b => exact h b rfl
theorem Tri.cond {t : Sem α} {R : α → ρ → Gh → Shared → Prop} {b : Bool} {w : String} {τ : T (ρ × Mem)} (h : b = true → Tri c A X s g t R τ) : Tri c A X s g t R (condT b w τ) := by
 cases b with
 | false => exact Tri.stuck
 | true => exact h rfl
end
theorem map_s {α β : Type} {f : α → β} {o : Option α} {b : β} (h : o.map f = some b) : ∃ a, o = some a ∧ b = f a := by
 cases o with
 | none => exact nomatch h
 | some a => exact ⟨a, rfl, (Option.some.inj h).symm⟩
theorem bind_s {α β : Type} {f : α → Option β} {o : Option α} {b : β} (h : o.bind f = some b) : ∃ a, o = some a ∧ f a = some b := by
 cases o with
 | none => exact nomatch h
 | some a => exact ⟨a, rfl, h⟩
noncomputable def valRef (v : Value) : Option Addr := match v with
 | .ref C => some C
 | _ => Option.none
noncomputable def aRef (x : AV) : Option Addr := match x with
 | .val v => valRef v
 | _ => Option.none
noncomputable def moLst : MO → Option (List AV)
 | .lst xs => some xs
 | _ => Option.none
noncomputable def lstOf (m : Mem) (h : Nat) : Option (List AV) := m[h]?.bind moLst
theorem lstOf_s {m : Mem} {h : Nat} {xs : List AV} (q : lstOf m h = some xs) : m[h]? = some (.lst xs) := by
 obtain ⟨mo, h1, h2⟩ := bind_s q
 cases mo with
 | lst ys => rw [h1, Option.some.inj h2]
 | _ => exact nomatch h2
noncomputable def moInst : MO → Option (Addr × List Str × List AV)
 | .inst C fs => some (C, fs.map (·.1), fs.map (·.2))
 | _ => Option.none
noncomputable def instOf (m : Mem) (v : AV) : Option (Addr × List Str × List AV) := match v with
 | .obj C xs => some (C, flds C, xs)
 | .hnd k => m[k]?.bind moInst
 | _ => Option.none
noncomputable def attrOf (m : Mem) (v : AV) (n : Str) : Option AV := (instOf m v).bind fun p => match known p.1 && (flds p.1).contains n with
 | true => tameO (lkE n p.2.1 p.2.2)
 | false => none
noncomputable def clsOf (m : Mem) : AV → Option Addr
 | .obj C _ => some C
 | .hnd k => match m[k]? with
  | some (.inst C _) => some C
  | _ => none
 | _ => none
noncomputable def methOf (m : Mem) (v : AV) (n : Str) : Option (Value × List AV) := match instOf m v with
 | some p => match known p.1 && !(p.2.1.contains n) with
  | true => (lkS n (methS p.1)).map fun f => (.ref f, [v])
  | false => none
 | none => match aRef v with
  | some C => (lkS n (statS C)).map fun f => (.ref f, [])
  | none => (aStr v).bind fun _ => if n = Str.ofString "strip" then some (.builtin "str.strip", [v]) else if n = Str.ofString "split" then some (.builtin "str.split", [v]) else none
noncomputable def truB : AV → Option Bool
 | .none => some false
 | .bool b => some b
 | .int i => some (i != 0)
 | _ => none
noncomputable def int2T (a b : AV) (f : Int → Int → T (AV × Mem)) : T (AV × Mem) := optT (aInt a) "binT" fun x => optT (aInt b) "binT" fun y => f x y
noncomputable def lst2T (a b : AV) (m : Mem) (z : T (AV × Mem)) : T (AV × Mem) := match aLst a with
 | some x => optT (aLst b) "binT" fun y => .req (x.length + y.length ≤ 1000) (.leaf (.lst (x ++ y), m))
 | Option.none => z
noncomputable def binT (op : Operator) (a b : AV) (m : Mem) : T (AV × Mem) := match op with
 | .Add => lst2T a b m (int2T a b fun x y => .leaf (.int (x + y), m))
 | .Sub => int2T a b fun x y => .leaf (.int (x - y), m)
 | .Mult => int2T a b fun x y => .req (Builtin.Int.intBits x ≤ 64 ∨ Builtin.Int.intBits y ≤ 64) (.leaf (.int (x * y), m))
 | .FloorDiv => int2T a b fun x y => .req (0 < y ∧ y < 1073741824) (.leaf (.int (x.fdiv y), m))
 | .Mod => int2T a b fun x y => .req (y ≠ 0) (.leaf (.int (x.fmod y), m))
 | .LShift => int2T a b fun x y => .req (0 ≤ y ∧ y ≤ 1000 ∧ x.natAbs < 2 ^ 1000) (.leaf (.int (x * 2 ^ y.toNat), m))
 | .RShift => int2T a b fun x y => .req (0 ≤ y) (.leaf (.int (x.fdiv (2 ^ y.toNat)), m))
 | .BitAnd => int2T a b fun x y => .leaf (.int (Builtin.bitAnd x y), m)
 | .BitOr => int2T a b fun x y => .leaf (.int (Builtin.bitOr x y), m)
 | .BitXor => int2T a b fun x y => .leaf (.int (Builtin.bitXor x y), m)
 | _ => .stuck "binT"
noncomputable def allEq (f : AV → AV → Option Bool) : List AV → List AV → Option Bool
 | [], [] => some true
 | a :: r, b :: q => (f a b).bind fun x => (allEq f r q).bind fun y => some (x && y)
 | _, _ => none
noncomputable def eqAV : Nat → AV → AV → Option Bool
 | 0, _, _ => none
 | n + 1, a, b => match a with
  | .bool x => (aBool b).map (x == ·)
  | .int x => (aInt b).map (x == ·)
  | .str x => (aStr b).map (x == ·)
  | .tup xs => (aTup b).bind (allEq (eqAV n) xs)
  | .lst xs => (aLst b).bind (allEq (eqAV n) xs)
  | _ => none
noncomputable def objInt (a b : AV) : Bool := match a with
 | .obj C _ => Nat.beq C 486 && (aInt b).isSome
 | _ => false
noncomputable def tupInt (a b : AV) : Bool := ((aTup a).isSome && (aInt b).isSome) || ((aInt a).isSome && (aTup b).isSome)
noncomputable def eqTop (a b : AV) : Option Bool := match objInt a b with
 | true => some false
 | false => match tupInt a b with
  | true => some false
  | false => eqAV 6 a b
noncomputable def inAV (a : AV) : List AV → Option Bool
 | [] => some false
 | b :: r => (eqAV 5 b a).bind fun x => (inAV a r).bind fun y => some (x || y)
noncomputable def isNone (a : AV) : Option Bool := match a with
 | .none => some true
 | .obj .. => some false
 | .tup _ => some false
 | _ => none
noncomputable def cmpB (op : CmpOp) (a b : AV) : Option Bool := match op with
 | .Lt => both (aInt a) (aInt b) fun x y => decide (x < y)
 | .LtE => both (aInt a) (aInt b) fun x y => decide (x ≤ y)
 | .Gt => both (aInt a) (aInt b) fun x y => decide (y < x)
 | .GtE => both (aInt a) (aInt b) fun x y => decide (y ≤ x)
 | .Eq => eqTop a b
 | .NotEq => match tupInt a b with
  | true => some true
  | false => (eqAV 6 a b).map (! ·)
 | .Is => match aNone b with
  | true => isNone a
  | false => none
 | .IsNot => match aNone b with
  | true => (isNone a).map (! ·)
  | false => none
 | .In => match aTup b with
  | some xs => inAV a xs
  | none => (aLst b).bind (inAV a)
 | .NotIn => (aTup b).bind fun xs => (inAV a xs).map (! ·)
noncomputable def unT (op : UnaryOp) (a : AV) (m : Mem) : T (AV × Mem) := match op with
 | .USub => optT (aInt a) "unT" fun x => .leaf (.int (-x), m)
 | .Invert => optT (aInt a) "unT" fun x => .leaf (.int (Builtin.bitNot x), m)
 | .Not => optT (truB a) "not" fun b => .leaf (.bool (!b), m)
 | _ => .stuck "unT"
noncomputable def itemAt (xs : List AV) (i : Int) : Option AV := match i with
 | .ofNat k => match Nat.blt k 1000 with
  | true => xs[k]?
  | false => none
 | .negSucc k => match Nat.blt k xs.length && Nat.blt xs.length 1000 with
  | true => xs[xs.length - (k + 1)]?
  | false => none
noncomputable def allI : List AV → Option (List Int)
 | [] => some []
 | x :: r => (aInt x).bind fun i => (allI r).map (i :: ·)
noncomputable def allS : List AV → Option (List Str)
 | [] => some []
 | x :: r => (aStr x).bind fun i => (allS r).map (i :: ·)
noncomputable def nineT (xs : List AV) (k : Int) (m : Mem) (z : T (AV × Mem)) : T (AV × Mem) := match Nat.beq xs.length 9 with
 | true => match allI xs with
  | some q => .req (0 ≤ k ∧ k < 9) (.leaf (.int (q.getD k.toNat 0), m))
  | none => match allS xs with
   | some q => .req (0 ≤ k ∧ k < 9) (.leaf (.str (q.getD k.toNat Str.empty), m))
   | none => z
 | false => z
noncomputable def itemL (xs : List AV) (k : Int) (m : Mem) : T (AV × Mem) := optT (itemAt xs k) "item" fun v => .leaf (v, m)
noncomputable def itemK (o : AV) (k : Int) (m : Mem) : T (AV × Mem) := match o with
 | .tup xs => nineT xs k m (itemL xs k m)
 | .lst xs => itemL xs k m
 | .ints xs => .req (0 ≤ k ∧ k < xs.length ∧ xs.length < 2 ^ 40) (.leaf (.int (xs.getD k.toNat 0), m))
 | .hnd h => optT (lstOf m h) "item" fun xs => itemL xs k m
 | _ => .stuck "item"
noncomputable def itemT (o i : AV) (m : Mem) : T (AV × Mem) := optT (aInt i) "item" fun k => itemK o k m
noncomputable def sliceT (o a b : AV) (m : Mem) : T (AV × Mem) := optT (aStr o) "slice" fun s => optT (aInt a) "slice" fun i => optT (aInt b) "slice" fun j =>
 condT (decide (0 ≤ i) && decide (i ≤ j) && decide (j < 1000) && Nat.blt s.length 1000) "slice" (.leaf (.str (Txt.slice s (some i) (some j)), m))
noncomputable def slice0K (o : AV) (j : Int) (m : Mem) : T (AV × Mem) := match o with
 | .ints xs => .req (0 ≤ j ∧ xs.length ≤ 1000) (.leaf (.ints (xs.take j.toNat), m))
 | .tup xs => condT (decide (0 ≤ j) && Nat.blt j.toNat xs.length && Nat.blt xs.length 1000) "slice" (.leaf (.tup (xs.take j.toNat), m))
 | _ => .stuck "slice"
noncomputable def slice0T (o b : AV) (m : Mem) : T (AV × Mem) := optT (aInt b) "slice" fun j => slice0K o j m
inductive Fl where
 | next | brk | cont | ret (v : AV)
noncomputable abbrev FSem := List AV → Mem → T (AV × Mem)
structure Cfg where
 scope : Scope
 glob : List (String × AV)
 fns : Value → Option FSem
 mutN : List String
 wf : Nat
noncomputable def aVal (x : AV) : Option Value := match x with
 | .val v => some v
 | _ => none
theorem aVal_s {x : AV} {v : Value} (h : aVal x = some v) : x = .val v := (by cases x <;> first | exact trivial | exact rfl : OptP (x = .val ·) (aVal x)).of h
noncomputable def callT (C : Cfg) (f : AV) (args : List AV) (m : Mem) : T (AV × Mem) := optT (aVal f) "callee" fun v => optT (C.fns v) "callee" fun k => k args m
structure Rec where
 ev : Expr → Lo → Mem → T (AV × Mem)
 tr : Expr → Lo → Mem → T (Bool × Mem)
 exs : List Stmt → Lo → Mem → T ((Fl × Lo) × Mem)
 cev : Scope → Expr → Lo → Mem → T (AV × Mem)
 ctr : Scope → Expr → Lo → Mem → T (Bool × Mem)
noncomputable def isStar : Expr → Bool
 | .Starred .. => true
 | _ => false
noncomputable def evs (R : Rec) : List Expr → Lo → Mem → T (List AV × Mem)
 | [], _, m => .leaf ([], m)
 | e :: r, lo, m => condT (!isStar e) "star" ((R.ev e lo m).bind fun x => (evs R r lo x.2).bind fun y => .leaf (x.1 :: y.1, y.2))
noncomputable def isName (e : Expr) : Bool := match e with
 | .Name .. => true
 | _ => false
noncomputable def bareCall (e : Expr) : Bool := match e with
 | .Call f es ks _ => isName f && es.isEmpty && ks.isEmpty
 | _ => false
noncomputable def chainT (R : Rec) (lo : Lo) : AV → List CmpOp → List Expr → Mem → T (AV × Mem)
 | a, [op], [e], m => (R.ev e lo m).bind fun x => optT (cmpB op a x.1) "cmp" fun c => .leaf (.bool c, x.2)
 | a, op :: op2 :: ops, e :: e2 :: es, m => (R.ev e lo m).bind fun x => optT (cmpB op a x.1) "cmp" fun c => .ite c (chainT R lo x.1 (op2 :: ops) (e2 :: es) x.2) (.leaf (.bool c, x.2))
 | _, _, _, _ => .stuck "chain"
noncomputable def testT (R : Rec) (lo : Lo) : AV → List CmpOp → List Expr → Mem → T (Bool × Mem)
 | a, [op], [e], m => (R.ev e lo m).bind fun x => optT (cmpB op a x.1) "cmp" fun c => .leaf (c, x.2)
 | a, op :: op2 :: ops, e :: e2 :: es, m => (R.ev e lo m).bind fun x => optT (cmpB op a x.1) "cmp" fun c => .ite c (testT R lo x.1 (op2 :: ops) (e2 :: es) x.2) (.leaf (false, x.2))
 | _, _, _, _ => .stuck "chain"
noncomputable def boolT (R : Rec) (op : BoolOp) (lo : Lo) : List Expr → Mem → T (AV × Mem)
 | [], _ => .stuck "bool"
 | [e], m => R.ev e lo m
 | e :: r, m => (R.ev e lo m).bind fun x => optT (truB x.1) "bool" fun b => match op with
   | .And => .ite b (boolT R op lo r x.2) (.leaf x)
   | .Or => .ite b (.leaf x) (boolT R op lo r x.2)
noncomputable def allT (R : Rec) (op : BoolOp) (lo : Lo) : List Expr → Mem → T (Bool × Mem)
 | [], m => .leaf (match op with | .And => true | .Or => false, m)
 | e :: r, m => (R.tr e lo m).bind fun x => match op with
   | .And => .ite x.1 (allT R op lo r x.2) (.leaf (false, x.2))
   | .Or => .ite x.1 (.leaf (true, x.2)) (allT R op lo r x.2)
noncomputable def itemsOf : AV → Option (List AV)
 | .tup xs => some xs
 | .lst xs => some xs
 | .ints xs => some (xs.map .int)
 | .rng lo hi => some ((List.range (hi - lo).toNat).map fun (i : Nat) => .int (lo + i))
 | _ => none
noncomputable def T.quiet {α : Type} : T α → T α
 | .leaf a => .leaf a
 | .exc _ _ => .stuck "exc"
 | .ite c t e => .ite c t.quiet e.quiet
 | .req p t => .req p t.quiet
 | .stuck w => .stuck w
theorem T.quiet_all {α : Type} {K : α → Prop} {KX : AV → Mem → Prop} : ∀ {t : T α}, t.quiet.All K KX → t.All K (fun _ _ => False)
 | .leaf _, h => h
 | .exc _ _, h => h.elim
 | .ite _ _ _, h => ⟨fun c => T.quiet_all (h.1 c), fun c => T.quiet_all (h.2 c)⟩
 | .req _ _, h => ⟨h.1, T.quiet_all h.2⟩
 | .stuck _, h => h.elim
noncomputable def itemsReq : AV → Prop
 | .tup xs => xs.length ≤ 1000
 | .lst xs => xs.length ≤ 1000
 | .ints xs => xs.length ≤ 1000
 | .rng lo hi => lo = 0 ∧ 0 ≤ hi ∧ hi ≤ 1000
 | _ => False
noncomputable def testsC (R : Rec) (S : Scope) (lo : Lo) : List Expr → Mem → T (Bool × Mem)
 | [], m => .leaf (true, m)
 | [e], m => R.ctr S e lo m
 | _, _ => .stuck "tests"
noncomputable def compL (R : Rec) (S : Scope) (x : Str) (ifs : List Expr) (elt : Expr) (lo : Lo) : List AV → Mem → T (List AV × Mem)
 | [], m => .leaf ([], m)
 | v :: vs, m => match ifs with
  | [] => (R.cev S elt (putLo x v lo) m).bind fun y => (compL R S x ifs elt lo vs y.2).bind fun r => .leaf (y.1 :: r.1, r.2)
  | _ => (testsC R S (putLo x v lo) ifs m).bind fun b => .ite b.1
   ((R.cev S elt (putLo x v lo) b.2).bind fun y => (compL R S x ifs elt lo vs y.2).bind fun r => .leaf (y.1 :: r.1, r.2))
   (compL R S x ifs elt lo vs b.2)
theorem compL_cons {R : Rec} {S : Scope} {x : Str} {ifs : List Expr} {elt : Expr} {lo : Lo} {v : AV} {vs : List AV} {m : Mem} {K : List AV × Mem → Prop} {KX : AV → Mem → Prop} (h : (compL R S x ifs elt lo (v :: vs) m).All K KX) :
  ((testsC R S (putLo x v lo) ifs m).bind fun b => T.ite b.1
   ((R.cev S elt (putLo x v lo) b.2).bind fun y => (compL R S x ifs elt lo vs y.2).bind fun r => .leaf (y.1 :: r.1, r.2))
   (compL R S x ifs elt lo vs b.2)).All K KX := by
 cases ifs with
 | nil => exact ⟨fun _ => h, fun q => by cases q⟩
 | cons _ _ => exact h
noncomputable def freeLo (S : Scope) (lo : Lo) : Lo := lo.filter fun p => S.names.lookup p.1 == some .free
noncomputable def relabelS (scope outer : Scope) : Scope :=
 { scope with names := scope.names.map fun (n, k) => if (k == .free && outer.kind == .function && outer.names.lookup n == some .cell) then (n, .cell) else (n, k) }
noncomputable def isSet (e : Expr) : Bool := match e with
 | .Set .. => true
 | _ => false
noncomputable def compOK (S : Scope) (outer : Scope) (x : Str) (iter : Expr) : Bool :=
 (S.kind == .function) && S.names.all (fun p => !(p.2 == .cell)) && (S.names.all fun p => !(p.2 == .local) || S.names.lookup p.1 == some .local) && (S.names.lookup x == some .local) &&
  !(x == ("__debug__" : Str)) && (S.names.all fun p => !(p.2 == .free) || (outer.names.lookup p.1 == some .cell)) && (S.names.map (·.1)).Nodup &&
  !isSet iter
noncomputable def compT (C : Cfg) (R : Rec) (elt : Expr) (x : Str) (iter : Expr) (ifs : List Expr) (S : Scope) (lo : Lo) (m : Mem) : T (List AV × Mem) := condT (compOK S C.scope x iter) "comp" ((R.ev iter lo m).bind fun v => optT (itemsOf v.1) "comp" fun xs => .req (itemsReq v.1) (compL R (relabelS S C.scope) x ifs elt (freeLo S lo) xs v.2).quiet)
noncomputable def nameV (e : Expr) : Option (Str × Pos) := match e with
 | .Name x p => some (x, p)
 | _ => none
theorem nameV_s {e : Expr} {p : Str × Pos} (h : nameV e = some p) : e = .Name p.1 p.2 := (by cases e <;> first | exact trivial | exact rfl : OptP (fun p => e = .Name p.1 p.2) (nameV e)).of h
noncomputable def oneV {α : Type} (l : List α) : Option α := match l with
 | [] => none
 | x :: r => match r with
  | [] => some x
  | _ :: _ => none
theorem oneV_s {α : Type} {l : List α} {x : α} (h : oneV l = some x) : l = [x] := by
 cases l with
 | nil => exact nomatch h
 | cons y r =>
  cases r with
  | nil => rw [Option.some.inj h]
  | cons _ _ => exact nomatch h
structure CompA where
 elt : Expr
 x : Str
 px : Pos
 iter : Expr
 ifs : List Expr
 S : Scope
 pos : Pos
noncomputable abbrev CompA.e (a : CompA) : Expr := .ListComp a.elt [⟨.Name a.x a.px, a.iter, a.ifs, 0⟩] a.S a.pos
noncomputable def compG (elt : Expr) (S : Scope) (pos : Pos) (g : Comprehension) : Option CompA := (nameV g.target).bind fun p => if g.is_async = 0 then some ⟨elt, p.1, p.2, g.iter, g.ifs, S, pos⟩ else none
noncomputable def compV (e : Expr) : Option CompA := match e with
 | .ListComp elt gens S pos => (oneV gens).bind (compG elt S pos)
 | _ => none
theorem compV_s {e : Expr} {a : CompA} (h : compV e = some a) : e = a.e := by
 cases e with
 | ListComp elt gens S pos =>
  obtain ⟨⟨t, it, ifs, as⟩, h1, h⟩ := bind_s h
  obtain ⟨p, h2, h⟩ := bind_s h
  have h : (if as = 0 then some (CompA.mk elt p.1 p.2 it ifs S pos) else none) = some a := h
  by_cases q : as = 0
  ·rw [if_pos q] at h
   rw [oneV_s h1, show t = _ from nameV_s h2, q, ← Option.some.inj h]
  ·rw [if_neg q] at h; exact nomatch h
 | _ => exact nomatch h
noncomputable def constT (k : Const) (m : Mem) : T (AV × Mem) := match k with
 | .none => .leaf (.none, m)
 | .bool b => .leaf (.bool b, m)
 | .int i => .leaf (.int i, m)
 | .str s => .leaf (.str s, m)
 | _ => .stuck "expr"
noncomputable def nameT (C : Cfg) (x : Str) (lo : Lo) (m : Mem) : T (AV × Mem) := match getLo x lo with
 | some v => .leaf (v, m)
 | none => match C.scope.names.lookup x with
  | some .globalImplicit => optT (lkS x C.glob) "global" fun v => .leaf (v, m)
  | _ => .stuck "name"
noncomputable def callE (C : Cfg) (R : Rec) (f : Expr) (es : List Expr) (p : Pos) (lo : Lo) (m : Mem) : T (AV × Mem) := match f with
 | .Attribute o n ap => condT (!(bareCall o || !(ap.endLine == p.line) || !(es.length < 30) || es.any isStar)) "super" ((R.ev o lo m).bind fun x => optT (methOf x.2 x.1 n) "method" fun p => (evs R es lo x.2).bind fun y => callT C (.val p.1) (p.2 ++ y.1) y.2)
 | _ => condT (!es.any isStar) "star" ((R.ev f lo m).bind fun x => (evs R es lo x.2).bind fun y => callT C x.1 y.1 y.2)
noncomputable def sliceE (R : Rec) (o : Expr) (a : Option Expr) (b : Expr) (lo : Lo) (m : Mem) : T (AV × Mem) := match a with
 | some a => (R.ev o lo m).bind fun x => (R.ev a lo x.2).bind fun y => (R.ev b lo y.2).bind fun z => sliceT x.1 y.1 z.1 z.2
 | none => (R.ev o lo m).bind fun x => (R.ev b lo x.2).bind fun z => slice0T x.1 z.1 z.2
noncomputable def subE (R : Rec) (o i : Expr) (lo : Lo) (m : Mem) : T (AV × Mem) := match i with
 | .Slice a b d _ => condT d.isNone "slice" (optT b "slice" fun b => sliceE R o a b lo m)
 | _ => (R.ev o lo m).bind fun x => (R.ev i lo x.2).bind fun y => itemT x.1 y.1 y.2
noncomputable def evT (C : Cfg) (R : Rec) (e : Expr) (lo : Lo) (m : Mem) : T (AV × Mem) := match e with
 | .Constant k _ _ => constT k m
 | .Name x _ => nameT C x lo m
 | .BinOp l op r _ => (R.ev l lo m).bind fun x => (R.ev r lo x.2).bind fun y => binT op x.1 y.1 y.2
 | .UnaryOp op e _ => (R.ev e lo m).bind fun x => unT op x.1 x.2
 | .BoolOp op es _ => boolT R op lo es m
 | .Compare l ops es _ => condT (!lastMarks ops es) "marks" ((R.ev l lo m).bind fun x => chainT R lo x.1 ops es x.2)
 | .IfExp t b o _ => (R.tr t lo m).bind fun x => .ite x.1 (R.ev b lo x.2) (R.ev o lo x.2)
 | .Call f es ks p => condT ks.isEmpty "expr" (callE C R f es p lo m)
 | .Attribute o n _ => condT (!bareCall o) "super" ((R.ev o lo m).bind fun x => optT (attrOf x.2 x.1 n) "attr" fun v => .leaf (v, x.2))
 | .Dict ks vs _ => condT (ks.isEmpty && vs.isEmpty) "expr" (.leaf (.any, m))
 | .Subscript o i _ => subE R o i lo m
 | .Tuple es _ _ => condT (Nat.blt es.length 60) "long" ((evs R es lo m).bind fun x => .leaf (.tup x.1, x.2))
 | .List es _ => condT (Nat.blt es.length 60) "long" ((evs R es lo m).bind fun x => .leaf (.lst x.1, x.2))
 | .ListComp elt gens S pos => optT (compV (.ListComp elt gens S pos)) "expr" fun a => (compT C R a.elt a.x a.iter a.ifs a.S lo m).bind fun r => .leaf (.lst r.1, r.2)
 | _ => .stuck "expr"
noncomputable def trT (C : Cfg) (R : Rec) : Expr → Lo → Mem → T (Bool × Mem)
 | .UnaryOp .Not e _, lo, m => (R.tr e lo m).bind fun x => .leaf (!x.1, x.2)
 | .BoolOp op es _, lo, m => allT R op lo es m
 | .IfExp t b o _, lo, m => (R.tr t lo m).bind fun x => .ite x.1 (R.tr b lo x.2) (R.tr o lo x.2)
 | .Compare l ops es _, lo, m => condT (!lastMarks ops es) "marks" ((R.ev l lo m).bind fun x => testT R lo x.1 ops es x.2)
 | e, lo, m => (R.ev e lo m).bind fun x => optT (truB x.1) "truth" fun b => .leaf (b, x.2)
end
section
open PySem PySem.W PyProof.Rows PySem.Calls
set_option backward.match.sparseCases false
structure LocOK (c : Cx) (C : Cfg) (L : Addr) (cl : List (Str × Addr)) (g : Gh) (s : Shared) (lo : Lo) : Prop where
 ns : ∃ m, s.heap.Ns L m ∧ ∀ x v, getLo x lo = some v → (x == ("__debug__" : Str)) = false ∧ ((C.scope.names.lookup x = some .local ∧ ∃ u, m x = some u ∧ Rep c.w.params g v u) ∨
  (∃ ca u, (C.scope.names.lookup x = some .cell ∨ (C.scope.names.lookup x = some .free ∧ (x == ("__classdict__" : Str)) = false)) ∧ cl.lookup x = some ca ∧ s.heap.IsCell ca (some u) ∧ Rep c.w.params g v u))
 nf : g.F L = none
 nt : L ∉ g.th.flatten
 cf : ∀ x ca, cl.lookup x = some ca → ca ≠ L ∧ g.F ca = none ∧ ca ∉ g.th.flatten ∧ ∃ v0, s.heap.IsCell ca v0
 cx : ∀ x, C.scope.names.lookup x = some .cell → ∃ ca, cl.lookup x = some ca
 cd : ∀ x y ca, cl.lookup x = some ca → cl.lookup y = some ca → x = y
noncomputable def OwnA (L : Addr) (cl : List (Str × Addr)) (a : Addr) : Prop := a = L ∨ ∃ x, cl.lookup x = some a
theorem LocOK.lt {c : Cx} {C : Cfg} {L : Addr} {cl : List (Str × Addr)} {g : Gh} {s : Shared} {lo : Lo} (l : LocOK c C L cl g s lo) : ∀ a, OwnA L cl a → Liv s.heap a := fun a h => by
 rcases h with rfl | ⟨x, hx⟩
 ·obtain ⟨_, ⟨o, _, _, h, _⟩, _⟩ := l.ns; exact ⟨o, h⟩
 ·obtain ⟨_, _, _, _, o, ho, _⟩ := l.cf x a hx; exact ⟨o, ho⟩
theorem ns_slots {P : Obj → Array (Option Value) → Prop} {h h' : Heap} {L : Addr} {m : Str → Option Value} (hn : h.Ns L m) (k : ∀ o, h.get? L = some o → ∃ sl, h'.get? L = some { o with slots := sl } ∧ P o sl) : h'.Ns L m := by
 obtain ⟨o, es, ep, ho, hd, r⟩ := hn
 obtain ⟨sl, q, _⟩ := k o ho
 exact ⟨_, es, ep, q, hd, r⟩
theorem cell_slots {P : Obj → Array (Option Value) → Prop} {h h' : Heap} {L : Addr} {v : Option Value} (hn : h.IsCell L v) (k : ∀ o, h.get? L = some o → ∃ sl, h'.get? L = some { o with slots := sl } ∧ P o sl) : h'.IsCell L v := by
 obtain ⟨o, ho, hd⟩ := hn
 obtain ⟨sl, q, _⟩ := k o ho
 exact ⟨_, q, hd⟩
theorem Ext.own {A : Around} {B : Addr → Prop} {X : Addr → Prop} {g g' : Gh} {s s' : Shared} (x : Ext A B X g s g' s') {a : Addr} (lt : B a) : (g.F a = none → g'.F a = none) ∧ (a ∉ g.th.flatten → a ∉ g'.th.flatten) :=
 ⟨fun h => by
  cases q : g'.F a with
  | none => rfl
  | some o => exact absurd lt (x.newF a h (by rw [q]; intro e; cases e)), fun h q => (x.newT a q).elim h fun q => q lt⟩
theorem LocOK.ext {A : Around} {c : Cx} {C : Cfg} {L : Addr} {cl : List (Str × Addr)} {g g' : Gh} {s s' : Shared} {lo : Lo} {B : Addr → Prop} {X : Addr → Prop} (l : LocOK c C L cl g s lo) (x : Ext A B X g s g' s') (lt : ∀ a, OwnA L cl a → B a) (nx : ∀ a, OwnA L cl a → ¬ X a) : LocOK c C L cl g' s' lo where
 ns := by
  obtain ⟨m, h1, h2⟩ := l.ns
  refine ⟨m, ns_slots h1 fun o ho => x.keep L o (lt L (.inl rfl)) ho l.nt (nx L (.inl rfl)), fun y v hy => ?_⟩
  obtain ⟨a, b⟩ := h2 y v hy
  refine ⟨a, b.imp (fun ⟨b1, u, b2, b3⟩ => ⟨b1, u, b2, b3.mono x.gr⟩) fun ⟨ca, u, b1, b2, b3, b4⟩ => ⟨ca, u, b1, b2, cell_slots (P := fun o sl => ¬ IsFr A ca → sl = o.slots) b3 fun o ho => ?_, b4.mono x.gr⟩⟩
  have hca : OwnA L cl ca := .inr ⟨_, b2⟩
  exact x.keep ca o (lt _ hca) ho (l.cf _ _ b2).2.2.1 (nx _ hca)
 nf := (x.own (lt L (.inl rfl))).1 l.nf
 nt := (x.own (lt L (.inl rfl))).2 l.nt
 cf := fun y ca hy => by
  have hca : OwnA L cl ca := .inr ⟨_, hy⟩
  obtain ⟨h1, h2, h3, v0, h4⟩ := l.cf y ca hy
  exact ⟨h1, (x.own (lt _ hca)).1 h2, (x.own (lt _ hca)).2 h3, v0, cell_slots h4 fun o ho => x.keep ca o (lt _ hca) ho h3 (nx _ hca)⟩
 cx := l.cx
 cd := l.cd
noncomputable def Room (A : Around) (n : Nat) : Prop := A.handled = none ∧ A.depth + 4 * n + 4 < recursionLimit ∧ A.units + 16 * n + 16 < cLine
structure EnvOK (C : Cfg) (env : Env) (L : Addr) : Prop where
 scope : env.scope = C.scope
 kind : C.scope.kind = .function
 locals : env.locals = L
 globals : env.globals = mainGlobals
 builtins : env.builtins = builtinsNs
noncomputable def g0 (c : Cx) : Gh := ⟨c.h0.get?, []⟩
noncomputable def KeepOK (c : Cx) (v : Value) : Prop := ∀ M h, (∀ b o, c.h0.get? b = some o → h.get? b = some o) → ∃ k, (k = Keeper.frame ∨ k = Keeper.machine ∨ k = Keeper.boundFrame) ∧ Looks M h (keeperOf v) k
structure CfgOK (c : Cx) (C : Cfg) (n : Nat) : Prop where
 glob : ∀ x v, lkS x C.glob = some v → (x == ("__debug__" : Str)) = false ∧ ∃ u, (c.mg x = some u ∨ (c.mg x = none ∧ c.mb x = some u)) ∧ Rep c.w.params (g0 c) v u
 keep : ∀ v k, C.fns v = some k → KeepOK c v
 call : ∀ v k, C.fns v = some k → ∀ A s g m args vs, Room A n → Inv c A g s m → Reps c.w.params g args vs → Tri c A noX s g (PySem.call v vs) (fun u x g' _ => Rep c.w.params g' x u) (k args m)
structure At (c : Cx) (C : Cfg) (n : Nat) (A : Around) (env : Env) (L : Addr) (s : Shared) (g : Gh) (lo : Lo) (m : Mem) : Prop where
 eo : EnvOK C env L
 room : Room A n
 inv : Inv c A g s m
 loc : LocOK c C L env.cells g s lo
theorem At.ext {c : Cx} {C : Cfg} {n : Nat} {A : Around} {env : Env} {L : Addr} {s s' : Shared} {g g' : Gh} {lo : Lo} {m m' : Mem} (h : At c C n A env L s g lo m) (x : Ext A (Liv s.heap) noX g s g' s') (I : Inv c A g' s' m') : At c C n A env L s' g' lo m' :=
 ⟨h.eo, h.room, I, h.loc.ext x h.loc.lt fun _ _ => id⟩
noncomputable abbrev RepR (c : Cx) : Value → AV → Gh → Shared → Prop := fun v x g _ => Rep c.w.params g x v
noncomputable abbrev RepsR (c : Cx) : List Value → List AV → Gh → Shared → Prop := fun v x g _ => Reps c.w.params g x v
noncomputable abbrev BoolR : Bool → Bool → Gh → Shared → Prop := fun a b _ _ => a = b
structure SoundE (c : Cx) (C : Cfg) (n : Nat) (R : Rec) : Prop where
 ev : ∀ {A env L s g lo m}, At c C n A env L s g lo m → ∀ e : Expr, Tri c A noX s g (eval e env) (RepR c) (R.ev e lo m)
 tr : ∀ {A env L s g lo m}, At c C n A env L s g lo m → ∀ e : Expr, Tri c A noX s g (isTrue e env (eval e env)) BoolR (R.tr e lo m)
 cev : ∀ (S : Scope) {A env L s g lo m}, At c { C with scope := S } n A env L s g lo m → ∀ e : Expr, Tri c A noX s g (eval e env) (RepR c) (R.cev S e lo m)
 ctr : ∀ (S : Scope) {A env L s g lo m}, At c { C with scope := S } n A env L s g lo m → ∀ e : Expr, Tri c A noX s g (isTrue e env (eval e env)) BoolR (R.ctr S e lo m)
section
variable {c : Cx} {C : Cfg} {n : Nat} {A : Around} {env : Env} {L : Addr} {s : Shared} {g : Gh} {lo : Lo} {m : Mem} {R : Rec} {X : Addr → Prop}
theorem Tri.val {t : Sem Value} {x : AV} (I : Inv c A g s m) (h : ∀ (Q : Value → Shared → Prop) (E : Value → Shared → Prop), (∀ v k, Rep c.w.params g x v → Q v { s with toks := k }) → wpAny (model pw c.w) A t Q E s) :
  Tri c A X s g t (RepR c) (.leaf (x, m)) :=
 Tri.of (R := RepR c) fun Q E hQ => h Q E fun v k r => hQ v _ g (.toks _ _ _ _ _ _) (I.toks k) r
theorem Tri.boolV {t : Sem Bool} {b : Bool} (I : Inv c A g s m) (h : ∀ (Q : Bool → Shared → Prop) (E : Value → Shared → Prop), (∀ k, Q b { s with toks := k }) → wpAny (model pw c.w) A t Q E s) :
  Tri c A X s g t BoolR (.leaf (b, m)) :=
 Tri.of (R := BoolR) fun Q E hQ => h Q E fun k => hQ b _ g (.toks _ _ _ _ _ _) (I.toks k) rfl
theorem Tri.conv {α ρ : Type} {t t' : Sem α} {R : α → ρ → Gh → Shared → Prop} {τ : T (ρ × Mem)} (h : Tri c A X s g t R τ)
  (k : ∀ (Q : α → Shared → Prop) (E : Value → Shared → Prop), wpAny (model pw c.w) A t Q E s → wpAny (model pw c.w) A t' Q E s) : Tri c A X s g t' R τ :=
 fun Q E K KX hA hQ hE => k Q E (h Q E K KX hA hQ hE)
theorem gr0 (I : Inv c A g s m) : Gr (g0 c) g := ⟨I.base, fun k l h => by simp [g0] at h⟩
theorem Inv.keeps (I : Inv c A g s m) : ∀ b o, c.h0.get? b = some o → s.heap.get? b = some o := fun b o h => I.frz b o (I.base b o h)
theorem ev_name (h : At c C n A env L s g lo m) (hc : CfgOK c C n) (x : Str) (p : Pos) : Tri c A noX s g (eval (.Name x p) env) (RepR c) (evT C R (.Name x p) lo m) := by
 show Tri c A noX s g _ _ (nameT C x lo m)
 have hk : env.scope.kind = .function := h.eo.scope ▸ h.eo.kind
 have kd : env.kindOf x = C.scope.names.lookup x := by unfold Env.kindOf; rw [h.eo.scope]
 unfold nameT
 cases hx : getLo x lo with
 | some v =>
  obtain ⟨mm, h1, h2⟩ := h.loc.ns
  obtain ⟨hd, hh⟩ := h2 x v hx
  refine Tri.val h.inv fun Q E hQ => ?_
  rcases hh with ⟨a, u, b, r⟩ | ⟨ca, u, a | ⟨a, hcd⟩, b, hb, r⟩
  ·exact wpAny_Name (wpAny_loadName_local hk (kd.trans a) (h.eo.locals ▸ h1) b (hQ u s.toks r)) hd
  ·exact wpAny_Name (wpAny_loadName_cell hk (kd.trans a) b hb (hQ u s.toks r)) hd
  ·exact wpAny_Name (wpAny_loadName_free hk (kd.trans a) b hb (hQ u s.toks r) hcd) hd
 | none =>
  cases hg : C.scope.names.lookup x with
  | none => exact Tri.stuck
  | some k =>
   cases k with
   | globalImplicit =>
    refine Tri.opt fun v hv => ?_
    obtain ⟨hd, u, hu, r⟩ := hc.glob x v hv
    refine Tri.val h.inv fun Q E hQ => Name_function_global hk (kd.trans hg) ?_ hd
    rcases hu with hu | ⟨hu, hb⟩
    ·exact loadGlobal_global (h.eo.globals ▸ c.hg.keeps h.inv.keeps) hu (hQ u s.toks (r.mono (gr0 h.inv)))
    ·exact loadGlobal_builtin (h.eo.globals ▸ c.hg.keeps h.inv.keeps) hu (h.eo.builtins ▸ c.hb.keeps h.inv.keeps) hb (hQ u s.toks (r.mono (gr0 h.inv)))
   | _ => exact Tri.stuck
theorem ev_const (h : At c C n A env L s g lo m) (k : Const) (i : Nat) (p : Pos) : Tri c A noX s g (eval (.Constant k i p) env) (RepR c) (evT C R (.Constant k i p) lo m) := by
 cases k with
 | none => exact Tri.val h.inv fun Q E hQ => Constant_none (hQ _ s.toks .none)
 | bool b => exact Tri.val h.inv fun Q E hQ => Constant_bool (hQ _ s.toks (.bool b))
 | int i => exact Tri.val h.inv fun Q E hQ => wpAny_Constant_int (hQ _ _ (.int _ _))
 | str x => exact Tri.val h.inv fun Q E hQ => Constant_str (hQ _ _ (.str _ _))
 | _ => exact Tri.stuck
theorem bits_le {a : Int} (h : a.natAbs < 2 ^ 1000) : Builtin.Int.intBits a ≤ 1000 := by
 unfold Builtin.Int.intBits
 split
 ·simp_all
 ·rename_i h0
  have : a.natAbs ≠ 0 := by simpa using h0
  exact (Nat.log2_lt this).mpr h
theorem shl_ok {a n : Int} (h0 : n ≤ 1000) (h : a.natAbs < 2 ^ 1000) : (Builtin.Int.intBits a : Int) + n ≤ 2 ^ 27 := by
 have := bits_le h
 lia
theorem tru_ok (I : Inv c A g s m) {a : AV} {u : Value} {b : Bool} (ra : Rep c.w.params g a u) (hb : truB a = some b) {Q : Bool → Shared → Prop} {E : Value → Shared → Prop}
  (hQ : ∀ k, Q b { s with toks := k }) : wpAny (model pw c.w) A (truthy u) Q E s := by
 cases a with
 | none => obtain rfl : u = _ := ra.inv; obtain rfl := Option.some.inj hb; exact truthy_none (hQ s.toks)
 | bool x => obtain rfl : u = _ := ra.inv; obtain rfl := Option.some.inj hb; exact wpAny_truthy_bool (hQ s.toks)
 | int x => obtain ⟨_, rfl⟩ := ra.inv; obtain rfl := Option.some.inj hb; exact PySem.P.truthy_int (hQ s.toks)
 | _ => exact nomatch hb
theorem unT_ok (I : Inv c A g s m) (op : UnaryOp) {a : AV} {u : Value} (ra : Rep c.w.params g a u) : Tri c A X s g (unaryOp op u) (RepR c) (unT op a m) := by
 cases op with
 | USub => exact Tri.opt fun x hx => by rw [aInt_s hx] at ra; obtain ⟨_, rfl⟩ := ra.inv; exact Tri.val I fun Q E hQ => PyProof.Rows.neg_int (hQ _ _ (.int _ _))
 | Invert => exact Tri.opt fun x hx => by rw [aInt_s hx] at ra; obtain ⟨_, rfl⟩ := ra.inv; exact Tri.val I fun Q E hQ => invert_int (hQ _ _ (.int _ _))
 | Not => exact Tri.opt fun b hb => Tri.val I fun Q E hQ => not_of (tru_ok I ra hb fun k => hQ _ k (.bool _))
 | _ => exact Tri.stuck
theorem ev_unop (hR : SoundE c C n R) (h : At c C n A env L s g lo m) (e : Expr) (op : UnaryOp) (p : Pos) : Tri c A noX s g (eval (.UnaryOp op e p) env) (RepR c) (evT C R (.UnaryOp op e p) lo m) := by
 intro Q E K KX hA hQ hE
 refine UnaryOp_ ((hR.ev h e).use hA hQ hE fun a x s1 g1 m1 e1 i1 r1 k1 hQ1 hE1 => ?_)
 exact unT_ok i1 op r1 _ _ _ _ k1 hQ1 hE1
theorem ev_ifexp (hR : SoundE c C n R) (h : At c C n A env L s g lo m) (t b o : Expr) (p : Pos) : Tri c A noX s g (eval (.IfExp t b o p) env) (RepR c) (evT C R (.IfExp t b o p) lo m) := by
 intro Q E K KX hA hQ hE
 refine IfExp_ ((hR.tr h t).use hA hQ hE fun a x s1 g1 m1 e1 i1 r1 k1 hQ1 hE1 => ?_)
 subst r1
 have h1 := h.ext e1 i1
 cases a with
 | true => exact hR.ev h1 b _ _ _ _ (k1.1 rfl) hQ1 hE1
 | false => exact hR.ev h1 o _ _ _ _ (k1.2 rfl) hQ1 hE1
theorem bool_ok (hR : SoundE c C n R) (op : BoolOp) (p : Pos) : ∀ (es : List Expr) {s g m}, At c C n A env L s g lo m → Tri c A noX s g (eval (.BoolOp op es p) env) (RepR c) (boolT R op lo es m)
 | [], _, _, _, _ => Tri.stuck
 | [e], _, _, _, h => fun Q E K KX hA hQ hE => BoolOp_one (hR.ev h e Q E K KX hA hQ hE)
 | e :: e2 :: r, s, g, m, h => fun Q E K KX hA hQ hE => by
  cases op with
  | And =>
   refine BoolOp_and ((hR.ev h e).use hA hQ hE fun v x s1 g1 m1 e1 i1 r1 k1 hQ1 hE1 => ?_)
   obtain ⟨b, hb, k1⟩ := optT_all k1
   ·refine tru_ok i1 r1 hb fun k => ?_
    have ek := Ext.toks A (Liv s1.heap) noX g1 s1 k
    have h1 := (h.ext e1 i1).ext ek (i1.toks k)
    cases b with
    | true => exact bool_ok hR .And p (e2 :: r) h1 Q E K KX (k1.1 rfl) (hQ1.lift ek) (hE1.lift ek)
    | false => exact hQ1 _ _ _ _ _ ek (i1.toks k) r1 (k1.2 rfl)
  | Or =>
   refine BoolOp_or ((hR.ev h e).use hA hQ hE fun v x s1 g1 m1 e1 i1 r1 k1 hQ1 hE1 => ?_)
   obtain ⟨b, hb, k1⟩ := optT_all k1
   ·refine tru_ok i1 r1 hb fun k => ?_
    have ek := Ext.toks A (Liv s1.heap) noX g1 s1 k
    have h1 := (h.ext e1 i1).ext ek (i1.toks k)
    cases b with
    | true => exact hQ1 _ _ _ _ _ ek (i1.toks k) r1 (k1.1 rfl)
    | false => exact bool_ok hR .Or p (e2 :: r) h1 Q E K KX (k1.2 rfl) (hQ1.lift ek) (hE1.lift ek)
theorem all_ok (hR : SoundE c C n R) (op : BoolOp) (p : Pos) (whole : Sem Value) : ∀ (es : List Expr) {s g m}, At c C n A env L s g lo m → Tri c A noX s g (isTrue (.BoolOp op es p) env whole) BoolR (allT R op lo es m)
 | [], _, _, _, h => fun Q E K KX hA hQ hE => by
  cases op with
  | And => exact isTrue_and_nil (hQ _ _ _ _ _ (.refl ..) h.inv rfl hA)
  | Or => exact isTrue_or_nil (hQ _ _ _ _ _ (.refl ..) h.inv rfl hA)
 | e :: r, s, g, m, h => fun Q E K KX hA hQ hE => by
  cases op with
  | And =>
   refine isTrue_and ((hR.tr h e).use hA hQ hE fun a x s1 g1 m1 e1 i1 r1 k1 hQ1 hE1 => ?_)
   subst r1
   cases a with
   | true => exact all_ok hR .And p whole r (h.ext e1 i1) Q E K KX (k1.1 rfl) hQ1 hE1
   | false => exact hQ1 _ _ _ _ _ (.refl ..) i1 rfl (k1.2 rfl)
  | Or =>
   refine isTrue_or ((hR.tr h e).use hA hQ hE fun a x s1 g1 m1 e1 i1 r1 k1 hQ1 hE1 => ?_)
   subst r1
   cases a with
   | true => exact hQ1 _ _ _ _ _ (.refl ..) i1 rfl (k1.1 rfl)
   | false => exact all_ok hR .Or p whole r (h.ext e1 i1) Q E K KX (k1.2 rfl) hQ1 hE1
end
end
section
open PySem PySem.W PyProof.Rows PySem.Calls
open PySem.SeqAt
theorem reps_split {P : Params} {g : Gh} {x y : List AV} {v : List Value} (h : Reps P g (x ++ y) v) : ∃ a b, v = a ++ b ∧ Reps P g x a ∧ Reps P g y b := by
 induction x generalizing v with
 | nil => exact ⟨[], v, rfl, .nil, h⟩
 | cons z x ih =>
  cases h with
  | cons h r =>
   obtain ⟨a, b, e, ra, rb⟩ := ih r
   exact ⟨_ :: a, b, by rw [e]; rfl, .cons h ra, rb⟩
section
variable {c : Cx} {A : Around} {s : Shared} {g : Gh} {m : Mem} {X : Addr → Prop}
theorem Inv.tuple (I : Inv c A g s m) {a : Addr} {vs : List Value} {n : Nat} (h : g.F a = some (tupO vs n)) : s.heap.IsTuple a vs.toArray :=
 ⟨_, I.frz _ _ h, rfl, n, rfl⟩
theorem Inv.list (I : Inv c A g s m) {a : Addr} {vs : List Value} {n : Nat} (h : g.F a = some (lstO vs n)) : s.heap.IsList a vs.toArray :=
 ⟨_, I.frz _ _ h, rfl, n, rfl⟩
theorem allEq_spec {f : AV → AV → Option Bool} : ∀ {xs ys : List AV} {b : Bool}, allEq f xs ys = some b →
  xs.length = ys.length ∧ (∀ i (h1 : i < xs.length) (h2 : i < ys.length), ∃ c, f xs[i] ys[i] = some c) ∧ b = (List.range xs.length).all (fun i => (f (xs.getD i .any) (ys.getD i .any)).getD false)
 | [], [], b, h => by cases h; exact ⟨rfl, fun i h => absurd h (Nat.not_lt_zero _), rfl⟩
 | x :: xs, y :: ys, b, h => by
  obtain ⟨k, hk, h⟩ := bind_s (show (f x y).bind (fun a => (allEq f xs ys).bind fun b => some (a && b)) = some b from h)
  obtain ⟨k2, hk2, h⟩ := bind_s h
  ··obtain rfl := Option.some.inj h
    obtain ⟨l, a, e⟩ := allEq_spec hk2
    refine ⟨by simp [l], fun i h1 h2 => ?_, ?_⟩
    ·cases i with
     | zero => exact ⟨k, hk⟩
     | succ i => exact a i (by simpa using h1) (by simpa using h2)
    ·rw [List.length_cons, List.range_succ_eq_map, List.all_cons, List.all_map, e]
     simp [hk, Function.comp_def]
 | [], _ :: _, _, h => by cases h
 | _ :: _, [], _, h => by cases h
inductive EqC (n : Nat) : AV → AV → Bool → Prop
 | bool (x y : Bool) : EqC n (.bool x) (.bool y) (x == y)
 | int (x y : Int) : EqC n (.int x) (.int y) (x == y)
 | str (x y : Str) : EqC n (.str x) (.str y) (x == y)
 | tup {xs ys : List AV} {k : Bool} : allEq (eqAV n) xs ys = some k → EqC n (.tup xs) (.tup ys) k
 | lst {xs ys : List AV} {k : Bool} : allEq (eqAV n) xs ys = some k → EqC n (.lst xs) (.lst ys) k
theorem eqAV_c {n : Nat} {a b : AV} {k : Bool} (h : eqAV (n + 1) a b = some k) : EqC n a b k := by
 cases a with
 | bool x => obtain ⟨y, e, rfl⟩ := map_s h; rw [aBool_s e]; exact .bool x y
 | int x => obtain ⟨y, e, rfl⟩ := map_s h; rw [aInt_s e]; exact .int x y
 | str x => obtain ⟨y, e, rfl⟩ := map_s h; rw [aStr_s e]; exact .str x y
 | tup x => obtain ⟨y, e, q⟩ := bind_s h; rw [aTup_s e]; exact .tup q
 | lst x => obtain ⟨y, e, q⟩ := bind_s h; rw [aLst_s e]; exact .lst q
 | _ => exact nomatch h
theorem seq_inj {P : Params} {g : Gh} {ys : List AV} {vs us : List Value} {a : Addr} {n k : Nat} {t : String} (h1 : g.F a = some { cls := .type t, data := .seq vs.toArray n }) (h2 : g.F a = some { cls := .type t, data := .seq us.toArray k }) (r : Reps P g ys us) : Reps P g ys vs := by
 have := congrArg (fun o => match o with | some o => (match o.data with | .seq a _ => a.toList | _ => []) | none => ([] : List Value)) (h2.symm.trans h1)
 exact (show us = vs from this) ▸ r
theorem all_self {P : Params} {g : Gh} {f : AV → AV → Option Bool} (hf : ∀ a b v, Rep P g a v → Rep P g b v → ∀ k, f a b = some k → k = true) : ∀ {xs ys : List AV} {vs : List Value}, Reps P g xs vs → Reps P g ys vs → ∀ k, allEq f xs ys = some k → k = true
 | [], [], _, _, _, k, h => (Option.some.inj h).symm
 | [], _ :: _, _, _, _, k, h => nomatch h
 | _ :: _, [], _, _, _, k, h => nomatch h
 | x :: xs, y :: ys, vs, r1, r2, k, h => by
  obtain ⟨v, vs, rfl, p, q⟩ := r1.inv
  obtain ⟨_, _, e, p', q'⟩ := r2.inv
  obtain ⟨rfl, rfl⟩ := List.cons.inj e
  obtain ⟨k1, h1, h⟩ := bind_s (show (f x y).bind (fun a => (allEq f xs ys).bind fun b => some (a && b)) = some k from h)
  obtain ⟨k2, h2, h⟩ := bind_s h
  rw [← Option.some.inj h, hf _ _ _ p p' _ h1, all_self hf q q' _ h2]; rfl
theorem eq_self (P : Params) (g : Gh) : ∀ (n : Nat) (a b : AV) (v : Value), Rep P g a v → Rep P g b v → ∀ k, eqAV n a b = some k → k = true
 | 0, _, _, _, _, _, k, h => nomatch h
 | n + 1, a, b, v, ra, rb, k, h => by
  cases eqAV_c h with
  | bool x y =>
   have e := Value.bool.inj ((show v = .bool x from ra.inv).symm.trans rb.inv)
   rw [e]; exact beq_self_eq_true y
  | int x y =>
   obtain ⟨_, rfl⟩ := ra.inv
   obtain ⟨_, e⟩ := rb.inv
   rw [(Value.int.inj e).1]; exact beq_self_eq_true y
  | str x y =>
   obtain ⟨_, rfl⟩ := ra.inv
   obtain ⟨_, e⟩ := rb.inv
   rw [(Value.str.inj e).1]; exact beq_self_eq_true y
  | tup h =>
   obtain ⟨_, _, _, rfl, f1, r1⟩ := ra.inv
   obtain ⟨_, _, _, e, f2, r2⟩ := rb.inv
   cases e
   exact all_self (eq_self P g n) r1 (seq_inj f1 f2 r2) _ h
  | lst h =>
   obtain ⟨_, _, _, rfl, f1, r1⟩ := ra.inv
   obtain ⟨_, _, _, e, f2, r2⟩ := rb.inv
   cases e
   exact all_self (eq_self P g n) r1 (seq_inj f1 f2 r2) _ h
theorem all_congr {n : Nat} {f h : Nat → Bool} (k : ∀ i, i < n → f i = h i) : (List.range n).all f = (List.range n).all h := by
 induction n with
 | zero => rfl
 | succ n ih =>
  rw [List.range_succ, List.all_append, List.all_append, ih fun i hi => k i (Nat.lt_succ_of_lt hi)]
  simp [k n (Nat.lt_succ_self n)]
theorem Reps.getD {P : Params} {g : Gh} {xs : List AV} {vs : List Value} (r : Reps P g xs vs) {i : Nat} (h : i < vs.toArray.size) : Rep P g (xs.getD i .any) vs.toArray[i] := by
 have hl : i < vs.length := by simpa using h
 have hx : i < xs.length := r.length ▸ hl
 obtain ⟨u, hu, ru⟩ := r.get (List.getElem?_eq_getElem hx)
 rw [List.getElem?_eq_getElem hl] at hu
 cases hu
 rw [List.getD_eq_getElem?_getD, List.getElem?_eq_getElem hx]
 simpa using ru
theorem seq_eq {f : AV → AV → Option Bool} {P : Params} {g : Gh} {xs ys : List AV} {vs us : List Value} {k : Bool} {A' : Around} (r1 : Reps P g xs vs) (r2 : Reps P g ys us) (h : allEq f xs ys = some k)
  (ih : ∀ a b u v k, Rep P g a u → Rep P g b v → f a b = some k → EqAt A' s u v k) :
  vs.toArray.size = us.toArray.size ∧ ∃ e : Nat → Bool, (∀ j (h1 : j < vs.toArray.size) (h2 : j < us.toArray.size), EqAt A' s vs.toArray[j] us.toArray[j] (e j)) ∧ k = (List.range vs.toArray.size).all e := by
 obtain ⟨l, a, e⟩ := allEq_spec h
 have l1 := r1.length
 have l2 := r2.length
 refine ⟨by simp [l1, l2, l], fun i => (f (xs.getD i .any) (ys.getD i .any)).getD false, fun j h1 h2 => ?_, by rw [e]; simp [l1]⟩
 have q1 := r1.getD h1
 have q2 := r2.getD h2
 have x1 : j < xs.length := by rw [← l1]; simpa using h1
 have x2 : j < ys.length := by rw [← l]; exact x1
 obtain ⟨w, hw⟩ := a j x1 x2
 have e1 : xs.getD j .any = xs[j] := by rw [List.getD_eq_getElem?_getD, List.getElem?_eq_getElem x1]; rfl
 have e2 : ys.getD j .any = ys[j] := by rw [List.getD_eq_getElem?_getD, List.getElem?_eq_getElem x2]; rfl
 have := ih _ _ _ _ w q1 q2 (by rw [e1, e2]; exact hw)
 show EqAt A' s _ _ ((f (xs.getD j .any) (ys.getD j .any)).getD false)
 rw [e1, e2, hw]
 exact this
theorem tups_at (I : Inv c A g s m) {f : AV → AV → Option Bool} {xs ys : List AV} {vs us : List Value} {k : Bool} {A' : Around} {a b : Addr} {n n' : Nat} (hu : A'.units < cLine) (f1 : g.F a = some (tupO vs n)) (f2 : g.F b = some (tupO us n')) (r1 : Reps c.w.params g xs vs) (r2 : Reps c.w.params g ys us) (h : allEq f xs ys = some k)
  (ih : ∀ a b u v k, Rep c.w.params g a u → Rep c.w.params g b v → f a b = some k → EqAt A'.in1 s u v k) : RcAt A' s (.ref a) (.ref b) k ∧ RcNeAt A' s (.ref a) (.ref b) (!k) := by
 obtain ⟨hs, e, he, hk⟩ := seq_eq r1 r2 h ih
 have h1 := RcAt.tuples (I.tuple f1) (I.tuple f2) hu he
 have h2 := RcNeAt.tuples (I.tuple f1) (I.tuple f2) hu he
 rw [← hs, Nat.min_self, beq_self_eq_true, Bool.and_true, ← hk] at h1 h2
 exact ⟨h1, h2⟩
theorem lsts_at (I : Inv c A g s m) {f : AV → AV → Option Bool} {xs ys : List AV} {vs us : List Value} {k : Bool} {A' : Around} {a b : Addr} {n n' : Nat} (hu : A'.units < cLine) (f1 : g.F a = some (lstO vs n)) (f2 : g.F b = some (lstO us n')) (r1 : Reps c.w.params g xs vs) (r2 : Reps c.w.params g ys us) (h : allEq f xs ys = some k)
  (ih : ∀ a b u v k, Rep c.w.params g a u → Rep c.w.params g b v → f a b = some k → EqAt A'.in1 s u v k) : RcAt A' s (.ref a) (.ref b) k ∧ RcNeAt A' s (.ref a) (.ref b) (!k) := by
 obtain ⟨hs, e, he, hk⟩ := seq_eq r1 r2 h ih
 have h1 := RcAt.lists (I.list f1) (I.list f2) hs hu he
 have h2 := RcNeAt.lists (I.list f1) (I.list f2) hs hu he
 rw [← hk] at h1 h2
 exact ⟨h1, h2⟩
theorem eq_at (I : Inv c A g s m) : ∀ (n : Nat) (A' : Around) (a b : AV) (u v : Value) (k : Bool), A'.units + n < cLine → Rep c.w.params g a u → Rep c.w.params g b v → eqAV n a b = some k → EqAt A' s u v k
 | 0, _, _, _, _, _, _, _, _, _, h => nomatch h
 | n + 1, A', a, b, u, v, k, hu, ra, rb, h => by
  have hu' : A'.units + 1 + n < cLine := Nat.add_right_comm .. ▸ hu
  have ih := fun a b u v k => eq_at I n A'.in1 a b u v k hu'
  have h0 := fun {v} => eq_self c.w.params g (n + 1) a b v
  have hl : A'.units < cLine := Nat.lt_of_le_of_lt (Nat.le_add_right ..) hu
  cases eqAV_c h with
  | bool x y => obtain rfl : u = _ := ra.inv; obtain rfl : v = _ := rb.inv; exact EqAt.bool_bool _ _
  | int x y => obtain ⟨_, rfl⟩ := ra.inv; obtain ⟨_, rfl⟩ := rb.inv; exact EqAt.int_int _ _ _ _
  | str x y => obtain ⟨_, rfl⟩ := ra.inv; obtain ⟨_, rfl⟩ := rb.inv; exact EqAt.str_str _ _ _ _
  | tup q =>
   obtain ⟨_, a1, _, rfl, f1, r1⟩ := ra.inv
   obtain ⟨_, a2, _, rfl, f2, r2⟩ := rb.inv
   by_cases ha : a1 = a2
   ·subst ha; rw [h0 ra rb _ h]; exact EqAt.same _
   ·exact EqAt.of_refs ha (tups_at I hl f1 f2 r1 r2 q ih).1
  | lst q =>
   obtain ⟨_, a1, _, rfl, f1, r1⟩ := ra.inv
   obtain ⟨_, a2, _, rfl, f2, r2⟩ := rb.inv
   by_cases ha : a1 = a2
   ·subst ha; rw [h0 ra rb _ h]; exact EqAt.same _
   ·exact EqAt.of_refs ha (lsts_at I hl f1 f2 r1 r2 q ih).1
theorem eq_rc (I : Inv c A g s m) (A' : Around) (n : Nat) (a b : AV) (u v : Value) (k : Bool) (hu : A'.units + n + 1 < cLine) (ra : Rep c.w.params g a u) (rb : Rep c.w.params g b v) (h : eqAV n a b = some k) :
  RcAt A' s u v k ∧ RcNeAt A' s u v (!k) := by
 cases n with
 | zero => exact nomatch h
 | succ n =>
  have hu' : A'.units + 1 + n < cLine := Nat.lt_of_succ_lt (by rw [Nat.add_right_comm A'.units 1 n]; exact hu)
  have ih := fun a b u v k => eq_at I n A'.in1 a b u v k hu'
  have hl : A'.units < cLine := Nat.lt_of_le_of_lt (Nat.le_add_right A'.units (1 + n)) (by rw [← Nat.add_assoc]; exact hu')
  cases eqAV_c h with
  | bool x y => obtain rfl : u = _ := ra.inv; obtain rfl : v = _ := rb.inv; exact ⟨RcAt.bool_bool _ _, RcNeAt.bool_bool _ _⟩
  | int x y => obtain ⟨_, rfl⟩ := ra.inv; obtain ⟨_, rfl⟩ := rb.inv; exact ⟨RcAt.int_int _ _ _ _, RcNeAt.int_int _ _ _ _⟩
  | str x y => obtain ⟨_, rfl⟩ := ra.inv; obtain ⟨_, rfl⟩ := rb.inv; exact ⟨RcAt.str_str _ _ _ _, RcNeAt.str_str _ _ _ _⟩
  | tup q =>
   obtain ⟨_, a1, _, rfl, f1, r1⟩ := ra.inv
   obtain ⟨_, a2, _, rfl, f2, r2⟩ := rb.inv
   exact tups_at I hl f1 f2 r1 r2 q ih
  | lst q =>
   obtain ⟨_, a1, _, rfl, f1, r1⟩ := ra.inv
   obtain ⟨_, a2, _, rfl, f2, r2⟩ := rb.inv
   exact lsts_at I hl f1 f2 r1 r2 q ih
theorem in_spec {a : AV} : ∀ {xs : List AV} {k : Bool}, inAV a xs = some k → (∀ x ∈ xs, ∃ b, eqAV 5 x a = some b) ∧ k = xs.any (fun x => (eqAV 5 x a).getD false)
 | [], _, h => by cases h; exact ⟨fun _ h => absurd h (List.not_mem_nil), rfl⟩
 | x :: xs, k, h => by
  obtain ⟨k1, h1, h⟩ := bind_s (show (eqAV 5 x a).bind (fun k => (inAV a xs).bind fun b => some (k || b)) = some k from h)
  obtain ⟨k2, h2, h⟩ := bind_s h
  ··obtain rfl := Option.some.inj h
    obtain ⟨p, q⟩ := in_spec h2
    refine ⟨fun y hy => ?_, by rw [q]; simp [h1]⟩
    rcases List.mem_cons.mp hy with rfl | hy
    ·exact ⟨_, h1⟩
    ·exact p y hy
end
end
section
open PySem PySem.W PyProof.Rows PySem.Calls
open PySem.SeqAt
section
variable {c : Cx} {A : Around} {s : Shared} {g : Gh} {m : Mem} {X : Addr → Prop}
theorem Reps.mem {P : Params} {g : Gh} : ∀ {xs : List AV} {vs : List Value}, Reps P g xs vs → ∀ {v : Value}, v ∈ vs → ∃ x ∈ xs, Rep P g x v
 | [], vs, r, v, h => by rw [show vs = [] from r.inv] at h; exact nomatch h
 | x :: xs, vs, r, v, h => by
  obtain ⟨u, us, rfl, p, q⟩ := r.inv
  rcases List.mem_cons.mp h with rfl | h
  ·exact ⟨_, List.mem_cons_self, p⟩
  ·obtain ⟨x, hx, rx⟩ := q.mem h
   exact ⟨x, List.mem_cons_of_mem _ hx, rx⟩
theorem Reps.mem' {P : Params} {g : Gh} : ∀ {xs : List AV} {vs : List Value}, Reps P g xs vs → ∀ {x : AV}, x ∈ xs → ∃ v ∈ vs, Rep P g x v
 | [], _, _, _, h => nomatch h
 | x :: xs, vs, r, y, h => by
  obtain ⟨u, us, rfl, p, q⟩ := r.inv
  rcases List.mem_cons.mp h with rfl | h
  ·exact ⟨_, List.mem_cons_self, p⟩
  ·obtain ⟨v, hv, rv⟩ := q.mem' h
   exact ⟨v, List.mem_cons_of_mem _ hv, rv⟩
theorem in_ok (I : Inv c A g s m) (A' : Around) {a : AV} {u : Value} {xs : List AV} {vs : List Value} {k : Bool} (hu : A'.units + 5 < cLine) (ra : Rep c.w.params g a u) (rs : Reps c.w.params g xs vs) (h : inAV a xs = some k) :
  ∃ e : Value → Bool, (∀ y, y ∈ vs.toArray → EqAt A' s y u (e y)) ∧ vs.toArray.any e = k := by
 classical
 obtain ⟨h1, h2⟩ := in_spec h
 refine ⟨fun y => decide (∃ x ∈ xs, Rep c.w.params g x y ∧ eqAV 5 x a = some true), fun y hy => ?_, ?_⟩
 ·show EqAt A' s y u (decide (∃ x ∈ xs, Rep c.w.params g x y ∧ eqAV 5 x a = some true))
  have hy' : y ∈ vs := by simpa using hy
  by_cases q : ∃ x ∈ xs, Rep c.w.params g x y ∧ eqAV 5 x a = some true
  ·rw [decide_eq_true q]
   obtain ⟨x, _, rx, hx⟩ := q
   exact eq_at I 5 A' x a y u true hu rx ra hx
  ·rw [decide_eq_false q]
   obtain ⟨x, mx, rx⟩ := rs.mem hy'
   obtain ⟨b, hb⟩ := h1 x mx
   cases b with
   | true => exact absurd ⟨x, mx, rx, hb⟩ q
   | false => exact eq_at I 5 A' x a y u false hu rx ra hb
 ·rw [h2]
  apply Bool.eq_iff_iff.mpr
  rw [List.any_toArray, List.any_eq_true, List.any_eq_true]
  constructor
  ·rintro ⟨y, hy, q⟩
   obtain ⟨x, mx, rx, hx⟩ := of_decide_eq_true q
   exact ⟨x, mx, by rw [hx]; rfl⟩
  ·rintro ⟨x, mx, q⟩
   obtain ⟨b, hb⟩ := h1 x mx
   rw [hb] at q
   obtain ⟨v, mv, rv⟩ := rs.mem' mx
   refine ⟨v, mv, decide_eq_true ⟨x, mx, rv, ?_⟩⟩
   rw [hb]; simpa using q
noncomputable def ObjInt (c : Cx) : Prop := ∀ (A : Around) (s : Shared) (a d : Addr) (i : Int) (t : Tok), A.units + 2 < cLine → (∀ b o, c.h0.get? b = some o → s.heap.get? b = some o) → s.heap.get? a = some (instObj 486 d) → RcAt A s (.ref a) (.int i t) false
theorem units_in {a n : Nat} (h : a + 8 < n) : a + 1 + 5 < n := by omega
theorem ints_of {f : Int → Int → Bool} {a b : AV} {u v : Value} {k : Bool} (ra : Rep c.w.params g a u) (rb : Rep c.w.params g b v) (h : both (aInt a) (aInt b) f = some k) : ∃ x y t t', u = .int x t ∧ v = .int y t' ∧ k = f x y := by
 obtain ⟨x, y, h1, h2, e⟩ := both_some h
 rw [aInt_s h1] at ra
 rw [aInt_s h2] at rb
 obtain ⟨t, q1⟩ := ra.inv
 obtain ⟨t', q2⟩ := rb.inv
 exact ⟨x, y, t, t', q1, q2, e⟩
theorem tup_of (I : Inv c A g s m) {a : AV} {u : Value} (ra : Rep c.w.params g a u) {xs : List AV} (h : aTup a = some xs) : ∃ l vs, u = .ref l ∧ s.heap.IsTuple l vs.toArray ∧ Reps c.w.params g xs vs := by
 rw [aTup_s h] at ra
 obtain ⟨vs, l, _, e, f, r⟩ := ra.inv
 exact ⟨l, vs, e, I.tuple f, r⟩
theorem tup_of' (I : Inv c A g s m) {a : AV} {u : Value} (ra : Rep c.w.params g a u) (h : (aTup a).isSome = true) : ∃ l vs, u = .ref l ∧ s.heap.IsTuple l (List.toArray vs) := by
 obtain ⟨l, vs, e, r, _⟩ := tup_of I ra (Option.eq_some_of_isSome h)
 exact ⟨l, vs, e, r⟩
theorem int_of' {a : AV} {u : Value} (ra : Rep c.w.params g a u) (h : (aInt a).isSome = true) : ∃ x t, u = .int x t := by
 rw [aInt_s (Option.eq_some_of_isSome h)] at ra
 exact ⟨_, ra.inv⟩
theorem tupInt_ok (hA : A.units + 8 < cLine) (I : Inv c A g s m) {a b : AV} {u v : Value} (ra : Rep c.w.params g a u) (rb : Rep c.w.params g b v) (h : tupInt a b = true) : RcAt A s u v false ∧ RcNeAt A s u v true := by
 have hl : A.units < cLine := Nat.lt_of_le_of_lt (Nat.le_add_right _ _) hA
 rcases Bool.or_eq_true_iff.mp h with h | h
 ·have h := Bool.and_eq_true_iff.mp h
  obtain ⟨l, vs, rfl, f⟩ := tup_of' I ra h.1
  obtain ⟨x, t, rfl⟩ := int_of' rb h.2
  exact ⟨RcAt.tuple_int _ _ f hl, RcNeAt.tuple_int _ _ f hl⟩
 ·have h := Bool.and_eq_true_iff.mp h
  obtain ⟨x, t, rfl⟩ := int_of' ra h.1
  obtain ⟨l, vs, rfl, f⟩ := tup_of' I rb h.2
  exact ⟨RcAt.int_tuple _ _ f hl, RcNeAt.int_tuple _ _ f hl⟩
theorem objInt_ok (O : ObjInt c) (hA : A.units + 8 < cLine) (I : Inv c A g s m) {a b : AV} {u v : Value} (ra : Rep c.w.params g a u) (rb : Rep c.w.params g b v) (h : objInt a b = true) : RcAt A s u v false := by
 cases a with
 | obj C xs =>
  have h := Bool.and_eq_true_iff.mp h
  obtain ⟨x, t, rfl⟩ := int_of' rb h.2
  obtain ⟨l, d, _, _, rfl, f, _⟩ := ra.inv
  rw [Nat.eq_of_beq_eq_true h.1] at f
  exact O A s _ _ _ _ (Nat.lt_of_le_of_lt (Nat.add_le_add_left (by decide) _) hA) I.keeps (I.frz _ _ f)
 | _ => exact nomatch h
theorem eqTop_ok (O : ObjInt c) (hA : A.units + 8 < cLine) (I : Inv c A g s m) {a b : AV} {u v : Value} {k : Bool} (ra : Rep c.w.params g a u) (rb : Rep c.w.params g b v) (h : eqTop a b = some k) : RcAt A s u v k := by
 unfold eqTop at h
 cases q : objInt a b with
 | true => rw [q] at h; rw [← Option.some.inj h]; exact objInt_ok O hA I ra rb q
 | false =>
  rw [q] at h
  cases q2 : tupInt a b with
  | true => rw [q2] at h; rw [← Option.some.inj h]; exact (tupInt_ok hA I ra rb q2).1
  | false => rw [q2] at h; exact (eq_rc I A 6 _ _ u v k (Nat.lt_of_succ_lt hA) ra rb h).1
theorem isNone_ok {a : AV} {u : Value} {k : Bool} (ra : Rep c.w.params g a u) (h : isNone a = some k) : (u = .none ∧ k = true) ∨ (∃ l, u = .ref l) ∧ k = false := by
 cases a with
 | none => exact .inl ⟨ra.inv, (Option.some.inj h).symm⟩
 | obj => obtain ⟨l, _, _, _, e, _⟩ := ra.inv; exact .inr ⟨⟨l, e⟩, (Option.some.inj h).symm⟩
 | tup => obtain ⟨_, l, _, e, _⟩ := ra.inv; exact .inr ⟨⟨l, e⟩, (Option.some.inj h).symm⟩
 | _ => exact nomatch h
theorem cmpB_ok (O : ObjInt c) (hA : A.units + 8 < cLine) (I : Inv c A g s m) (op : CmpOp) {a b : AV} {u v : Value} {k : Bool} (ra : Rep c.w.params g a u) (rb : Rep c.w.params g b v) (h : cmpB op a b = some k)
  {Q : Value → Shared → Prop} {E : Value → Shared → Prop} (hQ : Q (.bool k) s) : wpAny (model pw c.w) A (compareOp op u v) Q E s := by
 have h1 := units_in hA
 cases op with
 | Lt => obtain ⟨_, _, _, _, rfl, rfl, rfl⟩ := ints_of ra rb h; exact lt_int hQ
 | LtE => obtain ⟨_, _, _, _, rfl, rfl, rfl⟩ := ints_of ra rb h; exact PyProof.Rows.le_int hQ
 | Gt => obtain ⟨_, _, _, _, rfl, rfl, rfl⟩ := ints_of ra rb h; exact gt_int hQ
 | GtE => obtain ⟨_, _, _, _, rfl, rfl, rfl⟩ := ints_of ra rb h; exact PyProof.Rows.ge_int hQ
 | Eq => exact eqTop_ok O hA I ra rb h pw c.w E Q hQ
 | NotEq =>
  unfold cmpB at h
  cases q : tupInt a b with
  | true => rw [q] at h; rw [← Option.some.inj h] at hQ; exact (tupInt_ok hA I ra rb q).2 pw c.w E Q hQ
  | false =>
   rw [q] at h
   obtain ⟨k', e, rfl⟩ := map_s h
   exact (eq_rc I A 6 _ _ u v k' (Nat.lt_of_succ_lt hA) ra rb e).2 pw c.w E Q hQ
 | Is =>
  unfold cmpB at h
  cases q : aNone b with
  | false => rw [q] at h; exact nomatch h
  | true =>
   rw [q] at h
   rw [aNone_s q] at rb
   obtain rfl : v = .none := rb.inv
   rcases isNone_ok ra h with ⟨rfl, rfl⟩ | ⟨⟨l, rfl⟩, rfl⟩
   ·exact wpAny_is_plain rfl hQ
   ·exact wpAny_is_plain rfl hQ
 | IsNot =>
  unfold cmpB at h
  cases q : aNone b with
  | false => rw [q] at h; exact nomatch h
  | true =>
   rw [q] at h
   obtain ⟨k', e, rfl⟩ := map_s h
   rw [aNone_s q] at rb
   obtain rfl : v = .none := rb.inv
   rcases isNone_ok ra e with ⟨rfl, rfl⟩ | ⟨⟨l, rfl⟩, rfl⟩
   ·exact wpAny_isNot_plain rfl hQ
   ·exact wpAny_isNot_plain rfl hQ
 | In =>
  unfold cmpB at h
  cases q : aTup b with
  | some xs =>
   rw [q] at h
   obtain ⟨l, vs, rfl, f, r⟩ := tup_of I rb q
   obtain ⟨e, he, hk⟩ := in_ok I A.in1 h1 ra r h
   exact in_tupleAt e f he (by rw [hk]; exact hQ)
  | none =>
   rw [q] at h
   obtain ⟨xs, e, h⟩ := bind_s h
   rw [aLst_s e] at rb
   obtain ⟨vs, l, _, rfl, f, r⟩ := rb.inv
   obtain ⟨e, he, hk⟩ := in_ok I A.in1 h1 ra r h
   exact in_listAt e (I.list f) he (by rw [hk]; exact hQ)
 | NotIn =>
  obtain ⟨xs, e, h⟩ := bind_s h
  obtain ⟨k', e', rfl⟩ := map_s h
  obtain ⟨l, vs, rfl, f, r⟩ := tup_of I rb e
  obtain ⟨e, he, hk⟩ := in_ok I A.in1 h1 ra r e'
  exact notIn_tupleAt e f he (by rw [hk]; exact hQ)
end
end
section
open PySem PySem.W PyProof.Rows PySem.Calls
noncomputable def clsFact (K : Frag) (C : Addr) : Bool :=
 plainGet K C Str.empty && hasDictIn K C && (flds C).all (fun n => findIn K (.ref C) n == some none) &&
 (methS C).all (fun p => findIn K (.ref C) (Str.ofString p.1) == some (some (.ref p.2)) && isFn K (.ref p.2) && !(flds C).contains (Str.ofString p.1))
theorem clsFacts (P : Params) : ([211, 366, 486, 614, 818, 900].all (clsFact (kFrag P))) = true := by kernel_rfl
noncomputable def statRec (K : Frag) (q fa : Addr) : Bool := (recIn K q "staticmethod").bind List.head? == some (.ref fa)
noncomputable def cfGet (x : CFound) : Option (Value × Value × Value × Value) := match x with
 | .get a b c d => some (a, b, c, d)
 | _ => none
noncomputable def statGet (K : Frag) (C fa : Addr) (p : Value × Value × Value × Value) : Bool := p.1 == .builtin "staticmethod.__get__" && p.2.2.1 == .none && p.2.2.2 == .ref C && ((valRef p.2.1).any fun q => statRec K q fa)
noncomputable def statLook (K : Frag) (C : Addr) (fa : Addr) (o : Option CFound) : Bool := (o.bind cfGet).any (statGet K C fa)
theorem any_s {α : Type} {o : Option α} {f : α → Bool} (h : o.any f = true) : ∃ a, o = some a ∧ f a = true := by
 cases o with
 | none => exact nomatch h
 | some a => exact ⟨a, rfl, h⟩
theorem valRef_s {v : Value} {a : Addr} (h : valRef v = some a) : v = .ref a := (by cases v <;> first | exact trivial | exact rfl : OptP (v = .ref ·) (valRef v)).of h
theorem aRef_s {v : AV} {a : Addr} (h : aRef v = some a) : v = .val (.ref a) := by
 cases v with
 | val v => rw [valRef_s h]
 | _ => exact nomatch h
theorem cfGet_s {x : CFound} {p : Value × Value × Value × Value} (h : cfGet x = some p) : x = .get p.1 p.2.1 p.2.2.1 p.2.2.2 := by
 cases x with
 | get => rw [← Option.some.inj h]
 | _ => exact nomatch h
theorem statLook_s {K : Frag} {C fa : Addr} {o : Option CFound} (h : statLook K C fa o = true) : ∃ q rest, o = some (.get (.builtin "staticmethod.__get__") (.ref q) .none (.ref C)) ∧ recIn K q "staticmethod" = some (.ref fa :: rest) := by
 obtain ⟨p, h1, h2⟩ := any_s h
 obtain ⟨x, e1, h1⟩ := bind_s h1
 have h2 := Bool.and_eq_true_iff.mp h2
 have h3 := Bool.and_eq_true_iff.mp h2.1
 have h4 := Bool.and_eq_true_iff.mp h3.1
 obtain ⟨q, e, h5⟩ := any_s h2.2
 obtain ⟨l, h6, h7⟩ := bind_s (beq_iff_eq.mp h5)
 obtain ⟨rest, e2⟩ := List.head?_eq_some_iff.mp h7
 exact ⟨q, rest, by rw [e1, cfGet_s h1, beq_iff_eq.mp h4.1, beq_iff_eq.mp h4.2, beq_iff_eq.mp h3.2, valRef_s e], e2 ▸ h6⟩
noncomputable def statFact (K : Frag) (C : Addr) (p : String × Addr) : Bool :=
 (specialIn K (.ref C) "__getattribute__" == some (some (.builtin "type.__getattribute__"))) && (typeIn K (.ref C) == some (.type "type")) && readsIn K C (.type "type") &&
 statLook K C p.2 (findCls K (.ref C) (.type "type") (Str.ofString p.1))
theorem statFacts (P : Params) : ((statS 211).all (statFact (kFrag P) 211) && (statS 366).all (statFact (kFrag P) 366)) = true := by kernel_rfl
theorem isStr_str (n k : Str) (t : Tok) : (Value.str k t).isStr n = (k == n) := rfl
section
variable {P : Params} {g : Gh}
theorem getL_same {n : Str} {h : Int} {t : Tok} {v : Value} {es : List DictEntry} : getL n (⟨h, .str n t, v⟩ :: es) = some (some v) := by
 unfold getL
 rw [List.find?_cons, isStr_str, beq_self_eq_true]
theorem getL_other {n f : Str} (e : n ≠ f) {h : Int} {t : Tok} {v : Value} {es : List DictEntry} : getL n (⟨h, .str f t, v⟩ :: es) = getL n es := by
 unfold getL
 rw [List.find?_cons, isStr_str, show (f == n) = false from beq_eq_false_iff_ne.mpr (Ne.symm e)]
 dsimp only
 rw [List.any_cons]; rfl
theorem ents_get {n : Str} : ∀ {fs : List Str} {es : List DictEntry} {xs : List AV}, Ents P g fs es xs → ∀ {x : AV}, lkE n fs xs = some x → ∃ v, getL n es = some (some v) ∧ Rep P g x v
 | [], _, [], r, _, h => nomatch h
 | _ :: _, _, [], r, _, h => nomatch h
 | [], _, _ :: _, r, _, h => nomatch h
 | f :: fs, es, y :: xs, r, x, h => by
  obtain ⟨f', fs', t, v, es', e1, rfl, p, q⟩ := r.inv
  obtain ⟨rfl, rfl⟩ := List.cons.inj e1
  have h : (if n = f then some y else lkE n fs xs) = some x := h
  by_cases e : n = f
  ·subst e
   rw [if_pos rfl] at h
   exact ⟨v, getL_same, Option.some.inj h ▸ p⟩
  ·rw [if_neg e] at h
   rw [getL_other e]
   exact ents_get q h
theorem ents_none {n : Str} : ∀ {xs : List AV} {fs : List Str} {es : List DictEntry}, Ents P g fs es xs → n ∉ fs → getL n es = some none
 | [], fs, es, r, _ => by rw [show es = [] from r.inv.2]; rfl
 | x :: xs, fs, es, r, h => by
  obtain ⟨f', fs', t, v, es', rfl, rfl, p, q⟩ := r.inv
  rw [getL_other (n := n) (f := f') fun e => h (by rw [e]; exact .head _)]
  exact ents_none q fun hh => h (.tail _ hh)
theorem Rep.handed {x : AV} {v : Value} (r : Rep P g x v) (h : tame x = true) : handedIn v = true := by
 cases x with
 | none => rw [show v = _ from r.inv]; rfl
 | bool => rw [show v = _ from r.inv]; rfl
 | int => obtain ⟨_, rfl⟩ := r.inv; rfl
 | str => obtain ⟨_, rfl⟩ := r.inv; rfl
 | val => exact nomatch h
 | any => exact nomatch h
 | hnd => obtain ⟨_, _, rfl, _⟩ := r.inv; rfl
 | tup => obtain ⟨_, _, _, rfl, _⟩ := r.inv; rfl
 | lst => obtain ⟨_, _, _, rfl, _⟩ := r.inv; rfl
 | «ints» => obtain ⟨_, _, _, rfl, _⟩ := r.inv; rfl
 | obj => obtain ⟨_, _, _, _, rfl, _⟩ := r.inv; rfl
 | rng => obtain ⟨_, _, _, _, rfl, _⟩ := r.inv; rfl
end
theorem known_in {C : Addr} (h : known C = true) : C ∈ [211, 366, 486, 614, 818, 900] := by
 obtain ⟨D, h1, h2⟩ := List.any_eq_true.mp h
 rw [Nat.eq_of_beq_eq_true h2]; exact h1
theorem known_fact {P : Params} {C : Addr} (h : known C = true) : clsFact (kFrag P) C = true := List.all_eq_true.mp (clsFacts P) C (known_in h)
theorem tameO_some {o : Option AV} {v : AV} (h : tameO o = some v) : o = some v ∧ tame v = true := by
 cases o with
 | none => exact nomatch h
 | some x =>
  have h : (if tame x then some x else none) = some v := h
  cases q : tame x with
  | true => rw [q] at h; rw [← Option.some.inj h]; exact ⟨rfl, q⟩
  | false => rw [q] at h; exact nomatch h
theorem lkS_mem {α : Type} {n : Str} : ∀ {l : List (String × α)} {v : α}, lkS n l = some v → ∃ k, (k, v) ∈ l ∧ n = Str.ofString k
 | [], _, h => nomatch h
 | (k, u) :: r, v, h => by
  have h : (if n = Str.ofString k then some u else lkS n r) = some v := h
  by_cases e : n = Str.ofString k
  ·rw [if_pos e] at h; exact ⟨k, Option.some.inj h ▸ .head _, e⟩
  ·rw [if_neg e] at h; obtain ⟨k', m, e⟩ := lkS_mem h; exact ⟨k', .tail _ m, e⟩
section
variable {c : Cx} {A : Around} {s : Shared} {g : Gh} {m : Mem} {X : Addr → Prop}
theorem Inv.K (I : Inv c A g s m) : (kFrag c.w.params).In s.heap := c.K.keeps I.keeps
structure InstE (c : Cx) (g : Gh) (s : Shared) (a : Addr) (C : Addr) (fs : List Str) (es : List DictEntry) (n : Nat) (xs : List AV) : Prop where
 inst : ∃ d, InstAt s.heap a (instObj C d) C (some (dictOf es n))
 ents : Ents c.w.params g fs es xs
theorem inst_of (I : Inv c A g s m) {v : AV} {u : Value} (r : Rep c.w.params g v u) {p : Addr × List Str × List AV} (h : instOf m v = some p) : ∃ a es n, u = .ref a ∧ InstE c g s a p.1 p.2.1 es n p.2.2 := by
 cases v with
 | obj C xs =>
  rw [← Option.some.inj h]
  obtain ⟨_, _, _, _, e, h1, h2, h3⟩ := r.inv
  exact ⟨_, _, _, e, ⟨_, I.frz _ _ h1, rfl, rfl, I.frz _ _ h2⟩, h3⟩
 | hnd k =>
  obtain ⟨mo, hk, hm⟩ := bind_s h
  cases mo with
  | inst C fs =>
   obtain ⟨_, _, e0, e⟩ := r.inv
   obtain ⟨a, d, es, n, e1, h1, h2, h3⟩ := I.cell k _ _ hk e
   rw [← Option.some.inj hm]
   exact ⟨a, es, n, e0.trans (congrArg Value.ref (List.cons.inj e1).1), ⟨d, h1, rfl, rfl, h2⟩, h3⟩
  | _ => exact nomatch hm
 | _ => exact nomatch h
theorem attr_ok (I : Inv c A g s m) {v x : AV} {u : Value} {n : Str} {b : Bool} (r : Rep c.w.params g v u) (h : attrOf m v n = some x) {Q : Value → Shared → Prop} {E : Value → Shared → Prop}
  (hQ : ∀ y k, Rep c.w.params g x y → Q y { s with toks := k }) : wpAny (model pw c.w) A (getAttr u n b) Q E s := by
 obtain ⟨p, hp, h⟩ := bind_s h
 obtain ⟨a, es, nn, rfl, J⟩ := inst_of I r hp
 cases hb : known p.1 && (flds p.1).contains n with
 | false => rw [hb] at h; exact nomatch h
 | true =>
  rw [hb] at h
  have hb := Bool.and_eq_true_iff.mp hb
  have F := Bool.and_eq_true_iff.mp (Bool.and_eq_true_iff.mp (known_fact (P := c.w.params) hb.1)).1
  have F1 := Bool.and_eq_true_iff.mp F.1
  obtain ⟨d, J1⟩ := J.inst
  obtain ⟨t1, t2⟩ := tameO_some h
  obtain ⟨y, hy, ry⟩ := ents_get J.ents t1
  exact get_value I.K J1 (plainGet_of F1.1).1 (findObj_own F1.2 (beq_iff_eq.mp (List.all_eq_true.mp F.2 n (List.contains_iff_mem.mp hb.2))) rfl hy) (ry.handed t2) (hQ y _ ry)
end
section
variable {c : Cx} {C : Cfg} {n : Nat} {A : Around} {env : Env} {L : Addr} {s : Shared} {g : Gh} {lo : Lo} {m : Mem} {R : Rec} {X : Addr → Prop}
theorem meth_core (I : Inv c A g s m) {v : AV} {n : Str} {pl : Sem Bool} {fa C a : Addr} {fs : List Str} {es : List DictEntry} {nn : Nat} {xs : List AV} (r : Rep c.w.params g v (.ref a)) (J : InstE c g s a C fs es nn xs) (hk : known C = true) (hf : n ∉ fs) (h1 : lkS n (methS C) = some fa)
  {Q : Value × List Value → Shared → Prop} {E : Value → Shared → Prop} (hQ : ∀ vs k, Reps c.w.params g [v] vs → Q (.ref fa, vs) { s with toks := k }) : wpAny (model pw c.w) A (getMethod (.ref a) n pl) Q E s := by
 have F := Bool.and_eq_true_iff.mp (known_fact (P := c.w.params) hk)
 have F1 := (Bool.and_eq_true_iff.mp (Bool.and_eq_true_iff.mp F.1).1).1
 obtain ⟨k, hm, rfl⟩ := lkS_mem h1
 have f4 := Bool.and_eq_true_iff.mp (Bool.and_eq_true_iff.mp (List.all_eq_true.mp F.2 _ hm)).1
 obtain ⟨d, J1⟩ := J.inst
 refine method_fn I.K J1 (plainGet_of F1).1 (plainGet_of F1).2 (f := fa) (beq_iff_eq.mp f4.1) (beq_iff_eq.mp f4.2) ?_ (hQ _ s.toks (.cons r .nil))
 show (lookIn (Str.ofString k) (dictOf es nn)).map _ = _
 rw [lookIn_dict, ents_none J.ents hf]; rfl
theorem meth_stat (I : Inv c A g s m) {n : Str} {pl : Sem Bool} {fa C : Addr} (h1 : lkS n (statS C) = some fa)
  {Q : Value × List Value → Shared → Prop} {E : Value → Shared → Prop} (hQ : ∀ vs k, Reps c.w.params g [] vs → Q (.ref fa, vs) { s with toks := k }) : wpAny (model pw c.w) A (getMethod (.ref C) n pl) Q E s := by
 obtain ⟨k, hm, rfl⟩ := lkS_mem h1
 have hs : statFact (kFrag c.w.params) C (k, fa) = true := by
  have F := Bool.and_eq_true_iff.mp (statFacts c.w.params)
  unfold statS at hm
  split at hm
  ·exact List.all_eq_true.mp F.1 _ hm
  ·exact List.all_eq_true.mp F.2 _ hm
  ·exact nomatch hm
 have h2 := Bool.and_eq_true_iff.mp hs
 have h3 := Bool.and_eq_true_iff.mp h2.1
 have h4 := Bool.and_eq_true_iff.mp h3.1
 obtain ⟨q, rest, hc, hr⟩ := statLook_s h2.2
 exact method_cls I.K (beq_iff_eq.mp h4.1) (cls_bind I.K h3.2 hc (wpAny_call (sm_get (s := { s with toks := s.toks + 1 }) I.K hr (handed_on rfl (hQ [] _ .nil)))))
theorem meth_ok (I : Inv c A g s m) {v : AV} {u : Value} {n : Str} {pl : Sem Bool} {p : Value × List AV} (r : Rep c.w.params g v u) (h : methOf m v n = some p)
  {Q : Value × List Value → Shared → Prop} {E : Value → Shared → Prop}
  (hQ : ∀ vs k, Reps c.w.params g p.2 vs → Q (p.1, vs) { s with toks := k }) : wpAny (model pw c.w) A (getMethod u n pl) Q E s := by
 unfold methOf at h
 cases hi : instOf m v with
 | some q =>
  rw [hi] at h
  obtain ⟨a, es, nn, rfl, J⟩ := inst_of I r hi
  have h : (match known q.1 && !(q.2.1.contains n) with
   | true => (lkS n (methS q.1)).map fun f => (Value.ref f, [v])
   | false => none) = some p := h
  cases hb : known q.1 && !(q.2.1.contains n) with
  | false => rw [hb] at h; exact nomatch h
  | true =>
   rw [hb] at h
   have hb := Bool.and_eq_true_iff.mp hb
   obtain ⟨fa, h1, rfl⟩ := map_s h
   exact meth_core I r J hb.1 (fun z => Bool.noConfusion ((Bool.not_eq_true' _ ▸ hb.2).symm.trans (List.contains_iff_mem.mpr z))) h1 hQ
 | none =>
  rw [hi] at h
  have h : (match aRef v with
   | some C => (lkS n (statS C)).map fun f => (Value.ref f, [])
   | none => (aStr v).bind fun _ => if n = Str.ofString "strip" then some (.builtin "str.strip", [v]) else if n = Str.ofString "split" then some (.builtin "str.split", [v]) else none) = some p := h
  cases hv : aRef v with
  | some C =>
   rw [hv] at h
   obtain ⟨fa, h1, rfl⟩ := map_s h
   rw [aRef_s hv] at r
   obtain rfl : u = .ref C := r.inv
   exact meth_stat I h1 hQ
  | none =>
   rw [hv] at h
   obtain ⟨x, hx, h⟩ := bind_s h
   rw [aStr_s hx] at r h
   obtain ⟨t, rfl⟩ := r.inv
   by_cases e : n = Str.ofString "strip"
   ·rw [if_pos e] at h; obtain rfl := Option.some.inj h; subst e
    exact GM.strip (hQ _ s.toks (.cons (.str _ _) .nil))
   ·rw [if_neg e] at h
    by_cases e : n = Str.ofString "split"
    ·rw [if_pos e] at h; obtain rfl := Option.some.inj h; subst e
     exact GM.split (hQ _ s.toks (.cons (.str _ _) .nil))
    ·rw [if_neg e] at h; exact nomatch h
theorem attrBase {o : Expr} (x : Str) (hb : bareCall o = false) : attributeBase o x env (eval o env) = eval o env := by
 cases o with
 | Call f es ks p =>
  cases es with
  | cons => cases f <;> rfl
  | nil =>
   cases ks with
   | cons => cases f <;> rfl
   | nil =>
    cases f with
    | Name => exact nomatch hb
    | _ => rfl
 | _ => rfl
theorem starEach_cons {e : Expr} {r : List Expr} (h : isStar e = false) : starEach (e :: r) env = (false, eval e env) :: starEach r env := by
 cases e <;> first | rfl | cases h
theorem star_none : ∀ {es : List Expr} {pos : Pos}, es.any isStar = false → (backTo pos (starEach es env)).any (·.1) = false ∧ (backTo pos (starEach es env)).all (fun x => !x.1) = true
 | [], _, _ => ⟨rfl, rfl⟩
 | e :: r, pos, h => by
  rw [List.any_cons, Bool.or_eq_false_iff] at h
  obtain ⟨a, b⟩ := star_none (pos := pos) h.2
  rw [starEach_cons h.1]
  exact ⟨by show (false || _) = false; exact a, by show (!false && _) = true; exact b⟩
theorem evs_ok (hR : SoundE c C n R) (pos : Pos) : ∀ (es : List Expr) {s g m}, At c C n A env L s g lo m → Tri c A noX s g (spliced (backTo pos (starEach es env))) (fun vs xs g _ => Reps c.w.params g xs vs ∧ vs.length = es.length) (evs R es lo m)
 | [], _, _, _, h => fun Q E K KX hA hQ hE => args_nil (hQ _ _ _ _ _ (.refl ..) h.inv ⟨.nil, rfl⟩ hA)
 | e :: r, s, g, m, h => Tri.cond fun hs => fun Q E K KX hA hQ hE => by
  refine args_cons ((hR.ev h e).use hA hQ hE fun v x s1 g1 m1 e1 i1 r1 k1 hQ1 hE1 => ?_) (starEach_cons (Bool.not_eq_true' _ ▸ hs))
  refine (evs_ok hR pos r (h.ext e1 i1)).use k1 hQ1 hE1 fun vs xs s2 g2 m2 e2 i2 r2 k2 hQ2 hE2 => ?_
  exact hQ2 _ _ _ _ _ (.refl ..) i2 ⟨.cons (r1.mono e2.gr) r2.1, congrArg (· + 1) r2.2⟩ k2
theorem ev_attr (hR : SoundE c C n R) (h : At c C n A env L s g lo m) (o : Expr) (x : Str) (p : Pos) : Tri c A noX s g (eval (.Attribute o x p) env) (RepR c) (evT C R (.Attribute o x p) lo m) := by
 refine Tri.cond fun hb => ?_
 ·have hb : bareCall o = false := Bool.not_eq_true' _ ▸ hb
  have hbase := attrBase (env := env) x hb
  intro Q E K KX hA hQ hE
  refine Attribute_any_ ((hR.ev h o).use hA hQ hE fun v y s1 g1 m1 e1 i1 r1 k1 hQ1 hE1 => ?_) (by rw [arm_eval_Attribute, hbase])
  obtain ⟨z, hz, k1⟩ := optT_all k1
  exact attr_ok i1 r1 hz fun w k rw' => hQ1 _ _ _ _ _ (.toks ..) (i1.toks k) rw' k1
theorem evalArgs_all {pos : Pos} {es : List Expr} {f : Value} (hs : es.any isStar = false) {Q : Args → Shared → Prop} {E : Value → Shared → Prop}
  (k : wpAny (model pw c.w) A (spliced (backTo pos (starEach es env))) (fun vs s' => Q ⟨vs, []⟩ s') E s) : wpAny (model pw c.w) A (evalArgs f true (backTo pos (starEach es env)) []) Q E s := by
 cases es with
 | nil =>
  unfold evalArgs
  exact wpAny_bind (wpAny_mono k (fun vs s' h' => wpAny_holding (wpAny_bind (wpAny_pure (wpAny_bind (wpAny_pure (wpAny_pure h')))))) fun _ _ x => x)
 | cons e r =>
  rw [List.any_cons, Bool.or_eq_false_iff] at hs
  rw [starEach_cons hs.1] at k ⊢
  exact evalArgs_plain k
theorem callWith_ok (hR : SoundE c C n R) (hc : CfgOK c C n) (h : At c C n A env L s g lo m) {pos : Pos} {es : List Expr} {f : Value} {first : List AV} {fs : List Value} (hs : es.any isStar = false) (rf : Reps c.w.params g first fs) :
  Tri c A noX s g (callWith pos f fs (backTo pos (starEach es env)) []) (RepR c) ((evs R es lo m).bind fun y => callT C (.val f) (first ++ y.1) y.2) := by
 intro Q E K KX hA hQ hE
 cases hf : C.fns f with
 | none =>
  have hcT : ∀ a m, callT C (.val f) a m = .stuck "callee" := fun a m => by show optT (C.fns f) _ _ = _; rw [hf]; rfl
  refine callWith_of (P := fun _ => False) (by rw [(star_none hs).1]; rfl) (fun _ q => q.elim) ?_
  refine evalArgs_all hs ((evs_ok hR pos es h).use hA hQ hE fun vs xs s1 g1 m1 e1 i1 r1 k1 hQ1 hE1 => ?_)
  dsimp only at k1
  rw [hcT] at k1
  exact k1.elim
 | some k =>
  have hcT : ∀ a m, callT C (.val f) a m = k a m := fun a m => by show optT (C.fns f) _ _ = _; rw [hf]; rfl
  refine callWith_of (P := fun hh => ∀ b o, c.h0.get? b = some o → hh.get? b = some o) (by rw [(star_none hs).1]; rfl) (fun hh q => hc.keep f k hf _ _ q) ?_
  refine evalArgs_all hs ((evs_ok hR pos es h).use hA hQ hE fun vs xs s1 g1 m1 e1 i1 r1 k1 hQ1 hE1 => ⟨i1.keeps, ?_⟩)
  dsimp only at k1
  rw [hcT] at k1
  exact hc.call f k hf A s1 g1 m1 _ _ h.room i1 ((rf.mono e1.gr).append r1.1) Q E K KX k1 hQ1 hE1
end
noncomputable def Gh.put (g : Gh) (a : Addr) (o : Obj) : Gh := ⟨fun b => if b = a then some o else g.F b, g.th⟩
noncomputable def Gh.cell (g : Gh) (l : List Addr) : Gh := ⟨g.F, g.th ++ [l]⟩
theorem CellOK.mono {P : Params} {g g' : Gh} {h h' : Heap} {l : List Addr} {mo : MO} (x : CellOK P g h l mo) (gr : Gr g g') (k : ∀ a ∈ l, ∀ o, h.get? a = some o → h'.get? a = some o) : CellOK P g' h' l mo := by
 cases mo with
 | lst xs => obtain ⟨a, vs, e, h1, h2⟩ := x; subst e; exact ⟨a, vs, rfl, let ⟨o, ho, r⟩ := h1; ⟨o, k _ (by simp) _ ho, r⟩, h2.mono gr⟩
 | inst C fs => obtain ⟨a, d, es, n, e, h1, h2, h3⟩ := x; subst e; exact ⟨a, d, es, n, rfl, k _ (by simp) _ h1, k _ (by simp) _ h2, h3.mono gr⟩
 | junk => trivial
section
variable {c : Cx} {A : Around} {s : Shared} {g : Gh} {m : Mem} {X : Addr → Prop}
theorem Inv.fresh (I : Inv c A g s m) : g.F s.heap.objs.size = none := by
 cases h : g.F s.heap.objs.size with
 | none => rfl
 | some o => exact absurd (Heap.lt_size (I.frz _ _ h)) (Nat.lt_irrefl _)
theorem notLiv (h : Heap) : ¬ Liv h h.objs.size := fun ⟨_, ho⟩ => Nat.lt_irrefl _ (Heap.lt_size ho)
theorem Inv.freshT (I : Inv c A g s m) : s.heap.objs.size ∉ g.th.flatten := fun h => notLiv _ (I.free _ h).2
theorem Liv.push {h : Heap} {a : Addr} (o : Obj) : Liv h a → Liv (h.push o) a := fun ⟨x, hx⟩ => ⟨x, Heap.get?_push_of_some _ hx⟩
theorem Liv.ne {h : Heap} {a : Addr} (x : Liv h a) : a ≠ h.objs.size := fun e => notLiv h (e ▸ x)
theorem Gr.put {g : Gh} {a : Addr} {o : Obj} (h : g.F a = none) : Gr g (g.put a o) :=
 ⟨fun b o' e => by
  show (if b = a then some o else g.F b) = some o'
  split
  ·rename_i q; subst q; rw [h] at e; cases e
  ·exact e, fun _ _ e => e⟩
theorem Gr.cell {g : Gh} {l : List Addr} : Gr g (g.cell l) :=
 ⟨fun _ _ e => e, fun k l' e => by
  show (g.th ++ [l])[k]? = some l'
  rw [List.getElem?_append_left]
  ·exact e
  ·exact (List.getElem?_eq_some_iff.mp e).1⟩
theorem Gh.put_self {g : Gh} {a : Addr} {o : Obj} : (g.put a o).F a = some o := if_pos rfl
theorem Gh.put_ne {g : Gh} {a b : Addr} {o : Obj} (h : b ≠ a) : (g.put a o).F b = g.F b := if_neg h
theorem FrameOK.mono {g g' : Gh} {h h' : Heap} {env : Env} (x : FrameOK g h env) (k : ∀ L o, h.get? L = some o → g.F L = none → L ∉ g.th.flatten → ∃ sl, h'.get? L = some { o with slots := sl }) (f : ∀ L o, h.get? L = some o → g.F L = none → g'.F L = none)
  (t : ∀ L o, h.get? L = some o → L ∉ g.th.flatten → L ∉ g'.th.flatten) : FrameOK g' h' env := by
 obtain ⟨a, L, o, es, n, h1, h2, h4, h5, h6⟩ := x
 obtain ⟨sl, q⟩ := k _ _ h2 h5 h6
 exact ⟨a, L, _, es, n, h1, q, h4, f _ _ h2 h5, t _ _ h2 h6⟩
theorem Inv.pushF (I : Inv c A g s m) (o : Obj) (hf : o.isFreed = false) : Inv c A (g.put s.heap.objs.size o) { s with heap := s.heap.push o } m where
 frz := fun b o' e => by
  show (s.heap.push o).get? b = some o'
  by_cases q : b = s.heap.objs.size
  ·subst q; rw [Gh.put_self] at e; cases e; exact Heap.get?_push_size _ hf
  ·rw [Gh.put_ne q] at e; exact Heap.get?_push_of_some _ (I.frz _ _ e)
 base := fun b o' e => (Gr.put I.fresh).F _ _ (I.base b o' e)
 len := I.len
 cell := fun k mo l e1 e2 => (I.cell k mo l e1 e2).mono (Gr.put I.fresh) fun a _ o h => Heap.get?_push_of_some _ h
 nd := I.nd
 free := fun a ha => by
  obtain ⟨h1, h2⟩ := I.free a ha
  refine ⟨?_, ?_⟩
  ·rw [Gh.put_ne h2.ne]; exact h1
  ·exact h2.push o
 stk := by
  obtain ⟨l, h1, h2⟩ := I.stk
  refine ⟨l, h1, fun env he => (h2 env he).mono (fun L o h _ _ => ⟨o.slots, Heap.get?_push_of_some _ h⟩) (fun L o h q => ?_) fun _ _ _ q => q⟩
  rw [Gh.put_ne (Nat.ne_of_lt (Heap.lt_size h))]; exact q
theorem Ext.pushF (I : Inv c A g s m) (X : Addr → Prop) (o : Obj) : Ext A (Liv s.heap) X g s (g.put s.heap.objs.size o) { s with heap := s.heap.push o } where
 gens := rfl
 drawn := rfl
 os := rfl
 gr := Gr.put I.fresh
 newF := fun a h h' => by
  by_cases q : a = s.heap.objs.size
  ·subst q; exact notLiv _
  ·rw [Gh.put_ne q] at h'; exact absurd h h'
 newT := fun a h => .inl h
 keep := fun a o _ h _ _ => ⟨o.slots, Heap.get?_push_of_some _ h, fun _ => rfl⟩
 live := fun a _ h => h.push o
theorem Inv.pushM (I : Inv c A g s m) (o : Obj) (mo : MO) (hf : o.isFreed = false) (hc : CellOK c.w.params (g.cell [s.heap.objs.size]) (s.heap.push o) [s.heap.objs.size] mo) : Inv c A (g.cell [s.heap.objs.size]) { s with heap := s.heap.push o } (m ++ [mo]) where
 frz := fun b o' e => Heap.get?_push_of_some _ (I.frz _ _ e)
 base := I.base
 len := by show (m ++ [mo]).length = (g.th ++ [[s.heap.objs.size]]).length; simp [I.len]
 cell := fun k mo' l e1 e2 => by
  have e2 : (g.th ++ [[s.heap.objs.size]])[k]? = some l := e2
  by_cases q : k < m.length
  ·rw [List.getElem?_append_left q] at e1
   rw [List.getElem?_append_left (I.len ▸ q)] at e2
   exact (I.cell k mo' l e1 e2).mono Gr.cell fun a _ o h => Heap.get?_push_of_some _ h
  ·have hk : k = m.length := by
    have := (List.getElem?_eq_some_iff.mp e1).1
    simp at this; omega
   subst hk
   rw [List.getElem?_append_right (Nat.le_refl _), Nat.sub_self] at e1
   rw [I.len, List.getElem?_append_right (Nat.le_refl _), Nat.sub_self] at e2
   cases e1; cases e2; exact hc
 nd := by
  show (g.th ++ [[s.heap.objs.size]]).flatten.Nodup
  rw [List.flatten_append, List.nodup_append]
  refine ⟨I.nd, by simp, fun a ha b hb => ?_⟩
  have : b = s.heap.objs.size := by simpa using hb
  subst this
  exact fun e => I.freshT (e ▸ ha)
 free := fun a ha => by
  have ha : a ∈ (g.th ++ [[s.heap.objs.size]]).flatten := ha
  rw [List.flatten_append, List.mem_append] at ha
  show g.F a = none ∧ Liv (s.heap.push o) a
  rcases ha with h | h
  ·obtain ⟨h1, h2⟩ := I.free a h
   exact ⟨h1, h2.push o⟩
  ·have : a = s.heap.objs.size := by simpa using h
   subst this
   exact ⟨I.fresh, o, Heap.get?_push_size _ hf⟩
 stk := by
  obtain ⟨l, h1, h2⟩ := I.stk
  refine ⟨l, h1, fun env he => (h2 env he).mono (fun L o h _ _ => ⟨o.slots, Heap.get?_push_of_some _ h⟩) (fun L o h q => q) fun L o h q => ?_⟩
  show L ∉ (g.th ++ [[s.heap.objs.size]]).flatten
  rw [List.flatten_append, List.mem_append]
  rintro (h' | h')
  ·exact q h'
  ·have : L = s.heap.objs.size := by simpa using h'
   exact absurd (Heap.lt_size h) (by rw [this]; exact Nat.lt_irrefl _)
theorem Ext.pushM (X : Addr → Prop) (o : Obj) : Ext A (Liv s.heap) X g s (g.cell [s.heap.objs.size]) { s with heap := s.heap.push o } where
 gens := rfl
 drawn := rfl
 os := rfl
 gr := Gr.cell
 newF := fun a h h' => absurd h h'
 newT := fun a h => by
  have ha : a ∈ (g.th ++ [[s.heap.objs.size]]).flatten := h
  rw [List.flatten_append, List.mem_append] at ha
  rcases ha with h | h
  ·exact .inl h
  ·have : a = s.heap.objs.size := by simpa using h
   subst this; exact .inr (notLiv _)
 keep := fun a o _ h _ _ => ⟨o.slots, Heap.get?_push_of_some _ h, fun _ => rfl⟩
 live := fun a _ h => h.push o
theorem pushD (I : Inv c A g s m) {o : Obj} : Inv c A g { s with heap := s.heap.push o } m where
 frz := fun b o' e => Heap.get?_push_of_some _ (I.frz _ _ e)
 base := I.base
 len := I.len
 cell := fun k mo l e1 e2 => (I.cell k mo l e1 e2).mono (.refl g) fun a _ o h => Heap.get?_push_of_some _ h
 nd := I.nd
 free := fun a ha => let ⟨h1, h2⟩ := I.free a ha; ⟨h1, h2.push o⟩
 stk := by
  obtain ⟨l, h1, h2⟩ := I.stk
  exact ⟨l, h1, fun env he => (h2 env he).mono (fun L o h _ _ => ⟨o.slots, Heap.get?_push_of_some _ h⟩) (fun L o h q => q) fun L o h q => q⟩
end
section
variable {c : Cx} {C : Cfg} {n : Nat} {A : Around} {env : Env} {L : Addr} {s : Shared} {g : Gh} {lo : Lo} {m : Mem} {R : Rec} {X : Addr → Prop}
theorem newTuple_ok (I : Inv c A g s m) {xs : List AV} {vs : List Value} (r : Reps c.w.params g xs vs) (hz : vs.length ≤ sizeLine) : Tri c A X s g (newTuple vs) (RepR c) (.leaf (.tup xs, m)) :=
 Tri.of (R := RepR c) fun Q E hQ => wpAny_newTuple (hQ _ _ _ (Ext.pushF I X _) (I.pushF _ rfl) (.tup (a := s.heap.objs.size) (n := 0) Gh.put_self (r.mono (Gr.put I.fresh)))) hz
theorem newList_ok (I : Inv c A g s m) {xs : List AV} {vs : List Value} (r : Reps c.w.params g xs vs) (hz : vs.length ≤ sizeLine) : Tri c A X s g (newList vs) (RepR c) (.leaf (.lst xs, m)) :=
 Tri.of (R := RepR c) fun Q E hQ => wpAny_newList (hQ _ _ _ (Ext.pushF I X _) (I.pushF _ rfl) (.lst (a := s.heap.objs.size) (n := 0) Gh.put_self (r.mono (Gr.put I.fresh)))) hz
theorem blt_of {a b : Nat} (h : Nat.blt a b = true) : a < b := Nat.blt_eq.mp h
theorem seq_here {k : Int} {n : Nat} (h0 : 0 ≤ k) (h1 : k < n) : seqIndex? k n = some k.toNat := by
 unfold seqIndex?
 have e : ¬ (k < 0) := by simp_all
 simp only [e, if_false]
 rw [if_pos (by simp only [Bool.and_eq_true, decide_eq_true_eq]; exact ⟨h0, h1⟩)]
theorem seq_neg {k : Int} {n : Nat} (h0 : k < 0) (h1 : 0 ≤ k + n) : seqIndex? k n = some (k + n).toNat := by
 unfold seqIndex?
 simp only [h0, if_true]
 rw [if_pos (by simp only [Bool.and_eq_true, decide_eq_true_eq]; exact ⟨h1, by lia⟩)]
theorem neg_sub {k n : Nat} (h : k < n) : (Int.negSucc k + (n : Int)) = ((n - (k + 1) : Nat) : Int) := by rw [Int.negSucc_eq]; omega
theorem neg_lo {k n : Nat} (h : k < n) (q : n < 1000) : -1000 ≤ Int.negSucc k := by rw [Int.negSucc_eq]; lia
theorem itemAt_spec {xs : List AV} {i : Int} {v : AV} (h : itemAt xs i = some v) : ∃ j, seqIndex? i xs.length = some j ∧ xs[j]? = some v ∧ -1000 ≤ i ∧ i < 1000 := by
 cases i with
 | ofNat k =>
  have h : (match Nat.blt k 1000 with
   | true => xs[k]?
   | false => none) = some v := h
  cases q : Nat.blt k 1000 with
  | false => rw [q] at h; exact nomatch h
  | true =>
   rw [q] at h
   have hk := (List.getElem?_eq_some_iff.mp h).1
   exact ⟨k, seq_here (Int.natCast_nonneg k) (Int.ofNat_lt.mpr hk), h, Int.le_trans (by decide) (Int.natCast_nonneg k), Int.ofNat_lt.mpr (blt_of q)⟩
 | negSucc k =>
  have h : (match Nat.blt k xs.length && Nat.blt xs.length 1000 with
   | true => xs[xs.length - (k + 1)]?
   | false => none) = some v := h
  cases q : Nat.blt k xs.length && Nat.blt xs.length 1000 with
  | false => rw [q] at h; exact nomatch h
  | true =>
   rw [q] at h
   have q := Bool.and_eq_true_iff.mp q
   have q1 := blt_of q.1
   have e := neg_sub q1
   exact ⟨xs.length - (k + 1), by rw [seq_neg (Int.negSucc_lt_zero k) (e ▸ Int.natCast_nonneg _), e]; rfl, h, neg_lo q1 (blt_of q.2), Int.lt_trans (Int.negSucc_lt_zero k) (by decide)⟩
theorem seqIndex_lt {i : Int} {l j : Nat} (h : seqIndex? i l = some j) : (0 ≤ i ∧ j = i.toNat) ∨ (i < 0 ∧ -(l : Int) ≤ i ∧ j = (i + l).toNat) := by
 by_cases q : i < 0
 ·refine .inr ⟨q, ?_⟩
  by_cases q2 : 0 ≤ i + (l : Int)
  ·rw [seq_neg q q2] at h
   exact ⟨by lia, (Option.some.inj h).symm⟩
  ·unfold seqIndex? at h
   rw [if_pos q, if_neg (by simp only [Bool.and_eq_true, decide_eq_true_eq]; exact fun z => q2 z.1)] at h
   exact nomatch h
 ·have q := Int.not_lt.mp q
  refine .inl ⟨q, ?_⟩
  by_cases q2 : i < l
  ·rw [seq_here q q2] at h
   exact (Option.some.inj h).symm
  ·unfold seqIndex? at h
   rw [if_neg (Int.not_lt.mpr q), if_neg (by simp only [Bool.and_eq_true, decide_eq_true_eq]; exact fun z => q2 z.2)] at h
   exact nomatch h
theorem list_item {M : Model} {l : Addr} {vs : List Value} {k : Int} {t : Tok} {j : Nat} {x : Value} {prog : Program} {w : World} {Q : Value → Shared → Prop} {E : Value → Shared → Prop} (hl : s.heap.IsList l vs.toArray) (hj : seqIndex? k vs.length = some j) (hx : vs[j]? = some x) (b1 : -1000 ≤ k) (b2 : k < 1000)
  (h : Q x s) : wpAny (model prog w) A (getItem (.ref l) (.int k t)) Q E s := by
 rcases seqIndex_lt hj with ⟨a, e⟩ | ⟨a, b, e⟩
 ·exact wpAny_getItem_list hl a (by lia) (by subst e; simpa using hx) h
 ·exact wpAny_getItem_list_neg hl a (by simpa using b) (by lia) (by subst e; simpa using hx) h
theorem sub_int {slice : Expr} {o i : Value} (h : ∀ lo up p, slice ≠ .Slice lo up none p) : subscripted slice false o i = operate [o, i] (getItem o i) := by
 cases slice with
 | Slice a b d p =>
  cases d with
  | none => exact absurd rfl (h _ _ _)
  | some d => rfl
 | _ => rfl
theorem allI_s : ∀ {xs : List AV} {q : List Int}, allI xs = some q → xs = q.map .int
 | [], _, h => by rw [← Option.some.inj h]; rfl
 | x :: r, q, h => by
  obtain ⟨i, h1, h⟩ := bind_s h
  obtain ⟨p, h2, rfl⟩ := map_s h
  rw [aInt_s h1, allI_s h2]; rfl
theorem allS_s : ∀ {xs : List AV} {q : List Str}, allS xs = some q → xs = q.map .str
 | [], _, h => by rw [← Option.some.inj h]; rfl
 | x :: r, q, h => by
  obtain ⟨i, h1, h⟩ := bind_s h
  obtain ⟨p, h2, rfl⟩ := map_s h
  rw [aStr_s h1, allS_s h2]; rfl
theorem allI_get {P : Params} {g : Gh} {xs : List AV} {vs : List Value} {q : List Int} (h : allI xs = some q) (r : Reps P g xs vs) (k : Nat) (hk : k < xs.length) : ∃ t, vs[k]? = some (.int (q.getD k 0) t) := by
 have e := allI_s h
 subst e
 have hk : k < q.length := by simpa using hk
 obtain ⟨u, h1, h2⟩ := r.get (k := k) (y := .int q[k]) (by simp [hk])
 have e2 : q.getD k 0 = q[k] := by simp [List.getD, hk]
 obtain ⟨t, rfl⟩ := h2.inv
 rw [e2, h1]
 exact ⟨t, rfl⟩
theorem allS_get {P : Params} {g : Gh} {xs : List AV} {vs : List Value} {q : List Str} (h : allS xs = some q) (r : Reps P g xs vs) (k : Nat) (hk : k < xs.length) : ∃ t, vs[k]? = some (.str (q.getD k Str.empty) t) := by
 have e := allS_s h
 subst e
 have hk : k < q.length := by simpa using hk
 obtain ⟨u, h1, h2⟩ := r.get (k := k) (y := .str q[k]) (by simp [hk])
 have e2 : q.getD k Str.empty = q[k] := by simp [List.getD, hk]
 obtain ⟨t, rfl⟩ := h2.inv
 rw [e2, h1]
 exact ⟨t, rfl⟩
theorem tup_item (I : Inv c A g s m) {value slice : Expr} (hs : ∀ lo up p, slice ≠ .Slice lo up none p) {vs : List Value} {a : Addr} {n : Nat} {k : Int} {t : Tok} {j : Nat} {y : Value} {x : AV} (f : g.F a = some (tupO vs n)) (h1 : -1000 ≤ k) (h2 : k < 1000) (hj : seqIndex? k vs.length = some j) (hy : vs[j]? = some y) (r : Rep c.w.params g x y) :
  Tri c A X s g (subscriptTail value slice (.ref a) (.int k t)) (RepR c) (.leaf (x, m)) :=
 Tri.val I fun Q E hQ => tail_any (I.tuple f).typeIs slot_tuple_getitem.lookup (getItem_tuple (I.tuple f) (by lia) (by lia) (j := j) (by rw [List.size_toArray]; exact hj) (by simpa using hy) (hQ y s.toks r)) (sub_int hs)
theorem lst_item (I : Inv c A g s m) {value slice : Expr} (hs : ∀ lo up p, slice ≠ .Slice lo up none p) {xs : List AV} {vs : List Value} {a : Addr} {k : Int} {t : Tok} (f : s.heap.IsList a vs.toArray) (r : Reps c.w.params g xs vs) :
  Tri c A X s g (subscriptTail value slice (.ref a) (.int k t)) (RepR c) (itemL xs k m) :=
 Tri.opt fun x hx => by
  obtain ⟨j, h1, h2, h3, h4⟩ := itemAt_spec hx
  obtain ⟨y, hy, ry⟩ := r.get h2
  exact Tri.val I fun Q E hQ => tail_any f.typeIs slot_list_getitem.lookup (list_item (M := model pw c.w) f (by rw [r.length]; exact h1) hy h3 h4 (hQ y s.toks ry)) (sub_int hs)
theorem nine_lt {k : Int} {n : Nat} (h9 : n = 9) (p : 0 ≤ k ∧ k < 9) : k.toNat < n ∧ k < n ∧ -1000 ≤ k ∧ k < 1000 := by omega
theorem nine_ok (I : Inv c A g s m) {value slice : Expr} (hs : ∀ lo up p, slice ≠ .Slice lo up none p) {xs : List AV} {vs : List Value} {a : Addr} {n : Nat} {k : Int} {t : Tok} (f : g.F a = some (tupO vs n)) (r : Reps c.w.params g xs vs) {z : T (AV × Mem)}
  (hz : Tri c A X s g (subscriptTail value slice (.ref a) (.int k t)) (RepR c) z) : Tri c A X s g (subscriptTail value slice (.ref a) (.int k t)) (RepR c) (nineT xs k m z) := by
 unfold nineT
 cases h9 : Nat.beq xs.length 9 with
 | false => exact hz
 | true =>
  have h9 := Nat.eq_of_beq_eq_true h9
  cases hq : allI xs with
  | some q =>
   refine Tri.req fun p => ?_
   obtain ⟨l1, l2, l3, l4⟩ := nine_lt h9 p
   obtain ⟨t', ht⟩ := allI_get hq r k.toNat l1
   exact tup_item I hs f l3 l4 (by rw [r.length]; exact seq_here p.1 l2) ht (.int _ t')
  | none =>
   cases hq : allS xs with
   | some q =>
    refine Tri.req fun p => ?_
    obtain ⟨l1, l2, l3, l4⟩ := nine_lt h9 p
    obtain ⟨t', ht⟩ := allS_get hq r k.toNat l1
    exact tup_item I hs f l3 l4 (by rw [r.length]; exact seq_here p.1 l2) ht (.str _ t')
   | none => exact hz
theorem item_ok (I : Inv c A g s m) {value slice : Expr} (hs : ∀ lo up p, slice ≠ .Slice lo up none p) {a b : AV} {u v : Value} (ra : Rep c.w.params g a u) (rb : Rep c.w.params g b v) :
  Tri c A X s g (subscriptTail value slice u v) (RepR c) (itemT a b m) := Tri.opt fun k hb => by
 rw [aInt_s hb] at rb
 obtain ⟨t, rfl⟩ := rb.inv
 cases a with
 | tup xs =>
  obtain ⟨_, _, _, rfl, f, r⟩ := ra.inv
  refine nine_ok I hs f r (Tri.opt fun x hx => ?_)
  obtain ⟨j, h1, h2, h3, h4⟩ := itemAt_spec hx
  obtain ⟨y, hy, ry⟩ := r.get h2
  exact tup_item I hs f h3 h4 (by rw [r.length]; exact h1) hy ry
 | lst xs =>
  obtain ⟨_, _, _, rfl, f, r⟩ := ra.inv
  exact lst_item I hs (I.list f) r
 | «ints» xs =>
  obtain ⟨_, _, _, rfl, f, r⟩ := ra.inv
  refine Tri.req fun ⟨p1, p2, p3⟩ => Tri.val I fun Q E hQ => ?_
  have hk : k.toNat < xs.length := by simp_all
  obtain ⟨t, ht⟩ := r.get (List.getElem?_eq_getElem hk)
  have e : xs.getD k.toNat 0 = xs[k.toNat] := by rw [List.getD_eq_getElem?_getD, List.getElem?_eq_getElem hk]; rfl
  exact tail_any (I.list f).typeIs slot_list_getitem.lookup (wpAny_getItem_list (I.list f) p1 (by omega) (by simpa using ht) (hQ _ s.toks (by rw [e]; exact .int _ t))) (sub_int hs)
 | hnd h =>
  obtain ⟨_, _, rfl, e⟩ := ra.inv
  refine Tri.opt fun xs hm => ?_
  obtain ⟨a, vs, e1, hl, r⟩ := I.cell _ _ _ (lstOf_s hm) e
  rw [(List.cons.inj e1).1]
  exact lst_item I hs hl r
 | _ => exact Tri.stuck
end
section
variable {c : Cx} {C : Cfg} {n : Nat} {A : Around} {env : Env} {L : Addr} {s : Shared} {g : Gh} {lo : Lo} {m : Mem} {R : Rec} {X : Addr → Prop}
theorem Room.units {A : Around} {n : Nat} (h : Room A n) : A.units + 8 < cLine := by have := h.2.2; lia
theorem chain_ok (O : ObjInt c) (hR : SoundE c C n R) (pos : Pos) : ∀ (ops : List CmpOp) (es : List Expr) {s g m} (a : AV) (u : Value), At c C n A env L s g lo m → Rep c.w.params g a u →
  Tri c A noX s g (compareChain pos u ops (evalEach es env)) (RepR c) (chainT R lo a ops es m)
 | [], es, _, _, _, _, _, _, _ => by cases es <;> exact Tri.stuck
 | [op], [], _, _, _, _, _, _, _ => Tri.stuck
 | _ :: _ :: _, [], _, _, _, _, _, _, _ => Tri.stuck
 | [op], [e], s, g, m, a, u, h, ra => fun Q E K KX hA hQ hE => by
  refine chain_last ((hR.ev h e).use hA hQ hE fun v x s1 g1 m1 e1 i1 r1 k1 hQ1 hE1 => ?_)
  obtain ⟨b, hb, k1⟩ := optT_all k1
  exact cmpB_ok O h.room.units i1 op (ra.mono e1.gr) r1 hb (hQ1 _ _ _ _ _ (.refl ..) i1 (.bool b) k1)
 | [_], _ :: _ :: _, _, _, _, _, _, _, _ => Tri.stuck
 | _ :: _ :: _, [_], _, _, _, _, _, _, _ => Tri.stuck
 | op :: op2 :: ops, e :: e2 :: es, s, g, m, a, u, h, ra => fun Q E K KX hA hQ hE => by
  refine chain_link ((hR.ev h e).use hA hQ hE fun v x s1 g1 m1 e1 i1 r1 k1 hQ1 hE1 => ?_)
  obtain ⟨b, hb, k1⟩ := optT_all k1
  ·have h1 := h.ext e1 i1
   refine cmpB_ok O h.room.units i1 op (ra.mono e1.gr) r1 hb ?_
   refine wpAny_truthy_bool ?_
   cases b with
   | true => exact chain_ok O hR pos (op2 :: ops) (e2 :: es) x v h1 r1 Q E K KX (k1.1 rfl) hQ1 hE1
   | false => exact hQ1 _ _ _ _ _ (.refl ..) i1 (.bool false) (k1.2 rfl)
theorem test_ok (O : ObjInt c) (hR : SoundE c C n R) (pos : Pos) : ∀ (ops : List CmpOp) (es : List Expr) {s g m} (a : AV) (u : Value), At c C n A env L s g lo m → Rep c.w.params g a u →
  Tri c A noX s g (testChain pos u ops (evalEach es env)) BoolR (testT R lo a ops es m)
 | [], es, _, _, _, _, _, _, _ => by cases es <;> exact Tri.stuck
 | [op], [], _, _, _, _, _, _, _ => Tri.stuck
 | _ :: _ :: _, [], _, _, _, _, _, _, _ => Tri.stuck
 | [op], [e], s, g, m, a, u, h, ra => fun Q E K KX hA hQ hE => by
  refine test_last ((hR.ev h e).use hA hQ hE fun v x s1 g1 m1 e1 i1 r1 k1 hQ1 hE1 => ?_)
  obtain ⟨b, hb, k1⟩ := optT_all k1
  exact cmpB_ok O h.room.units i1 op (ra.mono e1.gr) r1 hb (wpAny_truthy_bool (hQ1 _ _ _ _ _ (.refl ..) i1 rfl k1))
 | [_], _ :: _ :: _, _, _, _, _, _, _, _ => Tri.stuck
 | _ :: _ :: _, [_], _, _, _, _, _, _, _ => Tri.stuck
 | op :: op2 :: ops, e :: e2 :: es, s, g, m, a, u, h, ra => fun Q E K KX hA hQ hE => by
  refine test_link ((hR.ev h e).use hA hQ hE fun v x s1 g1 m1 e1 i1 r1 k1 hQ1 hE1 => ?_)
  obtain ⟨b, hb, k1⟩ := optT_all k1
  ·have h1 := h.ext e1 i1
   refine cmpB_ok O h.room.units i1 op (ra.mono e1.gr) r1 hb ?_
   refine wpAny_truthy_bool ?_
   cases b with
   | true => exact test_ok O hR pos (op2 :: ops) (e2 :: es) x v h1 r1 Q E K KX (k1.1 rfl) hQ1 hE1
   | false => exact hQ1 _ _ _ _ _ (.refl ..) i1 rfl (k1.2 rfl)
theorem ev_compare (O : ObjInt c) (hR : SoundE c C n R) (h : At c C n A env L s g lo m) (l : Expr) (ops : List CmpOp) (es : List Expr) (p : Pos) : Tri c A noX s g (eval (.Compare l ops es p) env) (RepR c) (evT C R (.Compare l ops es p) lo m) := by
 refine Tri.cond fun hm => ?_
 ·have hm : lastMarks ops es = false := Bool.not_eq_true' _ ▸ hm
  intro Q E K KX hA hQ hE
  rw [arm_eval_Compare, markedEach_of_false _ _ _ hm]
  refine wpAny_bind ((hR.ev h l).use hA hQ hE fun v x s1 g1 m1 e1 i1 r1 k1 hQ1 hE1 => ?_)
  exact chain_ok O hR p ops es x v (h.ext e1 i1) r1 Q E K KX k1 hQ1 hE1
theorem tr_compare (O : ObjInt c) (hR : SoundE c C n R) (h : At c C n A env L s g lo m) (l : Expr) (ops : List CmpOp) (es : List Expr) (p : Pos) (whole : Sem Value) : Tri c A noX s g (isTrue (.Compare l ops es p) env whole) BoolR (trT C R (.Compare l ops es p) lo m) := by
 refine Tri.cond fun hm => ?_
 ·have hm : lastMarks ops es = false := Bool.not_eq_true' _ ▸ hm
  intro Q E K KX hA hQ hE
  show wpAny _ A (do testChain p (← eval l env) ops (markedEach ops es (evalEach es env))) Q E s
  rw [markedEach_of_false _ _ _ hm]
  refine wpAny_bind ((hR.ev h l).use hA hQ hE fun v x s1 g1 m1 e1 i1 r1 k1 hQ1 hE1 => ?_)
  exact test_ok O hR p ops es x v (h.ext e1 i1) r1 Q E K KX k1 hQ1 hE1
theorem size_1000 {n : Nat} (h : n ≤ 1000) : n ≤ sizeLine := by unfold sizeLine; lia
theorem size_2000 {a b n m : Nat} (h : n + m ≤ 1000) (ha : a = n) (hb : b = m) : a + b ≤ sizeLine := by unfold sizeLine; lia
theorem ev_slice (hR : SoundE c C n R) (h : At c C n A env L s g lo m) (o a b : Expr) (p p2 : Pos) : Tri c A noX s g (eval (.Subscript o (.Slice (some a) (some b) none p2) p) env) (RepR c) (evT C R (.Subscript o (.Slice (some a) (some b) none p2) p) lo m) := by
 intro Q E K KX hA hQ hE
 refine Subscript_ ((hR.ev h o).use hA hQ hE fun v x s1 g1 m1 e1 i1 r1 k1 hQ1 hE1 => ?_)
 have h1 := h.ext e1 i1
 refine wpAny_Slice ((hR.ev h1 a).use k1 hQ1 hE1 fun va xa s2 g2 m2 e2 i2 r2 k2 hQ2 hE2 => ?_)
 have h2 := h1.ext e2 i2
 refine (hR.ev h2 b).use k2 hQ2 hE2 fun vb xb s3 g3 m3 e3 i3 r3 k3 hQ3 hE3 => ?_
 refine wpAny_pure ?_
 have q1 := r1.mono (e2.gr.trans e3.gr)
 have q2 := r2.mono e3.gr
 obtain ⟨sx, x1, k3⟩ := optT_all k3
 obtain ⟨i, x2, k3⟩ := optT_all k3
 obtain ⟨j, x3, k3⟩ := optT_all k3
 obtain ⟨hc, k3⟩ := condT_all k3
 rw [show x = _ from aStr_s x1] at q1
 rw [show xa = _ from aInt_s x2] at q2
 rw [show xb = _ from aInt_s x3] at r3
 obtain ⟨_, rfl⟩ := q1.inv
 obtain ⟨_, rfl⟩ := q2.inv
 obtain ⟨_, rfl⟩ := r3.inv
 have c4 := blt_of (Bool.and_eq_true_iff.mp hc).2
 refine tail_any (typeIs_str _ _ _) F.slot_str_getitem.lookup (ops := [.ref s3.heap.objs.size, .str sx _]) (wpAny_getItem_str_slice (l := some (i, _)) (u := some (j, _)) (st := none) ⟨_, Heap.get?_push_size _ rfl, rfl, rfl⟩ rfl
  (post_val_or_str ⟨Nat.le_trans (Txt.slice_le sx (some i) (some j)) (size_1000 (Nat.le_of_lt c4)), fun t' k => ?_⟩)) rfl
 exact hQ3 _ _ _ _ _ ((Ext.pushF i3 _ _).then (.toks ..)) ((i3.pushF _ rfl).toks k) (.str _ t') k3
theorem ev_sub (hR : SoundE c C n R) (h : At c C n A env L s g lo m) (o i : Expr) (p : Pos) (hs : ∀ a b d p, i ≠ .Slice a b d p) : Tri c A noX s g (eval (.Subscript o i p) env) (RepR c) (evT C R (.Subscript o i p) lo m) := by
 have he : evT C R (.Subscript o i p) lo m = (R.ev o lo m).bind fun x => (R.ev i lo x.2).bind fun y => itemT x.1 y.1 y.2 := by
  cases i <;> first | rfl | exact absurd rfl (hs _ _ _ _)
 rw [he]
 intro Q E K KX hA hQ hE
 refine Subscript_ ((hR.ev h o).use hA hQ hE fun v x s1 g1 m1 e1 i1 r1 k1 hQ1 hE1 => ?_)
 refine (hR.ev (h.ext e1 i1) i).use k1 hQ1 hE1 fun v2 x2 s2 g2 m2 e2 i2 r2 k2 hQ2 hE2 => ?_
 exact item_ok i2 (fun _ _ _ => hs _ _ _ _) (r1.mono e2.gr) r2 Q E K KX k2 hQ2 hE2
theorem ev_tuple (hR : SoundE c C n R) (h : At c C n A env L s g lo m) (es : List Expr) (k : Nat) (p : Pos) : Tri c A noX s g (eval (.Tuple es k p) env) (RepR c) (evT C R (.Tuple es k p) lo m) := by
 refine Tri.cond fun hl => ?_
 ·
  intro Q E K KX hA hQ hE
  refine Tuple_ ((evs_ok hR p es h).use hA hQ hE fun vs xs s1 g1 m1 e1 i1 r1 k1 hQ1 hE1 => ?_)
  exact newTuple_ok i1 r1.1 (by rw [r1.2]; exact size_1000 (Nat.le_of_lt (Nat.lt_trans (blt_of hl) (by decide)))) _ _ _ _ k1 hQ1 hE1
theorem ev_list (hR : SoundE c C n R) (h : At c C n A env L s g lo m) (es : List Expr) (p : Pos) : Tri c A noX s g (eval (.List es p) env) (RepR c) (evT C R (.List es p) lo m) := by
 refine Tri.cond fun hl => ?_
 ·
  intro Q E K KX hA hQ hE
  refine List_ ((evs_ok hR p es h).use hA hQ hE fun vs xs s1 g1 m1 e1 i1 r1 k1 hQ1 hE1 => ?_)
  exact newList_ok i1 r1.1 (by rw [r1.2]; exact size_1000 (Nat.le_of_lt (Nat.lt_trans (blt_of hl) (by decide)))) _ _ _ _ k1 hQ1 hE1
theorem ev_call (hR : SoundE c C n R) (hc : CfgOK c C n) (h : At c C n A env L s g lo m) (f : Expr) (es : List Expr) (p : Pos) (hf : ∀ o x q, f ≠ .Attribute o x q)
  (he : eval (.Call f es [] p) env = (do callWith p (← eval f env) [] (backTo p (starEach es env)) (backToKw p (keywordEach [] env)))) : Tri c A noX s g (eval (.Call f es [] p) env) (RepR c) (evT C R (.Call f es [] p) lo m) := by
 have e1 : evT C R (.Call f es [] p) lo m = condT (!es.any isStar) "star" ((R.ev f lo m).bind fun x => (evs R es lo x.2).bind fun y => callT C x.1 y.1 y.2) := by
  cases f <;> first | rfl | exact absurd rfl (hf _ _ _)
 rw [e1]
 refine Tri.cond fun hs => ?_
 ·have hs : es.any isStar = false := Bool.not_eq_true' _ ▸ hs
  intro Q E K KX hA hQ hE
  refine Call_ ((hR.ev h f).use hA hQ hE fun v x s1 g1 m1 e1 i1 r1 k1 hQ1 hE1 => ?_) he
  have h1 := h.ext e1 i1
  cases hx : aVal x with
  | some u =>
   rw [aVal_s hx] at r1 k1
   obtain rfl : v = u := r1.inv
   exact callWith_ok hR hc h1 hs .nil Q E K KX k1 hQ1 hE1
  | none =>
   have hcT : ∀ a m, callT C x a m = .stuck "callee" := fun a m => by show optT (aVal x) _ _ = _; rw [hx]; rfl
   refine callWith_of (P := fun _ => False) (by rw [(star_none hs).1]; rfl) (fun _ q => q.elim) ?_
   refine evalArgs_all hs ((evs_ok hR p es h1).use k1 hQ1 hE1 fun vs xs s1 g1 m1 e1 i1 r1 k1 hQ1 hE1 => ?_)
   exact (hcT _ _ ▸ (show (callT C x _ _).All _ _ from k1) : (T.stuck "callee" : T (AV × Mem)).All K KX).elim
theorem ev_method (hR : SoundE c C n R) (hc : CfgOK c C n) (h : At c C n A env L s g lo m) (o : Expr) (x : Str) (ap : Pos) (es : List Expr) (p : Pos) : Tri c A noX s g (eval (.Call (.Attribute o x ap) es [] p) env) (RepR c) (evT C R (.Call (.Attribute o x ap) es [] p) lo m) := by
 refine Tri.cond fun hb => ?_
 ·have hb : (bareCall o || !(ap.endLine == p.line) || !(es.length < 30) || es.any isStar) = false := Bool.not_eq_true' _ ▸ hb
  simp only [Bool.or_eq_false_iff, Bool.not_eq_false'] at hb
  obtain ⟨⟨⟨h1, h2⟩, h3⟩, h4⟩ := hb
  have hbase := attrBase (env := env) x h1
  have hform : methodCallForm (es.length + ([] : List Keyword).length) (backTo p (starEach es env)) (backToKw p (keywordEach [] env)) = true := by
   unfold methodCallForm
   rw [(star_none h4).2]
   exact h3
  have hpos : methodCallPos true o env ap p = pure p := by unfold methodCallPos; simp [h2]
  intro Q E K KX hA hQ hE
  rw [arm_eval_Call, hbase]
  refine wpAny_bind ((hR.ev h o).use hA hQ hE fun v y s1 g1 m1 e1 i1 r1 k1 hQ1 hE1 => ?_)
  have h1 := h.ext e1 i1
  obtain ⟨q, hm, k1⟩ := optT_all k1
  refine wpAny_bind (wpAny_standAt ?_)
  unfold methodCall calleeOf
  rw [hform]
  refine wpAny_bind (wpAny_holding (meth_ok i1 r1 hm fun fs k rf => wpAny_bind (wpAny_of_eq hpos ?_)))
  have ek := Ext.toks A (Liv s1.heap) noX g1 s1 k
  exact callWith_ok hR hc (h1.ext ek (i1.toks k)) h4 rf Q E K KX k1 (hQ1.lift ek) (hE1.lift ek)
theorem int2_ok {op : Operator} {a b : AV} {u v : Value} {f : Int → Int → T (AV × Mem)} (ra : Rep c.w.params g a u) (rb : Rep c.w.params g b v) (h : ∀ x y t t', Tri c A X s g (binaryOp op (.int x t) (.int y t')) (RepR c) (f x y)) :
  Tri c A X s g (binaryOp op u v) (RepR c) (int2T a b f) := Tri.opt fun x hx => Tri.opt fun y hy => by
 rw [aInt_s hx] at ra
 rw [aInt_s hy] at rb
 obtain ⟨t, rfl⟩ := ra.inv
 obtain ⟨t', rfl⟩ := rb.inv
 exact h x y t t'
theorem lst2_ok (I : Inv c A g s m) {a b : AV} {u v : Value} {z : T (AV × Mem)} (ra : Rep c.w.params g a u) (rb : Rep c.w.params g b v) (h : Tri c A X s g (binaryOp .Add u v) (RepR c) z) :
  Tri c A X s g (binaryOp .Add u v) (RepR c) (lst2T a b m z) := by
 unfold lst2T
 cases hx : aLst a with
 | none => exact h
 | some x =>
  refine Tri.opt fun y hy => ?_
  rw [aLst_s hx] at ra
  rw [aLst_s hy] at rb
  obtain ⟨vs, l, n, rfl, f, r⟩ := ra.inv
  obtain ⟨ws, l2, n2, rfl, f2, r2⟩ := rb.inv
  refine Tri.req fun hz => Tri.of (R := RepR c) fun Q E hQ => ?_
  refine concat_meets ⟨_, I.frz _ _ f, rfl⟩ ⟨_, I.frz _ _ f2, rfl⟩ noFill_list_add seq_list_add PySem.F.slot_list_add PySem.F.entry_list_add (PySem.F.args_list_add_2 _ _) (list_addW l l2 vs.toArray ws.toArray n n2 none none #[] #[] (size_2000 hz r.length r2.length)) ⟨I.frz _ _ f, I.frz _ _ f2, ?_⟩
  exact hQ _ _ _ (Ext.pushF I X _) (I.pushF _ rfl) (.lst (a := s.heap.objs.size) (n := 0) (by rw [Gh.put_self]; simp) ((r.append r2).mono (Gr.put I.fresh)))
theorem fd_ok {y : Int} (h : 0 < y ∧ y < 1073741824) : y ≠ 0 ∧ y.natAbs < 2 ^ 30 := by omega
theorem binT_ok (I : Inv c A g s m) (op : Operator) {a b : AV} {u v : Value} (ra : Rep c.w.params g a u) (rb : Rep c.w.params g b v) :
  Tri c A X s g (binaryOp op u v) (RepR c) (binT op a b m) := by
 cases op with
 | Add => exact lst2_ok I ra rb (int2_ok ra rb fun x y t t' => Tri.val I fun Q E hQ => add_int (hQ _ _ (.int _ _)))
 | Sub => exact int2_ok ra rb fun x y t t' => Tri.val I fun Q E hQ => PyProof.Rows.sub_int (hQ _ _ (.int _ _))
 | Mult => exact int2_ok ra rb fun x y t t' => Tri.req fun hm => Tri.val I fun Q E hQ => mul_int (hQ _ _ (.int _ _)) (hm.elim IntMulOk.of_left IntMulOk.of_right)
 | FloorDiv => exact int2_ok ra rb fun x y t t' => Tri.req fun hm => Tri.val I fun Q E hQ => floordiv_int (fd_ok hm).1 (hQ _ _ (.int _ _)) (.inl (PyProof.noPylong_small (fd_ok hm).2))
 | Mod => exact int2_ok ra rb fun x y t t' => Tri.req fun hm => Tri.val I fun Q E hQ => mod_int' hm (hQ _ _ (.int _ _))
 | LShift => exact int2_ok ra rb fun x y t t' => Tri.req fun hm => Tri.val I fun Q E hQ => lshift_int hm.1 (shl_ok hm.2.1 hm.2.2) (hQ _ _ (.int _ _))
 | RShift => exact int2_ok ra rb fun x y t t' => Tri.req fun hm => Tri.val I fun Q E hQ => rshift_int hm (hQ _ _ (.int _ _))
 | BitAnd => exact int2_ok ra rb fun x y t t' => Tri.val I fun Q E hQ => and_int (hQ _ _ (.int _ _))
 | BitOr => exact int2_ok ra rb fun x y t t' => Tri.val I fun Q E hQ => or_int (hQ _ _ (.int _ _))
 | BitXor => exact int2_ok ra rb fun x y t t' => Tri.val I fun Q E hQ => xor_int (hQ _ _ (.int _ _))
 | _ => exact Tri.stuck
theorem ev_binop (hR : SoundE c C n R) (h : At c C n A env L s g lo m) (l r : Expr) (op : Operator) (p : Pos) : Tri c A noX s g (eval (.BinOp l op r p) env) (RepR c) (evT C R (.BinOp l op r p) lo m) := by
 intro Q E K KX hA hQ hE
 refine wpAny_BinOp ((hR.ev h l).use hA hQ hE fun a x s1 g1 m1 e1 i1 r1 k1 hQ1 hE1 => ?_)
 refine (hR.ev (h.ext e1 i1) r).use k1 hQ1 hE1 fun b y s2 g2 m2 e2 i2 r2 k2 hQ2 hE2 => ?_
 exact binT_ok i2 op (r1.mono e2.gr) r2 _ _ _ _ k2 hQ2 hE2
theorem ev_dict (h : At c C n A env L s g lo m) (p : Pos) : Tri c A noX s g (eval (.Dict [] [] p) env) (RepR c) (evT C R (.Dict [] [] p) lo m) := by
 refine Tri.of (R := RepR c) fun Q E hQ => wpAny_Dict_empty ?_
 have hk : ∀ b o, s.heap.get? b = some o → (s.heap.push { cls := .type "dict", data := .dict #[] }).get? b = some o := fun b o q => Heap.get?_push_of_some _ q
 exact hQ _ _ g ⟨rfl, rfl, rfl, .refl g, fun _ h h' => (h' h).elim, fun _ h => .inl h, fun a o _ e _ _ => ⟨o.slots, hk a o e, fun _ => rfl⟩, fun a _ ⟨o, e⟩ => ⟨o, hk a o e⟩⟩
  (pushD h.inv) (.any _)
theorem adj_upto {b n : Nat} (h : b < n) : Builtin.Slice.sliceAdjust none (some (b : Int)) 1 (n : Int) = (0, (b : Int)) := by
 show ((0 : Int), if (b : Int) < 0 then max ((b : Int) + n) 0 else min (b : Int) n) = _
 rw [if_neg (Int.not_lt.mpr (Int.natCast_nonneg b)), Int.min_eq_left (Int.ofNat_le.mpr (Nat.le_of_lt h))]
theorem places_upto (b : Nat) : Builtin.Slice.slicePlaces 0 (b : Int) 1 = b := by
 unfold Builtin.Slice.slicePlaces
 simp only [show (1 : Int) > 0 by decide, if_true, Int.ediv_one]
 split <;> simp_all
theorem pick_upto (items : Array Value) (b : Nat) : ((List.range b).filterMap fun (k : Nat) => items[((0 : Int) + (k : Int) * 1).toNat]?).toArray = (items.toList.take b).toArray := by
 have e1 : (fun (k : Nat) => items[((0 : Int) + (k : Int) * 1).toNat]?) = fun k => items[0 + k]? := by
  funext k
  rw [Int.zero_add, Int.mul_one, Int.toNat_natCast, Nat.zero_add]
 rw [e1]
 have := pick_run items 0 b
 rw [List.filterMap_map] at this
 have e2 : ((fun x => items[x]?) ∘ fun x => 0 + x) = fun k => items[0 + k]? := rfl
 rw [e2, List.drop_zero] at this
 rw [this]
theorem upto_tuple {t sl : Addr} {items : Array Value} {b : Nat} {u : Tok} {Q : Value → Shared → Prop} {E : Value → Shared → Prop} (ht : IsTup s.heap t items) (hs : s.heap.IsSliceOf sl .none (.int b u) .none) (hb : b < items.size) (hsz : items.size ≤ 1000)
  (h : Q (.ref s.heap.objs.size) { s with heap := s.heap.push { cls := .type "tuple", data := .seq (items.toList.take b).toArray } }) : wpAny (model pw c.w) A (getItem (.ref t) (.ref sl)) Q E s := by
 obtain ⟨os, hos, hcs, hds⟩ := id hs
 have hTs : s.TypeIs (.ref sl) "slice" := ⟨os, hos, hcs⟩
 unfold getItem
 try with_reducible refine wpAny_holding ?_
 first | refine wpAny_bind (wpAny_pure ?_) | skip
 refine wpAny_bind (wpAny_sequenceKey ht.typeIs (by decide) ?_)
 refine wpAny_bind (wpAny_callSpecial?_slot (name := Str.ofString "__getitem__") ht.typeIs slot_tuple_getitem
  (wpAny_call_entry slot_tuple_getitem ht.typeIs entry_tuple_getitem ?_ (args_tuple_getitem _ _)))
 show wpAny _ _ (Builtin.Tuple.tupleItemsOf (.ref t) >>= _) _ _ s
 refine wpAny_bind (tupleItemsOf_ ht ?_)
 refine wpAny_bind (wpAny_typeOf hTs ?_)
 rw [if_pos (by decide)]
 refine wpAny_bind ?_
 unfold Builtin.Slice.sliceApplied Builtin.Slice.sliceFields
 refine wpAny_bind (wpAny_bind (wpAny_field hos hds (x := .none) rfl (wpAny_bind (wpAny_field hos hds (x := .int b u) rfl (wpAny_bind (wpAny_field hos hds (x := .none) rfl (wpAny_pure ?_)))))))
 refine wpAny_bind (slicePart_none ?_)
 show wpAny _ _ (if ((1 : Int) == 0) = true then _ else _) _ _ s
 rw [if_neg (by decide)]
 refine wpAny_bind (slicePart_none (wpAny_bind (slicePart_int (wpAny_bind (wpAny_pure ?_)))))
 show wpAny _ _ (match Builtin.Slice.sliceAdjust none (some (b : Int)) 1 (items.size : Int) with | (lo, hi) => pure (lo, (1 : Int), Builtin.Slice.slicePlaces lo hi 1)) _ _ s
 rw [adj_upto hb]
 show wpAny _ _ (pure ((0 : Int), (1 : Int), Builtin.Slice.slicePlaces 0 (b : Int) 1)) _ _ s
 rw [places_upto]
 refine wpAny_pure ?_
 have hno : ¬ (((0 : Int) == 0 && (1 : Int) == 1 && b == items.size) = true) := fun q => Nat.ne_of_lt hb (beq_iff_eq.mp (Bool.and_eq_true_iff.mp q).2)
 show wpAny _ _ (if ((0 : Int) == 0 && (1 : Int) == 1 && b == items.size) = true then _ else _) _ _ s
 rw [if_neg hno, pick_upto]
 have hz : sizeOk (.seq (items.toList.take b).toArray) := by
  show (items.toList.take b).toArray.size ≤ sizeLine
  rw [List.size_toArray, List.length_take, Array.length_toList]; exact size_1000 (Nat.le_trans (Nat.min_le_right ..) hsz)
 first
  | exact wpAny_bind (m := Builtin.Tuple.tupleExact _) (wpAny_newObj_type (wpAny_pure ⟨_, rfl, wpAny_pure h⟩) hz)
  | exact wpAny_bind (m := Builtin.Tuple.tupleExact _) (wpAny_newObj_type (wpAny_bind (wpAny_pure (wpAny_pure ⟨_, rfl, wpAny_pure h⟩))) hz)
  | exact wpAny_bind (wpAny_bind (m := Builtin.Tuple.tupleExact _) (wpAny_newObj_type (wpAny_pure (wpAny_pure ⟨_, rfl, wpAny_pure h⟩)) hz))
  | exact wpAny_bind (wpAny_bind (m := Builtin.Tuple.tupleExact _) (wpAny_newObj_type (wpAny_pure ⟨_, rfl, wpAny_pure h⟩) hz))
theorem IntVals.take : ∀ {xs : List Int} {vs : List Value}, IntVals xs vs → ∀ k, IntVals (xs.take k) (vs.take k)
 | [], vs, h, k => by rw [show vs = [] from h.inv, List.take_nil, List.take_nil]; exact .nil
 | x :: xs, vs, h, 0 => .nil
 | x :: xs, vs, h, k + 1 => by obtain ⟨_, _, rfl, r⟩ := h.inv; exact .cons (r.take k)
theorem Reps.take' {P : Params} {g : Gh} : ∀ {xs : List AV} {vs : List Value}, Reps P g xs vs → ∀ k, Reps P g (xs.take k) (vs.take k)
 | [], vs, h, k => by rw [show vs = [] from h.inv, List.take_nil, List.take_nil]; exact .nil
 | x :: xs, vs, h, 0 => .nil
 | x :: xs, vs, h, k + 1 => by obtain ⟨_, _, rfl, a, r⟩ := h.inv; exact .cons a (r.take' k)
theorem ev_slice0 (hR : SoundE c C n R) (h : At c C n A env L s g lo m) (o b : Expr) (p p2 : Pos) : Tri c A noX s g (eval (.Subscript o (.Slice none (some b) none p2) p) env) (RepR c) (evT C R (.Subscript o (.Slice none (some b) none p2) p) lo m) := by
 intro Q E K KX hA hQ hE
 refine Subscript_ ((hR.ev h o).use hA hQ hE fun v x s1 g1 m1 e1 i1 r1 k1 hQ1 hE1 => ?_)
 have h1 := h.ext e1 i1
 refine wpAny_Slice (wpAny_pure ((hR.ev h1 b).use k1 hQ1 hE1 fun vb xb s3 g3 m3 e3 i3 r3 k3 hQ3 hE3 => ?_))
 refine wpAny_pure ?_
 have q1 := r1.mono e3.gr
 obtain ⟨j, x3, k3⟩ := optT_all k3
 rw [show xb = _ from aInt_s x3] at r3
 obtain ⟨tj, rfl⟩ := r3.inv
 have i4 := i3.pushF { cls := .type "slice", data := .fields #[.none, .int j tj, .none] } rfl
 have e4 := Ext.pushF i3 noX { cls := .type "slice", data := .fields #[.none, .int j tj, .none] }
 cases x with
 | «ints» xs =>
  obtain ⟨vs, l, k, rfl, f, r⟩ := q1.inv
  obtain ⟨⟨c1, c2⟩, k3⟩ := k3
  have f4 := i4.list (e4.gr.F _ _ f)
  obtain ⟨b, rfl⟩ := Int.eq_ofNat_of_zero_le c1
  refine tail_any (s := { s3 with heap := s3.heap.push { cls := .type "slice", data := .fields #[.none, .int b tj, .none] } }) f4.typeIs slot_list_getitem.lookup (ops := [.ref s3.heap.objs.size, .ref l]) (wpAny_getItem_list_slice f4 (Heap.IsSliceOf.new ..) .none (.int b tj) .none (by simp) ?_ (by rw [List.size_toArray, r.length]; exact size_1000 c2)) rfl
  rw [slicePick_upto']
  exact hQ3 _ _ _ _ _ (e4.then (Ext.pushF i4 noX _)) (i4.pushF _ rfl) (.ints (a := (s3.heap.push { cls := .type "slice", data := .fields #[.none, .int b tj, .none] }).objs.size) (n := 0) Gh.put_self (r.take b)) k3
 | tup xs =>
  obtain ⟨vs, l, k, rfl, f, r⟩ := q1.inv
  obtain ⟨hc, k3⟩ := condT_all k3
  have hc := Bool.and_eq_true_iff.mp hc
  have c2 := blt_of (Bool.and_eq_true_iff.mp hc.1).2
  have c3 := blt_of hc.2
  obtain ⟨b, rfl⟩ := Int.eq_ofNat_of_zero_le (of_decide_eq_true (Bool.and_eq_true_iff.mp hc.1).1)
  refine tail_any (s := { s3 with heap := s3.heap.push { cls := .type "slice", data := .fields #[.none, .int b tj, .none] } }) (i4.tuple (e4.gr.F _ _ f)).typeIs slot_tuple_getitem.lookup (ops := [.ref s3.heap.objs.size, .ref l]) (upto_tuple (s := { s3 with heap := s3.heap.push { cls := .type "slice", data := .fields #[.none, .int b tj, .none] } }) (i4.tuple (e4.gr.F _ _ f)) (Heap.IsSliceOf.new ..) (by rw [List.size_toArray, r.length]; exact c2) (by rw [List.size_toArray, r.length]; exact Nat.le_of_lt c3) ?_) rfl
  exact hQ3 _ _ _ _ _ (e4.then (Ext.pushF i4 noX _)) (i4.pushF _ rfl) (.tup (a := (s3.heap.push { cls := .type "slice", data := .fields #[.none, .int b tj, .none] }).objs.size) (n := 0) Gh.put_self (((r.mono e4.gr).take' b).mono (Gr.put i4.fresh))) k3
 | _ => exact k3.elim
end
section
variable {c : Cx} {A : Around} {s : Shared} {g : Gh} {m : Mem} {B X : Addr → Prop} {p : Addr} {h' : Heap}
theorem Inv.fr_live (I : Inv c A g s m) (h : IsFr A p) : Liv s.heap p ∧ g.F p = none ∧ p ∉ g.th.flatten := by
 obtain ⟨l, env, h1, h2, h3⟩ := h
 obtain ⟨l', q1, q2⟩ := I.stk
 rw [h1] at q1; cases q1
 obtain ⟨_, L, o, es, n, f1, f2, _, f4, f5⟩ := q2 env h2
 rw [f1] at h3; cases h3
 exact ⟨⟨o, f2⟩, f4, f5⟩
theorem Inv.priv (I : Inv c A g s m) (hs : Heap.ExtBut p s.heap h') (hp : g.F p = none) (ht : p ∉ g.th.flatten) (hf : ¬ IsFr A p) (t : Nat) : Inv c A g { s with heap := h', toks := t } m where
 frz := fun a o e => hs a o (fun q => by rw [q, hp] at e; cases e) (I.frz a o e)
 base := I.base
 len := I.len
 cell := fun k mo l e1 e2 => (I.cell k mo l e1 e2).mono (.refl g) fun a ha o e => hs a o (fun q => ht (q ▸ List.mem_flatten.mpr ⟨l, List.mem_of_getElem? e2, ha⟩)) e
 nd := I.nd
 free := fun a ha => by
  obtain ⟨h1, o, ho⟩ := I.free a ha
  exact ⟨h1, o, hs a o (fun q => ht (q ▸ ha)) ho⟩
 stk := by
  obtain ⟨l, h1, h2⟩ := I.stk
  refine ⟨l, h1, fun env he => ?_⟩
  obtain ⟨a, L, o, es, n, f1, f2, f3, f4, f5⟩ := h2 env he
  exact ⟨a, L, o, es, n, f1, hs L o (fun q => hf ⟨l, env, h1, he, q ▸ f1⟩) f2, f3, f4, f5⟩
theorem Ext.priv (hs : Heap.ExtBut p s.heap h') (hb : ¬ B p) (t : Nat) : Ext A B X g s g { s with heap := h', toks := t } where
 gens := rfl
 drawn := rfl
 os := rfl
 gr := .refl g
 newF := fun _ h h' => (h' h).elim
 newT := fun _ h => .inl h
 keep := fun a o b e _ _ => ⟨o.slots, hs a o (fun q => hb (q ▸ b)) e, fun _ => rfl⟩
 live := fun a b ⟨o, e⟩ => ⟨o, hs a o (fun q => hb (q ▸ b)) e⟩
inductive Iter (P : Params) (g : Gh) (h : Heap) (it : Addr) : List AV → Prop
 | lst {l : Addr} {vs : List Value} {n i : Nat} {xs : List AV} : g.F l = some (lstO vs n) → h.IsListIter it l i → i ≤ vs.length → Reps P g xs (vs.drop i) → Iter P g h it xs
 | tup {l : Addr} {vs : List Value} {n i : Nat} {xs : List AV} : g.F l = some (tupO vs n) → h.IsTupleIter it l i → i ≤ vs.length → Reps P g xs (vs.drop i) → Iter P g h it xs
 | rng {lo left : Int} {xs : List AV} : IsRangeIter h it lo left 1 → xs = ((List.range left.toNat).map fun (i : Nat) => AV.int (lo + i)) → Iter P g h it xs
theorem Iter.mono {P : Params} {g g' : Gh} {h : Heap} {it : Addr} {xs : List AV} (x : Iter P g h it xs) (gr : Gr g g') (k : ∀ o, h.get? it = some o → h'.get? it = some o) : Iter P g' h' it xs := by
 cases x with
 | lst f i le r =>
  obtain ⟨o, ho, hc, hd⟩ := i
  exact .lst (gr.F _ _ f) ⟨o, k o ho, hc, hd⟩ le (r.mono gr)
 | tup f i le r =>
  obtain ⟨o, ho, hc, hd⟩ := i
  exact .tup (gr.F _ _ f) ⟨o, k o ho, hc, hd⟩ le (r.mono gr)
 | rng i e => exact .rng (k _ i) e
theorem drop_cons {α : Type} {vs rest : List α} {v : α} {k : Nat} (hd : vs.drop k = v :: rest) : vs[k]? = some v ∧ rest = vs.drop (k + 1) ∧ k < vs.length := by
 have h1 : vs[k]? = some v := by have := congrArg (·[0]?) hd; simpa using this
 exact ⟨h1, by have := congrArg List.tail hd; simpa using this.symm, (List.getElem?_eq_some_iff.mp h1).1⟩
theorem pos_succ {left : Int} (h : 0 < left) : ∃ k, left.toNat = k + 1 := ⟨left.toNat - 1, by lia⟩
theorem rng_cons {lo left : Int} {x : AV} {r : List AV} (e : (List.range left.toNat).map (fun (i : Nat) => AV.int (lo + i)) = x :: r) : 0 < left ∧ x = .int lo ∧ r = (List.range (left - 1).toNat).map fun (i : Nat) => AV.int (lo + 1 + i) := by
 have hl : 0 < left := Int.not_le.mp fun h => by rw [Int.toNat_of_nonpos h] at e; exact nomatch e
 obtain ⟨k, hk⟩ := pos_succ hl
 rw [hk, List.range_succ_eq_map, List.map_cons, List.map_map] at e
 obtain ⟨e1, e2⟩ := List.cons.inj e
 refine ⟨hl, by rw [← e1, Int.natCast_zero, Int.add_zero], ?_⟩
 rw [← e2, show (left - 1).toNat = k by simp_all]
 refine List.map_congr_left fun j _ => ?_
 show AV.int (lo + ((j + 1 : Nat) : Int)) = _
 rw [Int.natCast_add, Int.add_comm (j : Int), ← Int.add_assoc]; rfl
theorem Iter.next (I : Inv c A g s m) {it : Addr} {x : AV} {xs : List AV} (i : Iter c.w.params g s.heap it (x :: xs)) {Q : Option Value → Shared → Prop} {E : Value → Shared → Prop}
  (hQ : ∀ v h' t, Rep c.w.params g x v → Iter c.w.params g h' it xs → Heap.SameBut it s.heap h' → Q (some v) { s with heap := h', toks := t }) : wpAny (model pw c.w) A (pyNext (.ref it)) Q E s := by
 have hne : ∀ {l : Addr} {o : Obj}, g.F l = some o → (∃ oi, s.heap.get? it = some oi ∧ oi.cls ≠ o.cls) → l ≠ it := fun {l o} e ⟨oi, h1, h2⟩ q => by
  have := I.frz _ _ e
  rw [q, h1] at this
  exact h2 (by cases this; rfl)
 cases i with
 | lst f i le r =>
  rename_i l vs n k
  obtain ⟨v, rest, hd, rv, rr⟩ := r.inv
  obtain ⟨hk, hr, hlt⟩ := drop_cons hd
  exact wpAny_pyNext_list_item i (I.list f) (by rw [List.getElem?_toArray]; exact hk) fun h' hi hs => hQ v h' s.toks rv (.lst f hi hlt (hr ▸ rr)) hs
 | tup f i le r =>
  rename_i l vs n k
  obtain ⟨v, rest, hd, rv, rr⟩ := r.inv
  obtain ⟨hk, hr, hlt⟩ := drop_cons hd
  exact wpAny_pyNext_tuple_item i (I.tuple f) (by rw [List.getElem?_toArray]; exact hk) fun h' hi hs => hQ v h' s.toks rv (.tup f hi hlt (hr ▸ rr)) hs
 | rng i e =>
  rename_i lo left
  obtain ⟨hl, e1, e2⟩ := rng_cons e.symm
  refine wpAny_pyNext_range_item i hl fun h' hi hs => ?_
  exact hQ _ h' _ (by rw [e1]; exact Rep.int lo s.toks) (.rng hi e2) hs
theorem Iter.stop (I : Inv c A g s m) (hh : A.handled = none) {it : Addr} (i : Iter c.w.params g s.heap it []) {Q : Option Value → Shared → Prop} {E : Value → Shared → Prop}
  (hQ : ∀ h', Heap.ExtBut it s.heap h' → Q none { s with heap := h' }) : wpAny (model pw c.w) A (pyNext (.ref it)) Q E s := by
 cases i with
 | lst f i le r =>
  exact wpAny_pyNext_list_end hh i (I.list f) (by rw [List.getElem?_toArray]; exact List.getElem?_eq_none (List.drop_eq_nil_iff.mp r.inv)) hQ
 | tup f i le r =>
  exact wpAny_pyNext_tuple_end hh i (I.tuple f) (by rw [List.getElem?_toArray]; exact List.getElem?_eq_none (List.drop_eq_nil_iff.mp r.inv)) hQ
 | rng i e => exact wpAny_pyNext_range_end hh i (Int.not_lt.mp fun h => by
   obtain ⟨k, hk⟩ := pos_succ h
   rw [hk, List.range_succ_eq_map] at e; exact nomatch e) hQ
theorem rng_small {hi : Int} (h0 : 0 ≤ hi) (h1 : hi ≤ 1000) : Builtin.Range.small 0 hi 1 = true := by
 unfold Builtin.Range.small Builtin.Range.rangeSize Builtin.Range.rangeFitsLong
 simp only [Bool.and_eq_true, Bool.or_eq_true, decide_eq_true_eq, beq_iff_eq]
 simp
 omega
theorem rng_size {hi : Int} (h0 : 0 ≤ hi) : Builtin.Range.rangeSize 0 hi 1 = hi := by
 unfold Builtin.Range.rangeSize
 simp
 lia
theorem iter_made (I : Inv c A g s m) {a : AV} {u : Value} {xs : List AV} (r : Rep c.w.params g a u) (h : itemsOf a = some xs) (hz : itemsReq a) {Q : Value → Shared → Prop} {E : Value → Shared → Prop}
  (hQ : ∀ o, o.isFreed = false → Iter c.w.params g (s.heap.push o) s.heap.objs.size xs → Q (.ref s.heap.objs.size) { s with heap := s.heap.push o }) : wpAny (model pw c.w) A (pyIter u) Q E s := by
 cases a with
 | tup =>
  rw [← Option.some.inj h] at hQ
  obtain ⟨_, _, _, rfl, f, r⟩ := r.inv
  exact wpAny_pyIter_tuple (I.tuple f) (hQ _ rfl (.tup f ⟨_, Heap.get?_push_size _ rfl, rfl, rfl⟩ (Nat.zero_le _) r))
 | lst =>
  rw [← Option.some.inj h] at hQ
  obtain ⟨_, _, _, rfl, f, r⟩ := r.inv
  exact wpAny_pyIter_list (I.list f) (hQ _ rfl (.lst f ⟨_, Heap.get?_push_size _ rfl, rfl, rfl⟩ (Nat.zero_le _) r))
 | «ints» =>
  rw [← Option.some.inj h] at hQ
  obtain ⟨_, _, _, rfl, f, r⟩ := r.inv
  exact wpAny_pyIter_list (I.list f) (hQ _ rfl (.lst f ⟨_, Heap.get?_push_size _ rfl, rfl, rfl⟩ (Nat.zero_le _) r.reps))
 | rng lo hi =>
  rw [← Option.some.inj h] at hQ
  obtain ⟨_, _, _, _, rfl, f⟩ := r.inv
  obtain ⟨rfl, z2, z3⟩ := hz
  refine wpAny_pyIter_range (I.frz _ _ f) (rng_small z2 z3) (hQ _ rfl (.rng (Heap.get?_push_size _ rfl) ?_))
  rw [Int.sub_zero, rng_size z2]
 | _ => exact nomatch h
end
theorem getLo_put (n k : Str) (v : AV) : ∀ lo : Lo, getLo k (putLo n v lo) = if k = n then some v else getLo k lo
 | [] => by simp [putLo, getLo]
 | (a, u) :: r => by
  unfold putLo
  by_cases h : n = a
  ·subst h
   rw [if_pos rfl]
   unfold getLo
   split <;> rfl
  ·rw [if_neg h]
   unfold getLo
   by_cases hk : k = a
   ·subst hk
    rw [if_pos rfl, if_neg (Ne.symm h), if_pos rfl]
   ·rw [if_neg hk, getLo_put n k v r]
    rw [if_neg hk]
section
variable {c : Cx} {C : Cfg} {A : Around} {s s' : Shared} {g g' : Gh} {m : Mem} {B X : Addr → Prop} {p L : Addr} {cl : List (Str × Addr)} {lo lo' : Lo}
structure Priv (g : Gh) (h : Heap) (p : Addr) : Prop where
 liv : Liv h p
 nf : g.F p = none
 nt : p ∉ g.th.flatten
theorem Priv.ext (x : Ext A B X g s g' s') (q : Priv g s.heap p) (b : B p) (nx : ¬ X p) : Priv g' s'.heap p ∧ ∀ o, s.heap.get? p = some o → ∃ sl, s'.heap.get? p = some { o with slots := sl } ∧ (¬ IsFr A p → sl = o.slots) :=
 ⟨⟨x.live p b q.liv, (x.own b).1 q.nf, (x.own b).2 q.nt⟩, fun o ho => x.keep p o b ho q.nt nx⟩
theorem Priv.same (x : Ext A B X g s g' s') (q : Priv g s.heap p) (b : B p) (nx : ¬ X p) (nf : ¬ IsFr A p) : ∀ o, s.heap.get? p = some o → s'.heap.get? p = some o := fun o ho => by
 obtain ⟨sl, h1, h2⟩ := x.keep p o b ho q.nt nx
 rw [h2 nf] at h1; exact h1
theorem Priv.but {h h' : Heap} {q : Addr} (x : Priv g h p) (hs : Heap.ExtBut q h h') (ne : p ≠ q) : Priv g h' p := ⟨let ⟨o, ho⟩ := x.liv; ⟨o, hs p o ne ho⟩, x.nf, x.nt⟩
theorem Priv.new (I : Inv c A g s m) {h' : Heap} (l : Liv h' s.heap.objs.size) : Priv g h' s.heap.objs.size := ⟨l, I.fresh, I.freshT⟩
theorem LocOK.sub (l : LocOK c C L cl g s lo) (h : ∀ y w, getLo y lo' = some w → getLo y lo = some w) : LocOK c C L cl g s lo' where
 ns := let ⟨m, a, b⟩ := l.ns; ⟨m, a, fun x v q => b x v (h x v q)⟩
 nf := l.nf
 nt := l.nt
 cf := l.cf
 cx := l.cx
 cd := l.cd
theorem LocOK.but (l : LocOK c C L cl g s lo) {h' : Heap} {p : Addr} (hs : Heap.ExtBut p s.heap h') (np : ¬ OwnA L cl p) (t : Nat) : LocOK c C L cl g { s with heap := h', toks := t } lo :=
 l.ext (A := { handled := none, depth := 0, frames := none }) (B := OwnA L cl) (X := noX) ⟨rfl, rfl, rfl, .refl g, fun _ h h' => (h' h).elim, fun _ h => .inl h, fun a o b e _ _ => ⟨o.slots, hs a o (fun q => np (q ▸ b)) e, fun _ => rfl⟩, fun a b ⟨o, e⟩ => ⟨o, hs a o (fun q => np (q ▸ b)) e⟩⟩ (fun _ h => h) fun _ _ h => h
theorem LocOK.gr (l : LocOK c C L cl g s lo) (gr : Gr g g') (f : ∀ a, OwnA L cl a → g'.F a = none ∧ a ∉ g'.th.flatten) : LocOK c C L cl g' s lo where
 ns := let ⟨m, a, b⟩ := l.ns; ⟨m, a, fun x v q => let ⟨b1, b2⟩ := b x v q; ⟨b1, b2.imp (fun ⟨h, u, h1, h2⟩ => ⟨h, u, h1, h2.mono gr⟩) fun ⟨ca, u, h1, h2, h3, h4⟩ => ⟨ca, u, h1, h2, h3, h4.mono gr⟩⟩⟩
 nf := (f L (.inl rfl)).1
 nt := (f L (.inl rfl)).2
 cf := fun x ca h => let ⟨h1, _, _, h4⟩ := l.cf x ca h; ⟨h1, (f ca (.inr ⟨x, h⟩)).1, (f ca (.inr ⟨x, h⟩)).2, h4⟩
 cx := l.cx
 cd := l.cd
noncomputable def bindK (k : Option NameKind) : Bool := match k with
 | some .local => true
 | some .cell => true
 | _ => false
noncomputable def bindable (C : Cfg) (x : Str) : Bool := !(x == ("__debug__" : Str)) && bindK (C.scope.names.lookup x)
theorem bind_kind {k : Option NameKind} (h : bindK k = true) : k = some .local ∨ k = some .cell := by
 cases k with
 | none => exact nomatch h
 | some k =>
  cases k with
  | «local» => exact .inl rfl
  | cell => exact .inr rfl
  | _ => exact nomatch h
theorem getLo_put_s {n k : Str} {v w : AV} {lo : Lo} (h : getLo k (putLo n v lo) = some w) : (k = n ∧ w = v) ∨ (k ≠ n ∧ getLo k lo = some w) := by
 rw [getLo_put] at h
 by_cases e : k = n
 ·rw [if_pos e] at h; exact .inl ⟨e, (Option.some.inj h).symm⟩
 ·rw [if_neg e] at h; exact .inr ⟨e, h⟩
theorem store_ok (l : LocOK c C L cl g s lo) {env : Env} (he : env.scope = C.scope) (hk : C.scope.kind = .function) (hL : env.locals = L) (hc : env.cells = cl) {x : Str} {v : AV} {u : Value} (hb : bindable C x = true) (r : Rep c.w.params g v u)
  {M : Model} {Q : Unit → Shared → Prop} {E : Value → Shared → Prop}
  (hQ : ∀ p h' t, OwnA L cl p → (C.scope.names.lookup x = some .local → p = L) → Heap.SameBut p s.heap h' → (∀ o es n, s.heap.get? p = some o → o.data = .dict es n → ∃ o' es' n', h'.get? p = some o' ∧ o'.data = .dict es' n') → Liv h' p → LocOK c C L cl g { s with heap := h', toks := t } (putLo x v lo) → Q () { s with heap := h', toks := t }) :
  wpAny M A (storeName env x u) Q E s := by
 obtain ⟨m, h1, h2⟩ := l.ns
 have hkind : env.kindOf x = C.scope.names.lookup x := by unfold Env.kindOf; rw [he]
 have hek : env.scope.kind = .function := he ▸ hk
 have hb := Bool.and_eq_true_iff.mp hb
 have hd : (x == ("__debug__" : Str)) = false := Bool.not_eq_true' _ ▸ hb.1
 rcases bind_kind hb.2 with hl | hl
 ·refine wpAny_storeName_local (by rw [hkind]; exact hl) (hL ▸ h1) (fun h' hn hs => ?_) (by rw [hek]; rfl)
  rw [hL] at hn hs
  have hdic : ∃ o' es' n', h'.get? L = some o' ∧ o'.data = .dict es' n' := let ⟨o, es, ep, ho, hd, _⟩ := hn; ⟨o, es, ep, ho, hd⟩
  refine hQ L h' _ (.inl rfl) (fun _ => rfl) hs (fun _ _ _ _ _ => hdic) (let ⟨o, _, _, h, _⟩ := hdic; ⟨o, h⟩) ⟨⟨_, hn, fun y w hy => ?_⟩, l.nf, l.nt, fun y ca hy => let ⟨q1, q2, q3, v0, o, ho, hdo⟩ := l.cf y ca hy; ⟨q1, q2, q3, v0, o, (hs.2 ca q1).trans ho, hdo⟩, l.cx, l.cd⟩
  rcases getLo_put_s hy with ⟨rfl, rfl⟩ | ⟨e, hy⟩
  ·exact ⟨hd, .inl ⟨hl, u, if_pos rfl, r⟩⟩
  ·obtain ⟨b1, b2⟩ := h2 y w hy
   exact ⟨b1, b2.imp (fun ⟨q, z, q1, q2⟩ => ⟨q, z, (if_neg e).trans q1, q2⟩) fun ⟨ca, z, q1, q2, ⟨o, ho, hdo⟩, q4⟩ => ⟨ca, z, q1, q2, ⟨o, (hs.2 ca (l.cf y ca q2).1).trans ho, hdo⟩, q4⟩⟩
 ·obtain ⟨ca, hca⟩ := l.cx x hl
  obtain ⟨q1, q2, q3, v0, hv0⟩ := l.cf x ca hca
  refine wpAny_storeName_cell hek (by rw [hkind]; exact hl) (hc ▸ hca) hv0 fun h' hv hs => ?_
  have hns : h'.Ns L m := h1.sameBut hs (Ne.symm q1)
  refine hQ ca h' s.toks (.inr ⟨x, hca⟩) (fun e => nomatch hl.symm.trans e) hs (fun o es n ho hd => ?_) (let ⟨o, h, _⟩ := hv; ⟨o, h⟩) ⟨⟨m, hns, fun y w hy => ?_⟩, l.nf, l.nt, fun y cb hy => ?_, l.cx, l.cd⟩
  ·obtain ⟨o2, ho2, hd2⟩ := hv0
   rw [← Option.some.inj (ho.symm.trans ho2)] at hd2
   exact nomatch hd.symm.trans hd2
  ·rcases getLo_put_s hy with ⟨rfl, rfl⟩ | ⟨e, hy⟩
   ·exact ⟨hd, .inr ⟨ca, u, .inl hl, hca, hv, r⟩⟩
   ·obtain ⟨b1, b2⟩ := h2 y w hy
    exact ⟨b1, b2.imp id fun ⟨cb, z, q1, q2, ⟨o, ho, hdo⟩, q4⟩ => ⟨cb, z, q1, q2, ⟨o, (hs.2 cb (fun q => e (l.cd y x ca (q ▸ q2) hca))).trans ho, hdo⟩, q4⟩⟩
  ·by_cases e : cb = ca
   ·subst e; exact ⟨q1, q2, q3, _, hv⟩
   ·obtain ⟨p1, p2, p3, w0, o, ho, hdo⟩ := l.cf y cb hy
    exact ⟨p1, p2, p3, w0, o, (hs.2 cb e).trans ho, hdo⟩
theorem Inv.own (I : Inv c A g s m) (l : LocOK c C L cl g s lo) {h' : Heap} {p : Addr} {t : Nat} (hp : OwnA L cl p) (hs : Heap.SameBut p s.heap h') (hd : ∀ o es n, s.heap.get? p = some o → o.data = .dict es n → ∃ o' es' n', h'.get? p = some o' ∧ o'.data = .dict es' n') : Inv c A g { s with heap := h', toks := t } m := by
 have nf : g.F p = none ∧ p ∉ g.th.flatten := by
  rcases hp with rfl | ⟨x, hx⟩
  ·exact ⟨l.nf, l.nt⟩
  ·exact ⟨(l.cf x p hx).2.1, (l.cf x p hx).2.2.1⟩
 exact {
  frz := fun a o e => (hs.2 a (fun q => by rw [q, nf.1] at e; cases e)).trans (I.frz a o e)
  base := I.base
  len := I.len
  cell := fun k mo l' e1 e2 => (I.cell k mo l' e1 e2).mono (.refl g) fun a ha o e => (hs.2 a (fun q => nf.2 (q ▸ List.mem_flatten.mpr ⟨l', List.mem_of_getElem? e2, ha⟩))).trans e
  nd := I.nd
  free := fun a ha => by
   obtain ⟨h1, o, ho⟩ := I.free a ha
   exact ⟨h1, o, (hs.2 a (fun q => nf.2 (q ▸ ha))).trans ho⟩
  stk := by
   obtain ⟨fr, h1, h2⟩ := I.stk
   refine ⟨fr, h1, fun env he => ?_⟩
   obtain ⟨a, F, o, es, n, f1, f2, f3, f4, f5⟩ := h2 env he
   by_cases q : F = p
   ·subst q
    obtain ⟨o', es', n', e1, e2⟩ := hd o es n f2 f3
    exact ⟨a, F, o', es', n', f1, e1, e2, f4, f5⟩
   ·exact ⟨a, F, o, es, n, f1, (hs.2 F q).trans f2, f3, f4, f5⟩ }
theorem Ext.own' {h' : Heap} {p : Addr} {t : Nat} (hp : X p) (hs : Heap.SameBut p s.heap h') (hl : Liv h' p) : Ext A B X g s g { s with heap := h', toks := t } where
 gens := rfl
 drawn := rfl
 os := rfl
 gr := .refl g
 newF := fun _ h h' => (h' h).elim
 newT := fun _ h => .inl h
 keep := fun a o _ e _ nx => ⟨o.slots, (hs.2 a (fun q => nx (q ▸ hp))).trans e, fun _ => rfl⟩
 live := fun a _ ⟨o, e⟩ => by
  by_cases q : a = p
  ·subst q; exact hl
  ·exact ⟨o, (hs.2 a q).trans e⟩
end
noncomputable def closL (cells : List (Str × Addr)) : List (Str × NameKind) → List (Str × Addr) → List (Str × Addr)
 | [], cs => cs
 | (n, k) :: r, cs => if k == .free then closL cells r ((n, (cells.lookup n).getD 0) :: cs) else closL cells r cs
theorem clos_go (env : Env) : ∀ (names : List (Str × NameKind)) (cs : List (Str × Addr)), (∀ p ∈ names, p.2 = .free → ∃ ca, env.cells.lookup p.1 = some ca) →
  (forIn names cs fun (x : Str × NameKind) (r : List (Str × Addr)) => (do
   let cs := r
   if (x.2 == NameKind.free) = true then
    let y ← cellOf env x.1
    let cs := (x.1, y) :: cs
    pure (ForInStep.yield cs)
   else pure (ForInStep.yield cs) : Sem (ForInStep (List (Str × Addr))))) = pure (closL env.cells names cs)
 | [], cs, _ => rfl
 | (n, k) :: r, cs, h => by
  rw [List.forIn_cons]
  unfold closL
  cases hk : (k == NameKind.free) with
  | true =>
   obtain ⟨ca, hca⟩ := h (n, k) (.head _) (by simpa using hk)
   have hc : cellOf env n = pure ca := by unfold cellOf; rw [hca]
   simp only [if_true]
   rw [hc, hca]
   exact clos_go env r _ fun p hp => h p (.tail _ hp)
  | false =>
   simp only [Bool.false_eq_true, if_false]
   exact clos_go env r _ fun p hp => h p (.tail _ hp)
theorem closureFor_eq {scope : Scope} {env : Env} (h : ∀ p ∈ scope.names, p.2 = .free → ∃ ca, env.cells.lookup p.1 = some ca) : closureFor scope env = pure (closL env.cells scope.names []) := by
 unfold closureFor
 rw [← clos_go env scope.names [] h]
 exact bind_pure _
theorem closL_mem {cells : List (Str × Addr)} : ∀ {names : List (Str × NameKind)} {cs : List (Str × Addr)} {n : Str} {ca : Addr}, (n, ca) ∈ closL cells names cs → (n, ca) ∈ cs ∨ ((n, NameKind.free) ∈ names ∧ (cells.lookup n).getD 0 = ca)
 | [], _, _, _, h => .inl h
 | (a, k) :: r, cs, n, ca, h => by
  unfold closL at h
  split at h
  ·rename_i hk
   rcases closL_mem h with h | ⟨h1, h2⟩
   ·rcases List.mem_cons.mp h with e | h
    ·cases e; exact .inr ⟨by rw [show k = NameKind.free by simpa using hk]; exact .head _, rfl⟩
    ·exact .inl h
   ·exact .inr ⟨.tail _ h1, h2⟩
  ·rcases closL_mem h with h | ⟨h1, h2⟩
   ·exact .inl h
   ·exact .inr ⟨.tail _ h1, h2⟩
theorem closL_old {cells : List (Str × Addr)} : ∀ {names : List (Str × NameKind)} {cs : List (Str × Addr)} {p : Str × Addr}, p ∈ cs → p ∈ closL cells names cs
 | [], _, _, h => h
 | (a, k) :: r, cs, p, h => by
  unfold closL
  split
  ·exact closL_old (.tail _ h)
  ·exact closL_old h
theorem closL_has {cells : List (Str × Addr)} : ∀ {names : List (Str × NameKind)} {cs : List (Str × Addr)} {n : Str}, (n, NameKind.free) ∈ names → ∃ ca, (n, ca) ∈ closL cells names cs
 | (a, k) :: r, cs, n, h => by
  unfold closL
  rcases List.mem_cons.mp h with e | h
  ·cases e
   rw [if_pos (by decide)]
   exact ⟨_, closL_old (.head _)⟩
  ·split
   ·exact closL_has h
   ·exact closL_has h
theorem lookup_of_has {l : List (Str × Addr)} {n : Str} (h : ∃ ca, (n, ca) ∈ l) : ∃ ca, l.lookup n = some ca := by
 induction l with
 | nil => obtain ⟨_, h⟩ := h; cases h
 | cons p r ih =>
  obtain ⟨a, b⟩ := p
  rw [List.lookup_cons]
  cases hq : n == a with
  | true => exact ⟨b, rfl⟩
  | false =>
   obtain ⟨ca, h⟩ := h
   rcases List.mem_cons.mp h with e | h
   ·cases e; simp at hq
   ·exact ih ⟨ca, h⟩
theorem mem_of_lookup {β : Type} {l : List (Str × β)} {n : Str} {ca : β} (h : l.lookup n = some ca) : (n, ca) ∈ l := by
 induction l with
 | nil => cases h
 | cons p r ih =>
  obtain ⟨a, b⟩ := p
  rw [List.lookup_cons] at h
  cases hq : n == a with
  | true => rw [hq] at h; cases h; rw [beq_iff_eq.mp hq]; exact .head _
  | false => rw [hq] at h; exact .tail _ (ih h)
theorem relabel_lookup (S O : Scope) (x : Str) : (relabelS S O).names.lookup x = (S.names.lookup x).map fun k => if (k == .free && O.kind == .function && O.names.lookup x == some .cell) then .cell else k := by
 unfold relabelS
 dsimp only
 induction S.names with
 | nil => rfl
 | cons p r ih =>
  obtain ⟨n, k⟩ := p
  rw [List.map_cons]
  have hf : ∀ (b : Bool), (if b = true then (n, NameKind.cell) else (n, k)) = (n, if b = true then NameKind.cell else k) := fun b => by cases b <;> rfl
  show List.lookup x ((if (k == .free && O.kind == .function && O.names.lookup n == some .cell) = true then (n, NameKind.cell) else (n, k)) :: _) = _
  rw [hf, List.lookup_cons, List.lookup_cons]
  cases hq : x == n with
  | true => rw [beq_iff_eq.mp hq]; rfl
  | false => exact ih
theorem getLo_free {S : Scope} {x : Str} {v : AV} : ∀ {lo : Lo}, getLo x (freeLo S lo) = some v → S.names.lookup x = some .free ∧ getLo x lo = some v
 | [], h => by cases h
 | (k, u) :: r, h => by
  unfold freeLo at h
  rw [List.filter_cons] at h
  split at h
  ·rename_i hk
   unfold getLo at h ⊢
   split at h
   ·rename_i e; subst e; rw [if_pos rfl]; exact ⟨by simpa using hk, h⟩
   ·rename_i e; rw [if_neg e]; exact getLo_free h
  ·rename_i hk
   obtain ⟨h1, h2⟩ := getLo_free (lo := r) h
   refine ⟨h1, ?_⟩
   unfold getLo
   split
   ·rename_i e; subst e; rw [h1] at hk; simp at hk
   ·exact h2
structure CompOK (S outer : Scope) (x : Str) (iter : Expr) : Prop where
 kind : S.kind = .function
 cell : ∀ p ∈ S.names, p.2 ≠ .cell
 loc : ∀ p ∈ S.names, p.2 = .local → S.names.lookup p.1 = some .local
 lx : S.names.lookup x = some .local
 dbg : (x == ("__debug__" : Str)) = false
 free : ∀ p ∈ S.names, p.2 = .free → outer.names.lookup p.1 = some .cell
 it : ∀ a b d, iter ≠ .Set a b d
theorem compOK_of {S outer : Scope} {x : Str} {iter : Expr} (h : compOK S outer x iter = true) : CompOK S outer x iter := by
 unfold compOK at h
 simp only [Bool.and_eq_true, List.all_eq_true, beq_iff_eq, Bool.not_eq_true', Bool.or_eq_true, beq_eq_false_iff_ne] at h
 obtain ⟨⟨⟨⟨⟨⟨⟨h1, h2⟩, h3⟩, h4⟩, h5⟩, h6⟩, h7⟩, h8⟩ := h
 refine ⟨h1, h2, fun p hp e => (h3 p hp).elim (fun q => absurd e q) id, h4, ?_, fun p hp e => (h6 p hp).elim (fun q => absurd e q) id, ?_⟩
 ·simpa using h5
 ·rintro a b d rfl; exact nomatch h8
section
variable {c : Cx} {C : Cfg} {n : Nat} {A : Around} {env : Env} {L : Addr} {s : Shared} {g : Gh} {lo : Lo} {m : Mem} {R : Rec} {X : Addr → Prop}
theorem Iter.self (I : Inv c A g s m) {it : Addr} {xs : List AV} (i : Iter c.w.params g s.heap it xs) {Q : Value → Shared → Prop} {E : Value → Shared → Prop} (hQ : Q (.ref it) s) : wpAny (model pw c.w) A (pyIter (.ref it)) Q E s := by
 cases i with
 | lst f i _ _ => exact wpAny_pyIter_listiter i hQ
 | tup f i _ _ => exact wpAny_pyIter_tupleiter i hQ
 | rng i _ => exact wpAny_pyIter_rangeiter i hQ
theorem Iter.liv {P : Params} {h : Heap} {it : Addr} {xs : List AV} (i : Iter P g h it xs) : Liv h it := by
 cases i with
 | lst _ i _ _ => exact ⟨_, i.choose_spec.1⟩
 | tup _ i _ _ => exact ⟨_, i.choose_spec.1⟩
 | rng i _ => exact ⟨_, i⟩
theorem push_but (h : Heap) (o : Obj) : Heap.ExtBut h.objs.size h (h.push o) := fun _ _ _ e => Heap.get?_push_of_some _ e
theorem Inv.notFr (I : Inv c A g s m) {p : Addr} (h : ¬ Liv s.heap p) : ¬ IsFr A p := fun q => h (I.fr_live q).1
structure CompEnd (c : Cx) (A : Around) (g : Gh) (s : Shared) (K : List AV × Mem → Prop) (D C' : Addr) (s' : Shared) : Prop where
 done : ∃ g' m' xs ys, Ext A (Liv s.heap) noX g s g' s' ∧ Inv c A g' s' m' ∧ Reps c.w.params g' xs ys ∧ s'.heap.PlainList D ys.toArray ∧ ys.length ≤ 1000 ∧ Priv g' s'.heap D ∧ Priv g' s'.heap C' ∧ K (xs, m')
 nd : ¬ Liv s.heap D
 nc : ¬ Liv s.heap C'
 ne : D ≠ C'
 nf : ¬ IsFr A D ∧ ¬ IsFr A C'
 ns : ∃ mm, s'.heap.Ns C' mm
theorem items_len {a : AV} {xs : List AV} (hi : itemsOf a = some xs) (hz : itemsReq a) : xs.length ≤ 1000 := by
 cases a with
 | tup => rw [← Option.some.inj hi]; exact hz
 | lst => rw [← Option.some.inj hi]; exact hz
 | «ints» => rw [← Option.some.inj hi, List.length_map]; exact hz
 | rng lo hi' => obtain ⟨rfl, _, z3⟩ := hz; rw [← Option.some.inj hi, List.length_map, List.length_range, Int.sub_zero]; exact Int.toNat_le.mpr z3
 | _ => exact nomatch hi
theorem clos_lookup {S : Scope} {x : Str} {iter : Expr} (hS : CompOK S C.scope x iter) (l : LocOK c C L env.cells g s lo) :
  (∀ p ∈ S.names, p.2 = .free → ∃ ca, env.cells.lookup p.1 = some ca) ∧ (∀ y ca, (closL env.cells S.names []).lookup y = some ca → env.cells.lookup y = some ca) := by
 have h1 : ∀ p ∈ S.names, p.2 = .free → ∃ ca, env.cells.lookup p.1 = some ca := fun p hp e => l.cx p.1 (hS.free p hp e)
 refine ⟨h1, fun y ca hy => ?_⟩
 rcases closL_mem (mem_of_lookup hy) with q | ⟨q1, q2⟩
 ·cases q
 ·obtain ⟨cb, hb⟩ := h1 _ q1 rfl
  rw [hb] at q2 ⊢
  exact congrArg some q2
theorem comp_loc {S : Scope} {x : Str} {iter : Expr} (hS : CompOK S C.scope x iter) (hk : C.scope.kind = .function) (l : LocOK c C L env.cells g s lo) {C' : Addr} {mm : Str → Option Value} (hn : s.heap.Ns C' mm) (p : Priv g s.heap C') (np : ¬ OwnA L env.cells C') :
  LocOK c { C with scope := relabelS S C.scope } C' (closL env.cells S.names []) g s (freeLo S lo) := by
 obtain ⟨h1, h2⟩ := clos_lookup hS l
 obtain ⟨m0, l1, l2⟩ := l.ns
 have relab : ∀ y, (relabelS S C.scope).names.lookup y = some .cell → S.names.lookup y = some .free := fun y hy => by
  rw [relabel_lookup] at hy
  obtain ⟨k, hk1, hk2⟩ := Option.map_eq_some_iff.mp hy
  split at hk2
  ·rename_i q; simp only [Bool.and_eq_true, beq_iff_eq] at q; rw [hk1, q.1.1]
  ·exact absurd hk2 (hS.cell _ (mem_of_lookup hk1))
 refine ⟨⟨mm, hn, fun y v hy => ?_⟩, p.nf, p.nt, fun y ca hy => ?_, fun y hy => ?_, fun y z ca q1 q2 => l.cd y z ca (h2 _ _ q1) (h2 _ _ q2)⟩
 ·obtain ⟨f1, f2⟩ := getLo_free hy
  obtain ⟨b1, b2⟩ := l2 y v f2
  refine ⟨b1, .inr ?_⟩
  have hout := hS.free _ (mem_of_lookup f1) rfl
  rcases b2 with ⟨q, _⟩ | ⟨ca, u, _, q2, q3, q4⟩
  ·dsimp only at hout; rw [hout] at q; cases q
  ·obtain ⟨cb, hcb⟩ := lookup_of_has (closL_has (cells := env.cells) (cs := []) (mem_of_lookup f1))
   have e := h2 _ _ hcb
   rw [q2] at e; cases e
   refine ⟨ca, u, .inl ?_, hcb, q3, q4⟩
   show (relabelS S C.scope).names.lookup y = some .cell
   rw [relabel_lookup, f1]
   dsimp only at hout
   simp [hk, hout]
 ·obtain ⟨q1, q2, q3, q4⟩ := l.cf y ca (h2 _ _ hy)
  exact ⟨fun e => np (.inr ⟨y, e ▸ h2 _ _ hy⟩), q2, q3, q4⟩
 ·exact lookup_of_has (closL_has (mem_of_lookup (relab y hy)))
noncomputable abbrev cenvOf (S : Scope) (C' : Addr) (env : Env) : Env := compEnvC S (closL env.cells S.names []) C' env
structure LoopC (CC : Cfg) (n : Nat) (A : Around) (env : Env) (C' it D : Addr) (s0 : Shared) (lo : Lo) (x : Str) : Prop where
 eo : EnvOK CC env C'
 room : Room A n
 lx : CC.scope.names.lookup x = some .local
 bx : bindable CC x = true
 hid : ∀ {y w}, getLo y lo = some w → ∀ v, getLo y (putLo x v lo) = some w
 n1 : ¬ Liv s0.heap it
 n2 : ¬ Liv s0.heap D
 n3 : ¬ Liv s0.heap C'
 d1 : it ≠ D
 d2 : it ≠ C'
 d3 : D ≠ C'
 f1 : ¬ IsFr A it
 f2 : ¬ IsFr A D
 f3 : ¬ IsFr A C'
 no : ∀ a, OwnA C' env.cells a → a ≠ it ∧ a ≠ D
structure LoopB (c : Cx) (A : Around) (g0 : Gh) (s0 : Shared) (CC : Cfg) (C' : Addr) (cl : List (Str × Addr)) (it D : Addr) (lo : Lo) (xs done : List AV) (ys : List Value) (g : Gh) (s : Shared) (m : Mem) : Prop where
 ext : Ext A (Liv s0.heap) noX g0 s0 g s
 inv : Inv c A g s m
 iter : Iter c.w.params g s.heap it xs
 lst : s.heap.PlainList D ys.toArray
 reps : Reps c.w.params g done ys
 loc : LocOK c CC C' cl g s lo
 pi : Priv g s.heap it
 pd : Priv g s.heap D
section
variable {CC : Cfg} {C' it D : Addr} {s0 : Shared} {g0 : Gh} {x : Str} {xs done : List AV} {ys : List Value} {g1 : Gh} {s1 : Shared} {m1 : Mem}
theorem LoopB.then (W : LoopC CC n A env C' it D s0 lo x) {lo1 : Lo} (b : LoopB c A g0 s0 CC C' env.cells it D lo1 xs done ys g s m) (e : Ext A (Liv s.heap) noX g s g1 s1) (i : Inv c A g1 s1 m1) : LoopB c A g0 s0 CC C' env.cells it D lo1 xs done ys g1 s1 m1 where
 ext := b.ext.then e
 inv := i
 iter := b.iter.mono e.gr (b.pi.same e b.pi.liv id W.f1)
 lst := b.lst.at (b.pd.same e b.pd.liv id W.f2)
 reps := b.reps.mono e.gr
 loc := b.loc.ext e b.loc.lt fun _ _ => id
 pi := (b.pi.ext e b.pi.liv id).1
 pd := (b.pd.ext e b.pd.liv id).1
theorem LoopB.at_ (W : LoopC CC n A env C' it D s0 lo x) {lo1 : Lo} (b : LoopB c A g0 s0 CC C' env.cells it D lo1 xs done ys g s m) : At c CC n A env C' s g lo1 m := ⟨W.eo, W.room, b.inv, b.loc⟩
theorem LoopB.stop (W : LoopC CC n A env C' it D s0 lo x) (b : LoopB c A g0 s0 CC C' env.cells it D lo [] done ys g s m) {K : List AV × Mem → Prop} (hK : K (done, m)) (hl : ys.length ≤ 1000) {h' : Heap} (hb : Heap.ExtBut it s.heap h') : CompEnd c A g0 s0 K D C' { s with heap := h' } := by
 obtain ⟨mm, hn, _⟩ := b.loc.ns
 have hn2 := hn.extBut hb W.d2.symm
 exact ⟨⟨g, m, done, ys, b.ext.trans (Ext.priv hb W.n1 s.toks), b.inv.priv hb b.pi.nf b.pi.nt W.f1 s.toks, b.reps, b.lst.extBut hb W.d1.symm, hl, b.pd.but hb W.d1.symm, ⟨let ⟨o, _, _, ho, _⟩ := hn2; ⟨o, ho⟩, b.loc.nf, b.loc.nt⟩, hK⟩, W.n2, W.n3, W.d3, ⟨W.f2, W.f3⟩, ⟨mm, hn2⟩⟩
theorem LoopB.next (W : LoopC CC n A env C' it D s0 lo x) {v : AV} (b : LoopB c A g0 s0 CC C' env.cells it D lo (v :: xs) done ys g s m) {px : Pos} {Q : Option Value → Shared → Prop} {Q2 : Unit → Shared → Prop} {E E2 : Value → Shared → Prop}
  (hQ : ∀ u s1, wpAny (model pw c.w) A (assign (.Name x px) env u) Q2 E2 s1 → Q (some u) s1) (hQ2 : ∀ s1, LoopB c A g0 s0 CC C' env.cells it D (putLo x v lo) xs done ys g s1 m → Q2 () s1) : wpAny (model pw c.w) A (pyNext (.ref it)) Q E s := by
 refine Iter.next b.inv b.iter fun val h1 t1 rv hit1 hs1 => hQ _ _ ?_
 have L1 := b.loc.but hs1.extBut (fun q => (W.no it q).1 rfl) t1
 refine wpAny_assign_Name (store_ok L1 W.eo.scope W.eo.kind W.eo.locals rfl W.bx rv fun p h2 t2 hp hpl hs2 hd2 hl2 L2 => hQ2 _ ?_)
 obtain rfl : p = C' := hpl W.lx
 have hit2 : Iter c.w.params g h2 it xs := hit1.mono (.refl _) fun o e => (hs2.2 it W.d2).trans e
 exact ⟨(b.ext.trans (Ext.priv (X := noX) hs1.extBut W.n1 t1)).trans (Ext.priv (X := noX) hs2.extBut W.n3 t2), (b.inv.priv hs1.extBut b.pi.nf b.pi.nt W.f1 t1).own L1 hp hs2 hd2 (t := t2), hit2, (b.lst.extBut hs1.extBut W.d1.symm).extBut hs2.extBut W.d3, b.reps, L2,
  ⟨hit2.liv, b.pi.nf, b.pi.nt⟩, (b.pd.but hs1.extBut W.d1.symm).but hs2.extBut W.d3⟩
theorem LoopB.app (W : LoopC CC n A env C' it D s0 lo x) {v r : AV} {y : Value} (b : LoopB c A g0 s0 CC C' env.cells it D (putLo x v lo) xs done ys g s m) (ry : Rep c.w.params g r y) (hl : ys.length ≤ 1000) {Q : Value → Shared → Prop} {E : Value → Shared → Prop}
  (hQ : ∀ u s1, LoopB c A g0 s0 CC C' env.cells it D lo xs (done ++ [r]) (ys ++ [y]) g s1 m → Q u s1) : wpAny (model pw c.w) A (call (.builtin "list.append") [.ref D, y]) Q E s := by
 refine wpAny_list_append_plain b.lst (fun h5 hp5 hs5 => hQ _ _ ?_) (by rw [List.size_toArray]; exact size_1000 hl)
 exact ⟨b.ext.trans (Ext.priv hs5.extBut W.n2 s.toks), b.inv.priv hs5.extBut b.pd.nf b.pd.nt W.f2 s.toks, b.iter.mono (.refl _) fun o e => (hs5.2 it W.d1).trans e, by rw [← List.push_toArray]; exact hp5, b.reps.append (.cons ry .nil),
  (b.loc.sub fun y w hy => W.hid hy v).but hs5.extBut (fun q => (W.no D q).2 rfl) s.toks, b.pi.but hs5.extBut W.d1, ⟨let ⟨nn, hn⟩ := hp5; ⟨_, hn⟩, b.pd.nf, b.pd.nt⟩⟩
theorem LoopB.old (W : LoopC CC n A env C' it D s0 lo x) {v : AV} (b : LoopB c A g0 s0 CC C' env.cells it D (putLo x v lo) xs done ys g s m) : LoopB c A g0 s0 CC C' env.cells it D lo xs done ys g s m :=
 ⟨b.ext, b.inv, b.iter, b.lst, b.reps, b.loc.sub fun y w hy => W.hid hy v, b.pi, b.pd⟩
theorem len_le {a b k : Nat} (h : a + k ≤ 1000) (e : b + 1 = k) : b < k ∧ a + b ≤ 1000 ∧ a + 1 + b ≤ 1000 ∧ a ≤ 1000 := by lia
theorem comp_loop' {F : List AV → Mem → T (List AV × Mem)} {tt : Lo → Mem → T (Bool × Mem)} {ee : Lo → Mem → T (AV × Mem)} {elt iter : Expr} {ifs : List Expr} {px pos : Pos} {S : Scope} (W : LoopC CC n A env C' it D s0 lo x)
  (hn : ∀ m, F [] m = .leaf ([], m)) (hc : ∀ {v vs m K KX}, (F (v :: vs) m).All K KX → ((tt (putLo x v lo) m).bind fun b => T.ite b.1 ((ee (putLo x v lo) b.2).bind fun y => (F vs y.2).bind fun r => .leaf (y.1 :: r.1, r.2)) (F vs b.2)).All K KX)
  (he : ∀ {s g lo m}, At c CC n A env C' s g lo m → Tri c A noX s g (eval elt env) (RepR c) (ee lo m))
  (ht : ∀ {s g lo m} {Q : Bool → Shared → Prop} {E : Value → Shared → Prop} {K : Bool × Mem → Prop}, At c CC n A env C' s g lo m → (tt lo m).All K (fun _ _ => False) → (∀ b s1 g1 m1, Ext A (Liv s.heap) noX g s g1 s1 → Inv c A g1 s1 m1 → K (b, m1) → Q b s1) →
   wpAny (model pw c.w) A (forIn ifs true fun c r => if r = true then do let ok ← isTrue c env (eval c env); pure (ForInStep.yield ok) else pure (ForInStep.yield r)) Q E s)
  {K : List AV × Mem → Prop} {RR : Result → Shared → Prop} (hRR : ∀ s', CompEnd c A g0 s0 K D C' s' → RR (.ok .next) s')
  (hlen : xs.length ≤ 1000) (hA : (F xs m).All K (fun _ _ => False)) (hB : LoopB c A g0 s0 CC C' env.cells it D lo xs [] [] g s m) :
  codeAny (model pw c.w) A (.compLoop (.ListComp elt [⟨.Name x px, iter, ifs, 0⟩] S pos) 0 (.ref it) (.ref D) env) RR s := by
 obtain ⟨J, hJ⟩ : ∃ J : Nat → Shared → Prop, ∀ k s', J k s' ↔ ∃ g' m' xs' done ys, LoopB c A g0 s0 CC C' env.cells it D lo xs' done ys g' s' m' ∧ xs'.length = k ∧ done.length + k ≤ 1000 ∧ (F xs' m').All (fun r => K (done ++ r.1, r.2)) (fun _ _ => False) := ⟨_, fun _ _ => Iff.rfl⟩
 refine codeAny_compLoop_tests J (fun k s' h => ?_) xs.length ((hJ _ _).mpr ⟨g, m, xs, [], [], hB, rfl, by rw [List.length_nil, Nat.zero_add]; exact hlen, hA⟩)
 obtain ⟨g', m', xs', done, ys, b, hk, hl, hA'⟩ := (hJ _ _).mp h
 cases xs' with
 | nil =>
  refine Iter.stop b.inv W.room.1 b.iter fun h' hb => hRR _ (b.stop W ?_ (by rw [b.reps.length]; exact Nat.le_trans (Nat.le_add_right ..) hl) hb)
  rw [hn] at hA'
  rw [← List.append_nil done]; exact hA'
 | cons v vs =>
  obtain ⟨l1, l2, l3, l4⟩ := len_le hl hk
  refine b.next W (fun u s1 q => q) fun s2 b2 => ?_
  refine ht (b2.at_ W) (T.all_bind.mp (hc hA')) fun bb s3 g3 m3 e3 i3 hA3 => ?_
  have b3 := b2.then W e3 i3
  cases bb with
  | false =>
   rw [if_neg (by decide)]
   exact ⟨vs.length, l1, (hJ _ _).mpr ⟨g3, m3, vs, done, ys, b3.old W, rfl, l2, hA3.2 rfl⟩⟩
  | true =>
   rw [if_pos rfl]
   refine he (b3.at_ W) _ _ _ _ (T.all_bind.mp (hA3.1 rfl)) (fun y r s4 g4 m4 e4 i4 r4 k4 => ?_) fun _ _ _ _ _ _ _ _ h => h.elim
   have b4 := b3.then W e4 i4
   refine b4.app W r4 (by rw [b4.reps.length]; exact l4) fun _ s5 b5 => ⟨vs.length, l1, (hJ _ _).mpr ⟨g4, m4, vs, done ++ [r], ys ++ [y], b5, rfl, by rw [List.length_append, List.length_singleton]; exact l3, (T.all_bind.mp k4).mono (fun a ha => ?_) fun _ _ h => h⟩⟩
   rw [List.append_assoc]; exact ha
end
theorem comp_loop (hR : SoundE c C n R) {s0 : Shared} {g0 : Gh} (ho : EnvOK C env L) (hroom : Room A n) {S : Scope} {x : Str} {iter elt : Expr} {ifs : List Expr} {px pos : Pos} (hS : CompOK S C.scope x iter)
  {it D C' : Addr} (n1 : ¬ Liv s0.heap it) (n2 : ¬ Liv s0.heap D) (n3 : ¬ Liv s0.heap C') (d1 : it ≠ D) (d2 : it ≠ C') (d3 : D ≠ C') (f1 : ¬ IsFr A it) (f2 : ¬ IsFr A D) (f3 : ¬ IsFr A C')
  {K : List AV × Mem → Prop} {RR : Result → Shared → Prop} (hRR : ∀ s', CompEnd c A g0 s0 K D C' s' → RR (.ok .next) s')
  (xs : List AV) (hlen : xs.length ≤ 1000) (hA : (compL R (relabelS S C.scope) x ifs elt (freeLo S lo) xs m).All K (fun _ _ => False))
  (Es : Ext A (Liv s0.heap) noX g0 s0 g s) (I : Inv c A g s m) (hit : Iter c.w.params g s.heap it xs) (hD : s.heap.PlainList D #[]) (hL : LocOK c { C with scope := relabelS S C.scope } C' (closL env.cells S.names []) g s (freeLo S lo))
  (p1 : Priv g s.heap it) (p2 : Priv g s.heap D) (no : ∀ a, OwnA C' (closL env.cells S.names []) a → a ≠ it ∧ a ≠ D) :
  codeAny (model pw c.w) A (.compLoop (.ListComp elt [⟨.Name x px, iter, ifs, 0⟩] S pos) 0 (.ref it) (.ref D) (cenvOf S C' env)) RR s := by
 have hxl : (relabelS S C.scope).names.lookup x = some .local := by rw [relabel_lookup, hS.lx]; rfl
 have W : LoopC { C with scope := relabelS S C.scope } n A (cenvOf S C' env) C' it D s0 (freeLo S lo) x := ⟨⟨by rw [← ho.scope]; rfl, hS.kind, rfl, ho.globals, ho.builtins⟩, hroom, hxl, by unfold bindable; rw [hS.dbg, hxl]; rfl,
  fun {y w} hy v => by
   rw [getLo_put, if_neg, hy]
   rintro rfl
   exact (nomatch hS.lx.symm.trans (getLo_free hy).1), n1, n2, n3, d1, d2, d3, f1, f2, f3, no⟩
 refine comp_loop' (F := compL R (relabelS S C.scope) x ifs elt (freeLo S lo)) (tt := fun lo m => testsC R (relabelS S C.scope) lo ifs m) (ee := fun lo m => R.cev (relabelS S C.scope) elt lo m) W (fun _ => rfl) compL_cons (fun h => hR.cev _ h elt) (fun {s g lo m Q E K} h hA k => ?_) hRR hlen hA ⟨Es, I, hit, hD, .nil, hL, p1, p2⟩
 cases ifs with
 | nil => exact wpAny_tests_nil (k true _ _ _ (.refl ..) h.inv hA)
 | cons e r =>
  cases r with
  | nil => exact wpAny_tests_one (hR.ctr _ h e _ _ _ _ hA (fun b b' s3 g3 m3 e3 i3 r3 k3 => k b s3 g3 m3 e3 i3 ((show b = b' from r3) ▸ k3)) fun _ _ _ _ _ _ _ _ h => h.elim)
  | cons _ _ => exact hA.elim
end
section
variable {c : Cx} {C : Cfg} {n : Nat} {A : Around} {env : Env} {L : Addr} {s : Shared} {g : Gh} {lo : Lo} {m : Mem} {R : Rec} {X : Addr → Prop}
theorem Iter.push {P : Params} {h : Heap} {it : Addr} {xs : List AV} (i : Iter P g h it xs) (o : Obj) : Iter P g (h.push o) it xs := i.mono (.refl _) fun _ e => Heap.get?_push_of_some _ e
theorem comp_block (hR : SoundE c C n R) (h : At c C n A env L s g lo m) {S : Scope} {x : Str} {iter elt : Expr} {ifs : List Expr} {px pos : Pos} (hS : CompOK S C.scope x iter) {a : AV} {u : Value} {xs : List AV}
  (r : Rep c.w.params g a u) (hi : itemsOf a = some xs) (hz : itemsReq a) {K : List AV × Mem → Prop} (hA : (compL R (relabelS S C.scope) x ifs elt (freeLo S lo) xs m).All K (fun _ _ => False))
  {RR : Value → Addr → Result → Shared → Prop} {E : Value → Shared → Prop}
  (hRR : ∀ D C' s', CompEnd c A g s K D C' s' → RR (.ref D) C' (.ok .next) s') :
  wpAny (model pw c.w) A (pyIter u) (fun it s₂ => wpAny (model pw c.w) A (newList []) (fun acc s₃ => wpAny (model pw c.w) A (newFunctionEnv S env.globals (closL env.cells S.names []) [] env.qual none .none (some env)) (fun cenv s₄ =>
   codeAny (model pw c.w) A (.compStart (.ListComp elt [⟨.Name x px, iter, ifs, 0⟩] S pos) 0 it acc { cenv with scope := relabel S env }) (RR acc cenv.locals) s₄) E s₃) E s₂) E s := by
 have I := h.inv
 refine iter_made I r hi hz fun o hof hit => ?_
 have a1 : ¬ Liv s.heap s.heap.objs.size := notLiv _
 have a2 : ¬ Liv s.heap (s.heap.push o).objs.size := fun q => notLiv _ (q.push o)
 refine wpAny_newList ?_ (by decide)
 refine wpAny_newFunctionEnv hS.cell (by intro y hy; cases hy) (fun h₁ hns₁ hsb₁ => ?_) hS.kind
 dsimp only at hns₁ hsb₁ ⊢
 generalize ho2 : ({ cls := .type "list", data := .seq ([] : List Value).toArray } : Obj) = o2 at hns₁ hsb₁ ⊢
 generalize ho3 : ({ cls := .type (if (some env).isSome then "dict" else "frame"), data := .dict #[] } : Obj) = o3 at hsb₁
 have a3 : ¬ Liv s.heap ((s.heap.push o).push o2).objs.size := fun q => notLiv _ ((q.push o).push o2)
 have e1 : (s.heap.push o).objs.size = s.heap.objs.size + 1 := Heap.size_push ..
 have e2 : ((s.heap.push o).push o2).objs.size = s.heap.objs.size + 2 := by rw [Heap.size_push, e1]
 generalize hC' : ((s.heap.push o).push o2).objs.size = C' at hns₁ hsb₁ a3 e2 ⊢
 generalize hD : (s.heap.push o).objs.size = D at a2 e1 ⊢
 generalize hI : s.heap.objs.size = it at hit a1 e1 e2 ⊢
 have d1 : it ≠ D := by simp_all
 have d2 : it ≠ C' := by simp_all
 have d3 : D ≠ C' := by simp_all
 have old : ∀ b o', ((s.heap.push o).push o2).get? b = some o' → h₁.get? b = some o' := fun b o' e => (hsb₁.2 b (fun q => absurd (Heap.lt_size e) (by rw [q, hC']; exact Nat.lt_irrefl _))).trans (Heap.get?_push_of_some _ e)
 have old0 : ∀ b o', s.heap.get? b = some o' → h₁.get? b = some o' := fun b o' e => old b o' (Heap.get?_push_of_some _ (Heap.get?_push_of_some _ e))
 have oit : h₁.get? it = some o := old _ _ (Heap.get?_push_of_some _ (by rw [← hI]; exact Heap.get?_push_size _ hof))
 have oD : h₁.get? D = some o2 := old _ _ (by rw [← hD]; exact Heap.get?_push_size _ (by rw [← ho2]; rfl))
 have fr : ∀ p, ¬ Liv s.heap p → g.F p = none ∧ p ∉ g.th.flatten ∧ ¬ IsFr A p := fun p hp => ⟨by
  cases q : g.F p with
  | none => rfl
  | some o' => exact absurd ⟨_, I.frz _ _ q⟩ hp, fun q => hp (I.free _ q).2, I.notFr hp⟩
 have hb : Heap.ExtBut C' s.heap h₁ := fun b o' _ e => old0 b o' e
 have I4 := I.priv hb (fr _ a3).1 (fr _ a3).2.1 (fr _ a3).2.2 (s.toks + 0)
 have E4 : Ext A (Liv s.heap) noX g s g { s with heap := h₁, toks := s.toks + 0 } := Ext.priv hb a3 _
 have own : ∀ b, OwnA L env.cells b → Liv s.heap b := h.loc.lt
 obtain ⟨k1, k2⟩ := clos_lookup hS h.loc
 have L4 := comp_loc hS h.eo.kind (h.loc.ext E4 h.loc.lt fun _ _ => id) (C' := C') hns₁ ⟨let ⟨_, _, _, ho, _⟩ := hns₁; ⟨_, ho⟩, (fr _ a3).1, (fr _ a3).2.1⟩ (fun q => a3 (own _ q))
 have hit4 : Iter c.w.params g h₁ it xs := hit.mono (.refl _) fun o' e => old _ _ (Heap.get?_push_of_some _ e)
 have hD4 : h₁.PlainList D #[] := ⟨0, by rw [oD, ← ho2]⟩
 have hno : ∀ a, OwnA C' (closL env.cells S.names []) a → a ≠ it ∧ a ≠ D := fun b hb => by
  rcases hb with rfl | ⟨y, hy⟩
  ·exact ⟨d2.symm, d3.symm⟩
  ·have := own _ (.inr ⟨y, k2 _ _ hy⟩)
   exact ⟨fun q => a1 (q ▸ this), fun q => a2 (q ▸ this)⟩
 have loop : codeAny (model pw c.w) A (.compLoop (.ListComp elt [⟨.Name x px, iter, ifs, 0⟩] S pos) 0 (.ref it) (.ref D) (cenvOf S C' env)) (RR (.ref D) C') { s with heap := h₁, toks := s.toks + 0 } :=
  comp_loop hR h.eo h.room hS a1 a2 a3 d1 d2 d3 (fr _ a1).2.2 (fr _ a2).2.2 (fr _ a3).2.2 (fun s' q => hRR D C' s' q) xs (items_len hi hz) hA E4 I4 hit4 hD4 L4
   ⟨⟨_, oit⟩, (fr _ a1).1, (fr _ a1).2.1⟩ ⟨⟨_, oD⟩, (fr _ a2).1, (fr _ a2).2.1⟩ hno
 exact codeAny_compStart_list loop (Iter.self I4 hit4 loop)
theorem Inv.freeze (I : Inv c A g s m) {D : Addr} {o : Obj} (hD : s.heap.get? D = some o) (p : Priv g s.heap D) (nf : ¬ IsFr A D) : Inv c A (g.put D o) s m where
 frz := fun b o' e => by
  by_cases q : b = D
  ·subst q; rw [Gh.put_self] at e; cases e; exact hD
  ·rw [Gh.put_ne q] at e; exact I.frz _ _ e
 base := fun b o' e => (Gr.put p.nf).F _ _ (I.base b o' e)
 len := I.len
 cell := fun k mo l e1 e2 => (I.cell k mo l e1 e2).mono (Gr.put p.nf) fun a _ o h => h
 nd := I.nd
 free := fun a ha => by
  obtain ⟨h1, h2⟩ := I.free a ha
  refine ⟨?_, h2⟩
  rw [Gh.put_ne (by rintro rfl; exact p.nt ha)]; exact h1
 stk := by
  obtain ⟨l, h1, h2⟩ := I.stk
  refine ⟨l, h1, fun env he => ?_⟩
  obtain ⟨a, F, o', es, n', f1, f2, f3, f4, f5⟩ := h2 env he
  exact ⟨a, F, o', es, n', f1, f2, f3, by rw [Gh.put_ne (by rintro rfl; exact nf ⟨l, env, h1, he, f1⟩)]; exact f4, f5⟩
theorem Ext.freeze {B : Addr → Prop} {D : Addr} {o : Obj} (p : g.F D = none) (nb : ¬ B D) : Ext A B X g s (g.put D o) s where
 gens := rfl
 drawn := rfl
 os := rfl
 gr := Gr.put p
 newF := fun a h h' => by
  by_cases q : a = D
  ·subst q; exact nb
  ·rw [Gh.put_ne q] at h'; exact absurd h h'
 newT := fun a h => .inl h
 keep := fun a o _ h _ _ => ⟨o.slots, h, fun _ => rfl⟩
 live := fun a _ h => h
theorem mem_cell {g : Gh} {l : List Addr} {a : Addr} : a ∈ (g.cell l).th.flatten ↔ a ∈ g.th.flatten ∨ a ∈ l := by
 show a ∈ (g.th ++ [l]).flatten ↔ _
 rw [List.flatten_append, List.mem_append]
 simp
theorem Inv.adopt (I : Inv c A g s m) {l : List Addr} {mo : MO} (hc : CellOK c.w.params g s.heap l mo) (p : ∀ a ∈ l, Priv g s.heap a ∧ ¬ IsFr A a) (nd : l.Nodup) : Inv c A (g.cell l) s (m ++ [mo]) where
 frz := I.frz
 base := I.base
 len := by show (m ++ [mo]).length = (g.th ++ [l]).length; simp [I.len]
 cell := fun k mo' l' e1 e2 => by
  have e2 : (g.th ++ [l])[k]? = some l' := e2
  by_cases q : k < m.length
  ·rw [List.getElem?_append_left q] at e1
   rw [List.getElem?_append_left (I.len ▸ q)] at e2
   exact (I.cell k mo' l' e1 e2).mono Gr.cell fun a _ o h => h
  ·have hk : k = m.length := by
    have := (List.getElem?_eq_some_iff.mp e1).1
    simp at this; lia
   subst hk
   rw [List.getElem?_append_right (Nat.le_refl _), Nat.sub_self] at e1
   rw [I.len, List.getElem?_append_right (Nat.le_refl _), Nat.sub_self] at e2
   cases e1; cases e2; exact hc.mono Gr.cell fun a _ o h => h
 nd := by
  show (g.th ++ [l]).flatten.Nodup
  rw [List.flatten_append, List.nodup_append]
  refine ⟨I.nd, by simpa using nd, fun a ha b hb => ?_⟩
  have hb : b ∈ l := by simpa using hb
  rintro rfl
  exact (p _ hb).1.nt ha
 free := fun a ha => by
  rcases mem_cell.mp ha with h | h
  ·exact I.free a h
  ·exact ⟨(p a h).1.nf, (p a h).1.liv⟩
 stk := by
  obtain ⟨fr, h1, h2⟩ := I.stk
  refine ⟨fr, h1, fun env he => ?_⟩
  obtain ⟨a, F, o', es, n', f1, f2, f3, f4, f5⟩ := h2 env he
  exact ⟨a, F, o', es, n', f1, f2, f3, f4, fun q => (mem_cell.mp q).elim f5 fun q => (p F q).2 ⟨fr, env, h1, he, f1⟩⟩
theorem Ext.adopt {B : Addr → Prop} {l : List Addr} (nb : ∀ a ∈ l, ¬ B a) : Ext A B X g s (g.cell l) s where
 gens := rfl
 drawn := rfl
 os := rfl
 gr := Gr.cell
 newF := fun a h h' => absurd h h'
 newT := fun a h => (mem_cell.mp h).imp id (nb a)
 keep := fun a o _ h _ _ => ⟨o.slots, h, fun _ => rfl⟩
 live := fun a _ h => h
theorem comp_frozen {K : List AV × Mem → Prop} {D C' : Addr} {s' : Shared} (e : CompEnd c A g s K D C' s') {h'' : Heap} (hs : Heap.SameBut C' s'.heap h'') :
  ∃ g'' m' xs, Ext A (Liv s.heap) noX g s g'' { s' with heap := h'' } ∧ Inv c A g'' { s' with heap := h'' } m' ∧ Rep c.w.params g'' (.lst xs) (.ref D) ∧ K (xs, m') := by
 obtain ⟨⟨g', m', xs, ys, E', I', r, ⟨nn, hp⟩, hz, p, pc, hk⟩, nd, nc, ne, nf, ns⟩ := e
 have I1 := I'.priv hs.extBut pc.nf pc.nt nf.2 s'.toks
 have E1 := E'.trans (Ext.priv (X := noX) (g := g') (s := s') hs.extBut nc s'.toks)
 have hD : h''.get? D = some (lstO ys nn) := (hs.2 D ne).trans hp
 exact ⟨_, m', xs, E1.trans (Ext.freeze p.nf nd), I1.freeze hD (p.but hs.extBut ne) nf.1, .lst Gh.put_self (r.mono (Gr.put p.nf)), hk⟩
theorem compT_ok {α ρ : Type} {t : Sem α} {Rl : α → ρ → Gh → Shared → Prop} {elt : Expr} {x : Str} {iter : Expr} {ifs : List Expr} {S : Scope} {φ : List AV × Mem → T (ρ × Mem)}
  (h : compOK S C.scope x iter = true → Tri c A X s g t Rl (((R.ev iter lo m).bind fun v => optT (itemsOf v.1) "comp" fun xs => .req (itemsReq v.1) (compL R (relabelS S C.scope) x ifs elt (freeLo S lo) xs v.2).quiet).bind φ)) : Tri c A X s g t Rl ((compT C R elt x iter ifs S lo m).bind φ) := by
 unfold compT
 cases hc : compOK S C.scope x iter with
 | false => exact Tri.stuck
 | true => exact h hc
theorem ev_comp (hR : SoundE c C n R) (h : At c C n A env L s g lo m) (elt : Expr) (x : Str) (px : Pos) (iter : Expr) (ifs : List Expr) (S : Scope) (pos : Pos) :
  Tri c A noX s g (eval (.ListComp elt [⟨.Name x px, iter, ifs, 0⟩] S pos) env) (RepR c) (evT C R (.ListComp elt [⟨.Name x px, iter, ifs, 0⟩] S pos) lo m) := by
 show Tri c A noX s g _ _ ((compT C R elt x iter ifs S lo m).bind fun r => .leaf (AV.lst r.1, r.2))
 refine compT_ok fun hc => ?_
 ·have hS := compOK_of hc
  intro Q E K KX hA hQ hE
  have hA := T.all_bind.mp (T.all_bind.mp hA)
  rw [eval_ListComp]
  refine wpAny_comprehension_free (use := none) (cl := closL env.cells S.names []) rfl ?_ (closureFor_eq (clos_lookup hS h.loc).1) hS.kind hS.loc ?_
  ·intro v
   show foldedSetIterable iter env v = pure v
   cases iter with
   | Set => exact absurd rfl (hS.it _ _ _)
   | _ => rfl
  ·refine (hR.ev h iter) _ _ _ _ hA (fun u a s1 g1 m1 e1 i1 r1 k1 => ?_) hE
   obtain ⟨xs, hx, k1⟩ := optT_all k1
   refine comp_block hR (h.ext e1 i1) hS r1 hx k1.1 (T.quiet_all k1.2) fun D C' s' q => ?_
   obtain ⟨mm, hns⟩ := q.ns
   refine ⟨mm, hns, fun h'' hs => ?_⟩
   obtain ⟨g2, m2, xs2, e2, i2, r2, k2⟩ := comp_frozen q hs
   exact hQ _ _ _ _ _ (e1.then e2) i2 r2 k2
end
section
variable {c : Cx} {A : Around} {s : Shared} {g : Gh} {m : Mem} {B X : Addr → Prop}
theorem flat_ix {g : Gh} {k : Nat} {l : List Addr} (h : g.th[k]? = some l) {a : Addr} (ha : a ∈ l) : a ∈ g.th.flatten := List.mem_flatten.mpr ⟨l, List.mem_of_getElem? h, ha⟩
theorem nodup_ix {ls : List (List Addr)} (nd : ls.flatten.Nodup) {i j : Nat} {l l' : List Addr} (hi : ls[i]? = some l) (hj : ls[j]? = some l') {a : Addr} (ha : a ∈ l) (hb : a ∈ l') : i = j := by
 induction ls generalizing i j with
 | nil => exact nomatch hi
 | cons x r ih =>
  rw [List.flatten_cons, List.nodup_append] at nd
  obtain ⟨n1, n2, n3⟩ := nd
  cases i with
  | zero =>
   cases j with
   | zero => rfl
   | succ j =>
    exact absurd rfl (n3 a (Option.some.inj hi ▸ ha) a (List.mem_flatten.mpr ⟨l', List.mem_of_getElem? (i := j) hj, hb⟩))
  | succ i =>
   cases j with
   | zero =>
    exact absurd rfl (n3 a (Option.some.inj hj ▸ hb) a (List.mem_flatten.mpr ⟨l, List.mem_of_getElem? (i := i) hi, ha⟩))
   | succ j => exact congrArg (· + 1) (ih (i := i) (j := j) n2 hi hj)
theorem Inv.setCell (I : Inv c A g s m) {k : Nat} {l : List Addr} {p : Addr} {mo : MO} {h' : Heap} {t : Nat} (hk : g.th[k]? = some l) (hp : p ∈ l) (hs : Heap.SameBut p s.heap h') (hl : Liv h' p)
  (hc : CellOK c.w.params g h' l mo) : Inv c A g { s with heap := h', toks := t } (m.set k mo) where
 frz := fun a o e => (hs.2 a (fun q => by rw [q, (I.free p (flat_ix hk hp)).1] at e; cases e)).trans (I.frz a o e)
 base := I.base
 len := by rw [List.length_set]; exact I.len
 cell := fun j mo' l' e1 e2 => by
  by_cases q : j = k
  ·subst q
   rw [hk] at e2; cases e2
   rw [List.getElem?_set_self (by have := (List.getElem?_eq_some_iff.mp hk).1; rw [I.len]; exact this)] at e1
   cases e1; exact hc
  ·rw [List.getElem?_set_ne (Ne.symm q)] at e1
   exact (I.cell j mo' l' e1 e2).mono (.refl g) fun a ha o e => (hs.2 a (fun z => q (nodup_ix I.nd e2 hk ha (z ▸ hp)))).trans e
 nd := I.nd
 free := fun a ha => by
  obtain ⟨h1, o, ho⟩ := I.free a ha
  refine ⟨h1, ?_⟩
  by_cases q : a = p
  ·subst q; exact hl
  ·exact ⟨o, (hs.2 a q).trans ho⟩
 stk := by
  obtain ⟨fr, h1, h2⟩ := I.stk
  refine ⟨fr, h1, fun env he => ?_⟩
  obtain ⟨a, F, o', es, n', f1, f2, f3, f4, f5⟩ := h2 env he
  exact ⟨a, F, o', es, n', f1, (hs.2 F (fun q => f5 (q ▸ flat_ix hk hp))).trans f2, f3, f4, f5⟩
theorem Ext.setCell {k : Nat} {l : List Addr} {p : Addr} {h' : Heap} {t : Nat} (hk : g.th[k]? = some l) (hp : p ∈ l) (hs : Heap.SameBut p s.heap h') (hl : Liv h' p) : Ext A B X g s g { s with heap := h', toks := t } where
 gens := rfl
 drawn := rfl
 os := rfl
 gr := .refl g
 newF := fun _ h h' => (h' h).elim
 newT := fun _ h => .inl h
 keep := fun a o _ e nt _ => ⟨o.slots, (hs.2 a (fun q => nt (q ▸ flat_ix hk hp))).trans e, fun _ => rfl⟩
 live := fun a _ ⟨o, e⟩ => by
  by_cases q : a = p
  ·subst q; exact hl
  ·exact ⟨o, (hs.2 a q).trans e⟩
theorem ents_put {P : Params} {g : Gh} {n : Str} {t : Tok} {u : Value} {v : AV} (r : Rep P g v u) : ∀ {fs : Lo} {es : List DictEntry}, Ents P g (fs.map (·.1)) es (fs.map (·.2)) →
  Ents P g ((putLo n v fs).map (·.1)) (putL n (PyData.keyHash P n) (.str n t) u es) ((putLo n v fs).map (·.2))
 | [], es, h => by rw [show es = [] from h.inv.2]; exact .cons r .nil
 | (k, w) :: fs, es, h => by
  obtain ⟨_, _, t', v', es', e, rfl, p, q⟩ := h.inv
  obtain ⟨rfl, rfl⟩ := List.cons.inj e
  unfold putLo
  show Ents P g _ (if (Value.str k t').isStr n then _ else _) _
  rw [isStr_str]
  by_cases h : n = k
  ·subst h
   rw [if_pos rfl, beq_self_eq_true, if_pos rfl]
   exact .cons r q
  ·rw [if_neg h, show (k == n) = false from beq_eq_false_iff_ne.mpr (Ne.symm h), if_neg (by decide)]
   exact .cons p (ents_put r q)
theorem ents_keys {P : Params} {g : Gh} : ∀ {xs : List AV} {fs : List Str} {es : List DictEntry}, Ents P g fs es xs → es.any (·.refKey) = false ∧ es.length = fs.length
 | [], fs, es, h => by rw [h.inv.1, h.inv.2]; exact ⟨rfl, rfl⟩
 | x :: xs, fs, es, h => by
  obtain ⟨_, _, _, _, es', rfl, rfl, _, q⟩ := h.inv
  obtain ⟨a, b⟩ := ents_keys q
  exact ⟨(congrArg (false || ·) a : _), congrArg (· + 1) b⟩
theorem getL_some {n : Str} {es : List DictEntry} (h : es.any (·.refKey) = false) : (getL n es).isSome = true := by
 unfold getL
 split
 ·rfl
 ·rw [h]; rfl
section
variable {prog : Program} {w : World} {K : Frag} {x C dx : Addr} {name : Str} {v : Value} {es : List DictEntry} {n : Nat}
theorem set_here {Q : Unit → Shared → Prop} {E : Value → Shared → Prop} (Y : K.In s.heap) (I : InstAt s.heap x (instObj C dx) C (some (dictOf es n))) (hs : findIn K (.ref C) "__setattr__" = some (some (.builtin "object.__setattr__"))) (hp : plainOver K C = true)
  (ht : takerIn K C name = some none) (hh : hasDictIn K C = true) (hr : es.any (·.refKey) = false) (hz : (putL name (PyData.keyHash w.params name) (.str name (s.toks + 1)) v es).length ≤ 1000)
  (h : ∀ h' t, Heap.SameBut dx s.heap h' → h'.get? dx = some (dictOf (putL name (PyData.keyHash w.params name) (.str name (s.toks + 1)) v es) (putN name es n)) → Q () { s with heap := h', toks := t }) :
  wpAny (model prog w) A (setAttr (.ref x) name v) Q E s := by
 obtain ⟨sh, sg, sd, st, so⟩ := s
 refine set_plain Y I hs (osa_open (s := ⟨sh, sg, sd, st + 1, so⟩) Y I hp ht fun b => ?_)
 dsimp only at hz h Y I
 obtain ⟨cd, hc, hd'⟩ := any_some hh
 obtain ⟨hx, hcl, hn, hD⟩ := I
 have hD : sh.get? dx = some (dictOf es n) := hD
 have pn := putName_dict name (PyData.keyHash w.params name) (.str name (st + 1)) v es n
 have D' := Heap.get?_update_self (Obj.putName name (PyData.keyHash w.params name) (.str name (st + 1)) v) hD (by rw [pn]; rfl)
 rw [pn] at D'
 refine wpAny_bind (wpAny_pure (wpAny_bind (wpAny_bind (wpAny_loadPart hx (wpAny_bind ((looks_clsIn (h := sh) Y hc).at ?_))))))
 rw [hd']
 refine wpAny_pure (a := some dx) (wpAny_bind (wpAny_pure (wpAny_bind ?_)))
 unfold nsSet
 refine wpAny_bind (wpAny_bind (wpAny_askSetting (wpAny_pure (wpAny_bind (wpAny_mkText (wpAny_bind (wpAny_loadPart hD ?_)))))))
 dsimp only
 have cc : (!es.toArray.any (·.key.isStr name) && es.toArray.any (·.refKey)) = false := by
  rw [← Array.any_toList, ← Array.any_toList]
  show (_ && es.any (·.refKey)) = false
  rw [hr, Bool.and_false]
 rw [aRefKeyMayBeTheName_at, cc]
 refine wpAny_updatePart hD ?_
 refine wpAny_bind (wpAny_lookBehind D' (pastItsLine_dict (by rw [List.size_toArray, sizeLine_eq]; omega)) ?_)
 exact wpAny_pure (h _ _ (Heap.SameBut.update ..) D')
end
end
end
section
open PySem PySem.W PyProof.Rows PySem.Calls
set_option backward.match.sparseCases false
noncomputable def denv (S : Scope) : Env := { scope := S, locals := 0, globals := 0, cells := [] }
theorem swapsWith_env (v : Expr) (t : Option Expr) (l : Nat) (env : Env) : swapsWith v t l env = swapsWith v t l (denv env.scope) := rfl
theorem swapped_env (t : List Expr) (v : Expr) (env : Env) : swappedStores t v env = swappedStores t v (denv env.scope) := rfl
noncomputable def isF (x : Option Bool) : Bool := x == some false
noncomputable def isT (x : Option Bool) : Bool := x == some true
noncomputable def noSwap (S : Scope) (t : Option Expr) (e : Expr) (line : Nat) : Bool := isF (pureOf (swapsWith e t line (denv S)))
theorem noSwap_of {S : Scope} {t : Option Expr} {e : Expr} {line : Nat} (h : noSwap S t e line = true) {env : Env} (he : env.scope = S) : swapsWith e t line env = pure false := by
 rw [swapsWith_env, he]; exact of_pureOf (beq_iff_eq.mp h)
noncomputable def swapOf (S : Scope) (t : Expr) (e : Expr) : Option (Option (List Str)) := pureOf (swappedStores [t] e (denv S))
theorem swapOf_of {S : Scope} {t : Expr} {e : Expr} {r : Option (List Str)} (h : swapOf S t e = some r) {env : Env} (he : env.scope = S) : swappedStores [t] e env = pure r := by
 rw [swapped_env, he]; exact of_pureOf h
noncomputable def bindNs (C : Cfg) : List Str → List AV → Lo → Option Lo
 | [], [], lo => some lo
 | [], _ :: _, _ => none
 | _ :: _, [], _ => none
 | n :: ns, v :: vs, lo => match bindable C n with
  | true => bindNs C ns vs (putLo n v lo)
  | false => none
noncomputable def namesOf : List Expr → Option (List Str)
 | [] => some []
 | e :: r => (nameV e).bind fun p => (namesOf r).map (p.1 :: ·)
noncomputable def asgT (C : Cfg) (t : Expr) (v : AV) (lo : Lo) : Option Lo := match t with
 | .Name n _ => bindNs C [n] [v] lo
 | .Tuple ts _ _ => (aTup v).bind fun xs => (namesOf ts).bind fun ns => bindNs C ns xs lo
 | _ => none
theorem bindNs_s {C : Cfg} {n : Str} {ns : List Str} {v : AV} {vs : List AV} {lo lo' : Lo} (h : bindNs C (n :: ns) (v :: vs) lo = some lo') : bindable C n = true ∧ bindNs C ns vs (putLo n v lo) = some lo' := by
 unfold bindNs at h
 cases q : bindable C n with
 | true => rw [q] at h; exact ⟨rfl, h⟩
 | false => rw [q] at h; exact nomatch h
inductive FlOK (P : Params) (g : Gh) : Flow → Fl → Prop
 | next : FlOK P g .next .next
 | brk : FlOK P g .brk .brk
 | cont : FlOK P g .cont .cont
 | ret {u : Value} {v : AV} : Rep P g v u → FlOK P g (.ret u) (.ret v)
theorem FlOK.mono {P : Params} {g g' : Gh} (gr : Gr g g') {a : Flow} {b : Fl} : FlOK P g a b → FlOK P g' a b
 | .next => .next
 | .brk => .brk
 | .cont => .cont
 | .ret r => .ret (r.mono gr)
noncomputable def FlowR (c : Cx) (C : Cfg) (L : Addr) (cl : List (Str × Addr)) : Flow → Fl × Lo → Gh → Shared → Prop := fun f x g s => FlOK c.w.params g f x.1 ∧ LocOK c C L cl g s x.2
section
variable {c : Cx} {C : Cfg} {n : Nat} {A : Around} {env : Env} {L : Addr} {s : Shared} {g : Gh} {lo lo' : Lo} {m : Mem} {R : Rec} {B X : Addr → Prop}
theorem At.to {s' : Shared} {g' : Gh} {m' : Mem} (h : At c C n A env L s g lo m) (I : Inv c A g' s' m') (l : LocOK c C L env.cells g' s' lo') : At c C n A env L s' g' lo' m' := ⟨h.eo, h.room, I, l⟩
theorem Ext.noX (x : Ext A B Mine.noX g s g' s') : Ext A B X g s g' s' := x.weaken (fun _ h => h) fun _ h => h.elim
theorem Post.noX {α ρ : Type} {R : α → ρ → Gh → Shared → Prop} {K : ρ × Mem → Prop} {Q : α → Shared → Prop} (h : Post c A X s g R K Q) : Post c A Mine.noX s g R K Q := fun a r s' g' m' x => h a r s' g' m' x.noX
theorem PostX.noX {KX : AV → Mem → Prop} {E : Value → Shared → Prop} (h : PostX c A X s g KX E) : PostX c A Mine.noX s g KX E := fun e r s' g' m' x => h e r s' g' m' x.noX
theorem Tri.weak {α ρ : Type} {t : Sem α} {R : α → ρ → Gh → Shared → Prop} {τ : T (ρ × Mem)} (h : Tri c A noX s g t R τ) : Tri c A X s g t R τ := fun Q E K KX hA hQ hE => h Q E K KX hA hQ.noX hE.noX
inductive Stores (env : Env) : List (Value → Sem Unit) → List Str → Prop
 | nil : Stores env [] []
 | cons {t ts x xs} : (∀ {M A Q E s u}, wpAny M A (storeName env x u) Q E s → wpAny M A (t u) Q E s) → Stores env ts xs → Stores env (t :: ts) (x :: xs)
noncomputable def Bound (c : Cx) (C : Cfg) (A : Around) (L : Addr) (cl : List (Str × Addr)) (s : Shared) (g : Gh) (m : Mem) (lo : Lo) (Q : Unit → Shared → Prop) : Prop :=
 ∀ s', Ext A (Liv s.heap) (OwnA L cl) g s g s' → Inv c A g s' m → LocOK c C L cl g s' lo → Q () s'
theorem stores_ok {ts : List (Value → Sem Unit)} {ns : List Str} (hs : Stores env ts ns) {xs : List AV} {us : List Value} {Q : Unit → Shared → Prop} {E : Value → Shared → Prop} (h : At c C n A env L s g lo m) (r : Reps c.w.params g xs us) (hb : bindNs C ns xs lo = some lo')
  (hQ : Bound c C A L env.cells s g m lo' Q) : wpAny (model pw c.w) A (assignInOrder ts us) Q E s := by
 induction hs generalizing xs us s lo with
 | nil =>
  cases xs with
  | nil =>
   rw [show us = [] from r.inv]
   exact wpAny_pure (hQ s (.refl ..) h.inv (Option.some.inj hb ▸ h.loc))
  | cons _ _ => exact nomatch hb
 | cons ht _ ih =>
  cases xs with
  | nil => exact nomatch hb
  | cons v xs =>
   obtain ⟨_, _, rfl, ru, rs⟩ := r.inv
   obtain ⟨hbx, hb⟩ := bindNs_s hb
   refine assignInOrder_cons (ht (store_ok h.loc h.eo.scope h.eo.kind h.eo.locals rfl hbx ru fun p h' t hp _ hsb hd hl L2 => ?_))
   exact ih (h.to (h.inv.own h.loc hp hsb hd (t := t)) L2) rs hb fun s' e i l => hQ s' ((Ext.own' hp hsb hl).then e) i l
theorem asg_each : ∀ {ts : List Expr} {ns : List Str}, namesOf ts = some ns → Stores env ((assignEach ts env).map (·.2)) ns ∧ (assignEach ts env).findIdx? (·.1) = none ∧ (assignEach ts env).length = ns.length
 | [], _, h => by rw [← Option.some.inj h]; exact ⟨.nil, rfl, rfl⟩
 | t :: r, ns, h => by
  obtain ⟨p, h1, h⟩ := bind_s h
  obtain ⟨ns', h2, rfl⟩ := map_s h
  obtain ⟨a, b, d⟩ := asg_each h2
  rw [nameV_s h1]
  refine ⟨.cons (fun q => assign_Name q) a, ?_, congrArg (· + 1) d⟩
  show List.findIdx? _ ((false, _) :: assignEach r env) = none
  rw [List.findIdx?_cons, b]; rfl
theorem bindNs_len : ∀ {ns : List Str} {xs : List AV} {lo lo' : Lo}, bindNs C ns xs lo = some lo' → ns.length = xs.length
 | [], [], _, _, _ => rfl
 | n :: ns, v :: vs, _, _, h => congrArg (· + 1) (bindNs_len (bindNs_s h).2)
 | [], _ :: _, _, _, h => nomatch h
 | _ :: _, [], _, _, h => nomatch h
theorem At.priv (h : At c C n A env L s g lo m) {h' : Heap} (hs : Heap.ExtBut s.heap.objs.size s.heap h') : At c C n A env L { s with heap := h' } g lo m ∧ Ext A (Liv s.heap) X g s g { s with heap := h' } :=
 ⟨h.to (h.inv.priv hs h.inv.fresh h.inv.freshT (h.inv.notFr (notLiv _)) s.toks) (h.loc.but hs (fun q => notLiv _ (h.loc.lt _ q)) s.toks), Ext.priv hs (notLiv _) s.toks⟩
theorem asg_ok (h : At c C n A env L s g lo m) {t : Expr} {v : AV} {u : Value} (r : Rep c.w.params g v u) (ha : asgT C t v lo = some lo') {Q : Unit → Shared → Prop} {E : Value → Shared → Prop}
  (hQ : Bound c C A L env.cells s g m lo' Q) : wpAny (model pw c.w) A (assign t env u) Q E s := by
 cases t with
 | Name x p =>
  obtain ⟨hbx, hb⟩ := bindNs_s ha
  exact assign_Name (store_ok h.loc h.eo.scope h.eo.kind h.eo.locals rfl hbx r fun p h' t hp _ hsb hd hl L2 => hQ _ (Ext.own' hp hsb hl) (h.inv.own h.loc hp hsb hd) (Option.some.inj hb ▸ L2))
 | Tuple ts k p =>
  obtain ⟨xs, hx, ha⟩ := bind_s ha
  obtain ⟨ns, hns, ha⟩ := bind_s ha
  rw [aTup_s hx] at r
  obtain ⟨vs, a, k, rfl, f, r⟩ := r.inv
  obtain ⟨s1, s2, s3⟩ := asg_each (env := env) hns
  refine wpAny_assign_Tuple h.room.1 (h.inv.tuple f) (by rw [s3, bindNs_len ha, List.size_toArray, r.length]) s2 fun h' hb => ?_
  obtain ⟨h1, e1⟩ := h.priv (X := OwnA L env.cells) hb
  exact stores_ok s1 h1 r ha fun s' e i l => hQ s' (e1.then e) i l
 | _ => exact nomatch ha
end
end
section
open PySem PySem.W PyProof.Rows PySem.Calls
set_option backward.match.sparseCases false
noncomputable def leafN (lo : Lo) (m : Mem) : T ((Fl × Lo) × Mem) := .leaf ((.next, lo), m)
noncomputable def hndInst (m : Mem) (k : Nat) : Option (Addr × Lo) := m[k]?.bind fun mo => match mo with
 | .inst C fs => some (C, fs)
 | _ => none
theorem hndInst_s {m : Mem} {k : Nat} {p : Addr × Lo} (h : hndInst m k = some p) : m[k]? = some (.inst p.1 p.2) := by
 obtain ⟨mo, h1, h2⟩ := bind_s h
 cases mo with
 | inst => rw [h1, ← Option.some.inj h2]
 | _ => exact nomatch h2
noncomputable def setT (o : AV) (n : Str) (v : AV) (lo : Lo) (m : Mem) : T ((Fl × Lo) × Mem) := optT (aHnd o) "set" fun k => optT (hndInst m k) "set" fun p => condT (known p.1 && (flds p.1).contains n && Nat.blt p.2.length 60) "set" (leafN lo (m.set k (.inst p.1 (putLo n v p.2))))
noncomputable def setItemT (o i v : AV) (lo : Lo) (m : Mem) : T ((Fl × Lo) × Mem) := optT (aHnd o) "setItem" fun k => optT (aInt i) "setItem" fun j => optT (lstOf m k) "setItem" fun xs =>
 condT (decide (0 ≤ j) && Nat.blt j.toNat xs.length && Nat.blt xs.length 1000) "setItem" (leafN lo (m.set k (.lst (xs.set j.toNat v))))
noncomputable def mutB (C : Cfg) (t : Expr) : Bool := match nameV t with
 | some p => C.mutN.any (fun k => p.1 == Str.ofString k)
 | none => false
noncomputable def bindT (C : Cfg) (t : Expr) (v : AV) (lo : Lo) (m : Mem) : T ((Fl × Lo) × Mem) := optT (asgT C t v lo) "bind" fun lo' => leafN lo' m
noncomputable def compSwap (S : Scope) (t e : Expr) (line : Nat) : Bool := isT (pureOf (swapsWith e (some t) line (denv S)))
noncomputable def isNT (t : Expr) : Bool := match t with
 | .Name .. => true
 | .Tuple .. => true
 | _ => false
noncomputable def listV (e : Expr) : Option (List Expr × Pos) := match e with
 | .List es p => some (es, p)
 | _ => none
noncomputable def isPl (x : Option (Option (List Str))) : Bool := match x with
 | some o => o.isNone
 | none => false
noncomputable def plainA (C : Cfg) (t e : Expr) (line : Nat) : Bool := noSwap C.scope (some t) e line && isPl (swapOf C.scope t e)
noncomputable def bindLC (C : Cfg) (t : Expr) (mu : Bool) (lo : Lo) (r : List AV × Mem) : T ((Fl × Lo) × Mem) := match mu with
 | true => bindT C t (.hnd r.2.length) lo (r.2 ++ [.lst r.1])
 | false => bindT C t (.lst r.1) lo r.2
noncomputable def asgP (C : Cfg) (R : Rec) (t e : Expr) (lo : Lo) (m : Mem) (o : Option (List Str)) : T ((Fl × Lo) × Mem) := match o with
 | none => condT (isNT t) "assign" ((R.ev e lo m).bind fun v => bindT C t v.1 lo v.2)
 | some ns => (R.ev e lo m).bind fun v => optT (aTup v.1) "assign" fun xs => optT (bindNs C ns.reverse xs.reverse lo) "assign" fun lo' => leafN lo' v.2
noncomputable def nmAsg (C : Cfg) (R : Rec) (t e : Expr) (line : Nat) (lo : Lo) (m : Mem) : T ((Fl × Lo) × Mem) := match compV e with
 | some a => condT (compSwap C.scope t e line && (nameV t).isSome) "assign" ((compT C R a.elt a.x a.iter a.ifs a.S lo m).bind fun r => bindLC C t (mutB C t) lo r)
 | none => match mutB C t with
  | true => optT (listV e) "assign" fun p => condT (plainA C t e line && (nameV t).isSome && Nat.blt p.1.length 60) "assign" ((evs R p.1 lo m).bind fun r => bindT C t (.hnd r.2.length) lo (r.2 ++ [.lst r.1]))
  | false => condT (noSwap C.scope (some t) e line) "assign" (optT (swapOf C.scope t e) "assign" (asgP C R t e lo m))
noncomputable def exAsg (C : Cfg) (R : Rec) (t e : Expr) (line : Nat) (lo : Lo) (m : Mem) : T ((Fl × Lo) × Mem) := match t with
 | .Attribute o n _ => condT (plainA C t e line) "assign" ((R.ev e lo m).bind fun v => (R.ev o lo v.2).bind fun x => setT x.1 n v.1 lo x.2)
 | .Subscript o i _ => condT (plainA C t e line) "assign" ((R.ev e lo m).bind fun v => (R.ev o lo v.2).bind fun x => (R.ev i lo x.2).bind fun y => setItemT x.1 y.1 v.1 lo y.2)
 | _ => nmAsg C R t e line lo m
noncomputable def forL (C : Cfg) (R : Rec) (t : Expr) (body : List Stmt) : List AV → Lo → Mem → T ((Fl × Lo) × Mem)
 | [], lo, m => leafN lo m
 | v :: vs, lo, m => optT (asgT C t v lo) "for" fun lo' => (R.exs body lo' m).bind fun x => match x.1.1 with
   | .next => forL C R t body vs x.1.2 x.2
   | .cont => forL C R t body vs x.1.2 x.2
   | .brk => leafN x.1.2 x.2
   | .ret v => .leaf ((.ret v, x.1.2), x.2)
noncomputable def whileL (R : Rec) (t : Expr) (body : List Stmt) : Nat → Lo → Mem → T ((Fl × Lo) × Mem)
 | 0, _, _ => .stuck "while"
 | k + 1, lo, m => (R.tr t lo m).bind fun b => .ite b.1 ((R.exs body lo b.2).bind fun x => match x.1.1 with
   | .next => whileL R t body k x.1.2 x.2
   | .cont => whileL R t body k x.1.2 x.2
   | .brk => leafN x.1.2 x.2
   | .ret v => .leaf ((.ret v, x.1.2), x.2)) (leafN lo b.2)
noncomputable def retE (R : Rec) (e : Option Expr) (lo : Lo) (m : Mem) : T ((Fl × Lo) × Mem) := match e with
 | some e => (R.ev e lo m).bind fun x => .leaf ((.ret x.1, lo), x.2)
 | none => .leaf ((.ret .none, lo), m)
noncomputable def exT (C : Cfg) (R : Rec) (st : Stmt) (lo : Lo) (m : Mem) : T ((Fl × Lo) × Mem) := match st with
 | .Pass _ => leafN lo m
 | .Break _ => .leaf ((.brk, lo), m)
 | .Continue _ => .leaf ((.cont, lo), m)
 | .Return e _ => retE R e lo m
 | .Expr e p => condT (noSwap C.scope none e p.line) "expr" ((R.ev e lo m).bind fun x => leafN lo x.2)
 | .If t b o _ => (R.tr t lo m).bind fun x => .ite x.1 (R.exs b lo x.2) (R.exs o lo x.2)
 | .Assign ts e p => optT (oneV ts) "stmt" fun t => exAsg C R t e p.line lo m
 | .For t it b o _ => condT o.isEmpty "stmt" (condT (!isSet it) "for" ((R.ev it lo m).bind fun v => optT (itemsOf v.1) "for" fun xs => .req (itemsReq v.1) (forL C R t b xs lo v.2).quiet))
 | .While t b o _ => condT o.isEmpty "stmt" (whileL R t b C.wf lo m).quiet
 | _ => .stuck "stmt"
noncomputable def exsT (C : Cfg) (R : Rec) : List Stmt → Lo → Mem → T ((Fl × Lo) × Mem)
 | [], lo, m => leafN lo m
 | st :: r, lo, m => (exT C R st lo m).bind fun x => match x.1.1 with
  | .next => exsT C R r x.1.2 x.2
  | f => .leaf ((f, x.1.2), x.2)
noncomputable def setFact (K : Frag) (C : Addr) : Bool :=
 (findIn K (.ref C) "__setattr__" == some (some (.builtin "object.__setattr__"))) && plainOver K C && hasDictIn K C && (flds C).all (fun n => takerIn K C n == some none)
theorem setFacts (P : Params) : ([211, 366, 486, 614, 818, 900].all (setFact (kFrag P))) = true := by kernel_rfl
theorem set_fact {P : Params} {C : Addr} (h : known C = true) : setFact (kFrag P) C = true := List.all_eq_true.mp (setFacts P) C (known_in h)
section
variable {c : Cx} {C : Cfg} {n : Nat} {A : Around} {env : Env} {L : Addr} {s : Shared} {g : Gh} {lo lo' : Lo} {m : Mem} {R : Rec} {B X : Addr → Prop}
theorem putL_len (n : Str) (hsh : Int) (key v : Value) : ∀ es : List DictEntry, (putL n hsh key v es).length ≤ es.length + 1
 | [] => Nat.le_refl _
 | e :: r => by
  unfold putL
  split
  ·exact Nat.le_succ _
  ·exact Nat.succ_le_succ (putL_len n hsh key v r)
theorem setAttr_ok (I : Inv c A g s m) {o v : AV} {x : Str} {u w : Value} (ro : Rep c.w.params g o u) (rv : Rep c.w.params g v w) {K : (Fl × Lo) × Mem → Prop} {KX : AV → Mem → Prop} (hA : (setT o x v lo m).All K KX) {Q : Unit → Shared → Prop} {E : Value → Shared → Prop}
  (hQ : ∀ s' m', Ext A (Liv s.heap) X g s g s' → Inv c A g s' m' → K ((.next, lo), m') → Q () s') : wpAny (model pw c.w) A (setAttr u x w) Q E s := by
 obtain ⟨k, h1, hA⟩ := optT_all hA
 obtain ⟨p, hm, hA⟩ := optT_all hA
 obtain ⟨hc, hA⟩ := condT_all hA
 have hc := Bool.and_eq_true_iff.mp hc
 have c1 := Bool.and_eq_true_iff.mp hc.1
 have c3 := blt_of hc.2
 rw [aHnd_s h1] at ro
 obtain ⟨b, r0, rfl, hk⟩ := ro.inv
 obtain ⟨a, d, es, n', e1, h1, h2, h3⟩ := I.cell k _ _ (hndInst_s hm) hk
 obtain ⟨rfl, rfl⟩ := List.cons.inj e1
 have F := Bool.and_eq_true_iff.mp (set_fact (P := c.w.params) c1.1)
 have F1 := Bool.and_eq_true_iff.mp F.1
 have F2 := Bool.and_eq_true_iff.mp F1.1
 have q4 := List.all_eq_true.mp F.2 x (List.contains_iff_mem.mp c1.2)
 obtain ⟨k1, k2⟩ := ents_keys h3
 refine set_here I.K ⟨h1, rfl, rfl, h2⟩ (beq_iff_eq.mp F2.1) F2.2 (beq_iff_eq.mp q4) F1.2 k1 ?_ fun h' t hs hd => ?_
 ·refine Nat.le_trans (putL_len x (PyData.keyHash c.w.params x) (.str x (s.toks + 1)) w es) ?_
  rw [k2, List.length_map]; exact Nat.le_trans c3 (by decide)
 ·have hl : Liv h' d := ⟨_, hd⟩
  have hin : d ∈ [b, d] := .tail _ (.head _)
  refine hQ _ _ (Ext.setCell hk hin hs hl) (I.setCell (mo := .inst p.1 (putLo x v p.2)) hk hin hs hl ⟨_, d, _, _, rfl, (hs.2 _ fun q => ?_).trans h1, hd, ents_put rv h3⟩) hA
  rw [q, h2] at h1; exact nomatch h1
theorem item_at {j : Int} {n : Nat} (h : j.toNat < n) (hn : n < 1000) : j < 2 ^ 63 ∧ j < n := by lia
theorem setItem_ok (I : Inv c A g s m) {o i v : AV} {u j w : Value} (ro : Rep c.w.params g o u) (ri : Rep c.w.params g i j) (rv : Rep c.w.params g v w) {K : (Fl × Lo) × Mem → Prop} {KX : AV → Mem → Prop} (hA : (setItemT o i v lo m).All K KX) {Q : Unit → Shared → Prop} {E : Value → Shared → Prop}
  (hQ : ∀ s' m', Ext A (Liv s.heap) X g s g s' → Inv c A g s' m' → K ((.next, lo), m') → Q () s') : wpAny (model pw c.w) A (setItem u j w) Q E s := by
 obtain ⟨k, e1, hA⟩ := optT_all hA
 obtain ⟨jj, e2, hA⟩ := optT_all hA
 obtain ⟨xs, hm, hA⟩ := optT_all hA
 obtain ⟨hc, hA⟩ := condT_all hA
 have hc := Bool.and_eq_true_iff.mp hc
 have c1 := Bool.and_eq_true_iff.mp hc.1
 have c0 : 0 ≤ jj := of_decide_eq_true c1.1
 have c2 := blt_of c1.2
 rw [aHnd_s e1] at ro
 rw [aInt_s e2] at ri
 obtain ⟨_, rfl⟩ := ri.inv
 obtain ⟨_, _, rfl, hk⟩ := ro.inv
 obtain ⟨a, vs, e1, h1, h2⟩ := I.cell k _ _ (lstOf_s hm) hk
 obtain ⟨rfl, rfl⟩ := List.cons.inj e1
 refine wpAny_setItem_list h1 c0 (item_at c2 (blt_of hc.2)).1 (by rw [List.size_toArray, h2.length]; exact (item_at c2 (blt_of hc.2)).2) fun h' hl' hs => ?_
 have hl : Liv h' _ := let ⟨o, ho, _⟩ := hl'; ⟨o, ho⟩
 rw [List.setIfInBounds_toArray] at hl'
 exact hQ _ _ (Ext.setCell (t := s.toks) hk (.head _) hs hl) (I.setCell (t := s.toks) (mo := .lst (xs.set jj.toNat v)) hk (.head _) hs hl ⟨_, _, rfl, hl', h2.set rv _⟩) hA
end
end
section
open PySem PySem.W PyProof.Rows PySem.Calls
structure SoundS (c : Cx) (C : Cfg) (n : Nat) (R : Rec) : Prop where
 e : SoundE c C n R
 s : ∀ {A env L s g lo m}, At c C n A env L s g lo m → ∀ b : List Stmt, Tri c A (OwnA L env.cells) s g (execs b env) (FlowR c C L env.cells) (R.exs b lo m)
section
variable {c : Cx} {C : Cfg} {n : Nat} {A : Around} {env : Env} {L : Addr} {s : Shared} {g : Gh} {lo lo' : Lo} {m : Mem} {R : Rec} {B X : Addr → Prop}
theorem plainA_s {t e : Expr} {line : Nat} (h : plainA C t e line = true) : noSwap C.scope (some t) e line = true ∧ swapOf C.scope t e = some none := by
 have h := Bool.and_eq_true_iff.mp h
 refine ⟨h.1, ?_⟩
 have h2 := h.2
 cases q : swapOf C.scope t e with
 | none => rw [q] at h2; exact nomatch h2
 | some o => rw [q] at h2; rw [Option.isNone_iff_eq_none.mp h2]
theorem Assign1 {M : Model} {E : Value → Shared → Prop} {t value : Expr} {pos : Pos} {Q : Flow → Shared → Prop}
  (h : wpAny M A (eval value env) (fun v s₁ => wpAny M A (assign t env v) (fun _ => Q .next) E s₁) E s)
  (hs : swapsWith value (some t) pos.line env = pure false) (hw : swappedStores [t] value env = pure none) (he : (assignEach [t] env).map (·.2) = [assign t env]) :
  wpAny M A (exec (.Assign [t] value pos) env) Q E s := by
 rw [PyProof.Rows.exec_Assign]
 refine wpAny_bind (wpAny_standAt ?_)
 rw [show swapsWithSole [t] value pos.line env = swapsWith value (some t) pos.line env from rfl, hs]
 refine wpAny_bind (wpAny_pure ?_)
 rw [if_neg (by decide)]
 refine wpAny_bind (wpAny_mono h (fun v s₁ h₁ => ?_) fun _ _ x => x)
 rw [hw, he]
 refine wpAny_bind (wpAny_pure ?_)
 show wpAny M A (do assignAll v [assign t env]; pure .next) Q E s₁
 exact wpAny_bind (wpAny_mono h₁ (fun _ _ x => wpAny_pure x) fun _ _ x => x)
theorem Assign1_swapped {M : Model} {E : Value → Shared → Prop} {t value : Expr} {pos : Pos} {names : List Str} {Q : Flow → Shared → Prop}
  (h : wpAny M A (eval value env) (fun v s₁ => wpAny M A (unpackItems v names.length none) (fun items s₂ =>
   wpAny M A (assignInOrder (names.reverse.map fun n => bindName env n) items.reverse) (fun _ => Q .next) E s₂) E s₁) E s)
  (hs : swapsWith value (some t) pos.line env = pure false) (hw : swappedStores [t] value env = pure (some names)) :
  wpAny M A (exec (.Assign [t] value pos) env) Q E s := by
 rw [PyProof.Rows.exec_Assign]
 refine wpAny_bind (wpAny_standAt ?_)
 rw [show swapsWithSole [t] value pos.line env = swapsWith value (some t) pos.line env from rfl, hs]
 refine wpAny_bind (wpAny_pure ?_)
 rw [if_neg (by decide)]
 refine wpAny_bind (wpAny_mono h (fun v s₁ h₁ => ?_) fun _ _ x => x)
 rw [hw]
 refine wpAny_bind (wpAny_pure ?_)
 show wpAny M A (do rule "assign.swapped-stores"; let items ← unpackItems v names.length none; assignInOrder (names.reverse.map fun n => bindName env n) items.reverse; pure .next) Q E s₁
 exact wpAny_bind (wpAny_rule (wpAny_bind (wpAny_mono h₁ (fun items s₂ h₂ => wpAny_bind (wpAny_mono h₂ (fun _ _ x => wpAny_pure x) fun _ _ x => x)) fun _ _ x => x)))
theorem Tri.useN {α β ρ σ : Type} {t : Sem α} {R : α → ρ → Gh → Shared → Prop} {R' : β → σ → Gh → Shared → Prop} {τ : T (ρ × Mem)} {φ : ρ × Mem → T (σ × Mem)} {K : σ × Mem → Prop} {KX : AV → Mem → Prop} {Q : β → Shared → Prop} {E : Value → Shared → Prop} {Q' : α → Shared → Prop}
  (h : Tri c A noX s g t R τ) (hA : (τ.bind φ).All K KX) (hQ : Post c A X s g R' K Q) (hE : PostX c A X s g KX E)
  (k : ∀ a r s1 g1 mem1, Ext A (Liv s.heap) noX g s g1 s1 → Inv c A g1 s1 mem1 → R a r g1 s1 → (φ (r, mem1)).All K KX → Post c A X s1 g1 R' K Q → PostX c A X s1 g1 KX E → Q' a s1) : wpAny (model pw c.w) A t Q' E s :=
 h _ E _ KX (T.all_bind.mp hA) (fun a r s1 g1 m1 x i q hk => k a r s1 g1 m1 x i q hk (hQ.lift x.noX) (hE.lift x.noX)) hE.noX
theorem ex_attr (hR : SoundE c C n R) (h : At c C n A env L s g lo m) (o : Expr) (x : Str) (q : Pos) (e : Expr) (p : Pos) :
  Tri c A (OwnA L env.cells) s g (exec (.Assign [.Attribute o x q] e p) env) (FlowR c C L env.cells) (exAsg C R (.Attribute o x q) e p.line lo m) := by
 refine Tri.cond fun hp => ?_
 ·obtain ⟨h1, h2⟩ := plainA_s hp
  intro Q E K KX hA hQ hE
  refine Assign1 ((hR.ev h e).useN hA hQ hE fun u v s1 g1 m1 e1 i1 r1 k1 hQ1 hE1 => ?_) (noSwap_of h1 h.eo.scope) (swapOf_of h2 h.eo.scope) rfl
  have a1 := h.ext e1 i1
  show wpAny _ A (do let ov ← holding [u] (eval o env); standAt q.atName; holding [u, ov] (setAttr ov x u); release [u, ov] []) _ E s1
  refine wpAny_bind (wpAny_holding ((hR.ev a1 o).useN k1 hQ1 hE1 fun ov y s2 g2 m2 e2 i2 r2 k2 hQ2 hE2 => ?_))
  have a2 := a1.ext e2 i2
  refine wpAny_bind (wpAny_standAt (wpAny_bind (wpAny_holding (setAttr_ok (X := noX) i2 r2 (r1.mono e2.gr) k2 fun s' m' e3 i3 k3 => wpAny_release' ?_))))
  exact hQ2 _ _ _ _ _ e3.noX i3 ⟨.next, (a2.loc.ext e3 a2.loc.lt fun _ _ => id)⟩ k3
theorem ex_sub (hR : SoundE c C n R) (h : At c C n A env L s g lo m) (o i : Expr) (q : Pos) (e : Expr) (p : Pos) :
  Tri c A (OwnA L env.cells) s g (exec (.Assign [.Subscript o i q] e p) env) (FlowR c C L env.cells) (exAsg C R (.Subscript o i q) e p.line lo m) := by
 refine Tri.cond fun hp => ?_
 ·obtain ⟨h1, h2⟩ := plainA_s hp
  intro Q E K KX hA hQ hE
  refine wpAny_Assign_Subscript ((hR.ev h e).useN hA hQ hE fun u v s1 g1 m1 e1 i1 r1 k1 hQ1 hE1 => ?_) (noSwap_of h1 h.eo.scope)
  have a1 := h.ext e1 i1
  refine (hR.ev a1 o).useN k1 hQ1 hE1 fun ov y s2 g2 m2 e2 i2 r2 k2 hQ2 hE2 => ?_
  have a2 := a1.ext e2 i2
  refine (hR.ev a2 i).useN k2 hQ2 hE2 fun iv z s3 g3 m3 e3 i3 r3 k3 hQ3 hE3 => ?_
  have a3 := a2.ext e3 i3
  refine setItem_ok (X := noX) i3 (r2.mono e3.gr) r3 ((r1.mono e2.gr).mono e3.gr) k3 fun s' m' e4 i4 k4 => ?_
  exact hQ3 _ _ _ _ _ e4.noX i4 ⟨.next, (a3.loc.ext e4 a3.loc.lt fun _ _ => id)⟩ k4
theorem bind_ok (h : At c C n A env L s g lo m) {t : Expr} {v : AV} {u : Value} (r : Rep c.w.params g v u) {Q : Flow → Shared → Prop} {E : Value → Shared → Prop} {K : (Fl × Lo) × Mem → Prop} {KX : AV → Mem → Prop} (hA : (bindT C t v lo m).All K KX)
  (hQ : Post c A (OwnA L env.cells) s g (FlowR c C L env.cells) K Q) : wpAny (model pw c.w) A (assign t env u) (fun _ => Q .next) E s := by
 obtain ⟨lo', ha, hA⟩ := optT_all hA
 exact asg_ok h r ha fun s' e i l => hQ _ _ _ _ _ e i ⟨.next, l⟩ hA
theorem ex_plain (hR : SoundE c C n R) (h : At c C n A env L s g lo m) (t e : Expr) (p : Pos) (ht : (∃ x q, t = .Name x q) ∨ (∃ ts k q, t = .Tuple ts k q)) (h1 : noSwap C.scope (some t) e p.line = true) (h2 : swapOf C.scope t e = some none) :
  Tri c A (OwnA L env.cells) s g (exec (.Assign [t] e p) env) (FlowR c C L env.cells) ((R.ev e lo m).bind fun v => bindT C t v.1 lo v.2) := by
 intro Q E K KX hA hQ hE
 refine Assign1 ((hR.ev h e).useN hA hQ hE fun u v s1 g1 m1 e1 i1 r1 k1 hQ1 hE1 => ?_) (noSwap_of h1 h.eo.scope) (swapOf_of h2 h.eo.scope) (by rcases ht with ⟨x, q, rfl⟩ | ⟨ts, k, q, rfl⟩ <;> rfl)
 exact bind_ok (h.ext e1 i1) r1 k1 hQ1
theorem stores_bind : ∀ ns : List Str, Stores env (ns.map fun n => bindName env n) ns
 | [] => .nil
 | _ :: r => .cons (fun q => bindName_ q) (stores_bind r)
theorem Reps.rev {P : Params} : ∀ {xs : List AV} {us : List Value}, Reps P g xs us → Reps P g xs.reverse us.reverse
 | [], us, r => by rw [show us = [] from r.inv]; exact .nil
 | x :: xs, us, r => by
  obtain ⟨_, _, rfl, a, b⟩ := r.inv
  rw [List.reverse_cons, List.reverse_cons]
  exact b.rev.append (.cons a .nil)
theorem ex_swapped (hR : SoundE c C n R) (h : At c C n A env L s g lo m) (t e : Expr) (p : Pos) {ns : List Str} (h1 : noSwap C.scope (some t) e p.line = true) (h2 : swapOf C.scope t e = some (some ns)) :
  Tri c A (OwnA L env.cells) s g (exec (.Assign [t] e p) env) (FlowR c C L env.cells) (asgP C R t e lo m (some ns)) := by
 intro Q E K KX hA hQ hE
 refine Assign1_swapped ((hR.ev h e).useN hA hQ hE fun u v s1 g1 m1 e1 i1 r1 k1 hQ1 hE1 => ?_) (noSwap_of h1 h.eo.scope) (swapOf_of h2 h.eo.scope)
 have a1 := h.ext e1 i1
 obtain ⟨xs, hx, k1⟩ := optT_all k1
 obtain ⟨lo', hb, k1⟩ := optT_all k1
 rw [show v = _ from aTup_s hx] at r1
 obtain ⟨vs, a, k, rfl, f, r⟩ := r1.inv
 have hl : ns.length = vs.toArray.size := by
  rw [List.size_toArray, r.length, ← List.length_reverse, bindNs_len hb, List.length_reverse]
 rw [hl]
 refine wpAny_unpackItems_tuple a1.room.1 (i1.tuple f) fun h' hb' => ?_
 obtain ⟨a2, e2⟩ := a1.priv (X := OwnA L env.cells) hb'
 exact stores_ok (stores_bind _) a2 (us := vs.toArray.toList.reverse) r.rev hb fun s' e3 i3 l3 => hQ1 _ _ _ _ _ (e2.then e3) i3 ⟨.next, l3⟩ k1
end
section
variable {c : Cx} {C : Cfg} {n : Nat} {A : Around} {env : Env} {L : Addr} {s : Shared} {g : Gh} {lo lo' : Lo} {m : Mem} {R : Rec} {B X : Addr → Prop}
theorem bind_then {s' : Shared} {g2 : Gh} {m2 : Mem} (E2 : Ext A (Liv s.heap) noX g s g2 s') (h2 : At c C n A env L s' g2 lo m2) {t : Expr} {v : AV} {u : Value} (r : Rep c.w.params g2 v u) (ha : asgT C t v lo = some lo') {C' : Addr} (pC : Priv g2 s'.heap C') (nf : ¬ IsFr A C')
  (nl : ¬ Liv s.heap C') (no : ¬ OwnA L env.cells C') {mm : Str → Option Value} (hn : s'.heap.Ns C' mm) {Q : Shared → Prop} {E : Value → Shared → Prop}
  (hQ : ∀ s3, Ext A (Liv s.heap) (OwnA L env.cells) g s g2 s3 → Inv c A g2 s3 m2 → LocOK c C L env.cells g2 s3 lo' → Q s3) :
  wpAny (model pw c.w) A (assign t env u) (fun _ s'' => ∃ mm, s''.heap.Ns C' mm ∧ ∀ h', Heap.SameBut C' s''.heap h' → Q { s'' with heap := h' }) E s' := by
 refine asg_ok h2 r ha fun s'' e i l => ?_
 obtain ⟨p3, k3⟩ := pC.ext e pC.liv no
 refine ⟨mm, ns_slots hn k3, fun h' hs => hQ _ ((E2.noX.then e).trans (Ext.priv hs.extBut nl s''.toks)) (i.priv hs.extBut p3.nf p3.nt nf s''.toks) (l.but hs.extBut no s''.toks)⟩
theorem folded_id {iter : Expr} {env : Env} (h : ∀ a b d, iter ≠ .Set a b d) (v : Value) : foldedSetIterable iter env v = pure v := by
 cases iter with
 | Set => exact absurd rfl (h _ _ _)
 | _ => rfl
theorem comp_bind (h1 : At c C n A env L s g lo m) {t : Expr} {K : (Fl × Lo) × Mem → Prop} {KX : AV → Mem → Prop} {D C' : Addr} {s' : Shared} (mu : Bool) (ce : CompEnd c A g s (fun x => (bindLC C t mu lo x).All K KX) D C' s') {Q : Shared → Prop} {E : Value → Shared → Prop}
  (hQ : ∀ s3 g3 m3 lo3, Ext A (Liv s.heap) (OwnA L env.cells) g s g3 s3 → Inv c A g3 s3 m3 → LocOK c C L env.cells g3 s3 lo3 → K ((.next, lo3), m3) → Q s3) :
  wpAny (model pw c.w) A (assign t env (.ref D)) (fun _ s'' => ∃ mm, s''.heap.Ns C' mm ∧ ∀ h', Heap.SameBut C' s''.heap h' → Q { s'' with heap := h' }) E s' := by
 obtain ⟨⟨g2, m2, xs2, ys, E2, I2, r2, ⟨nn, hp⟩, hz, pD, pC, hk⟩, nd, nc, ne, nf, mm, hn⟩ := ce
 have no : ¬ OwnA L env.cells C' := fun q => nc (h1.loc.lt _ q)
 have l2 := h1.loc.ext E2 h1.loc.lt fun _ _ => id
 have own : ∀ a, OwnA L env.cells a → (g2.F a = none ∧ a ∉ g2.th.flatten) ∧ a ≠ D := fun a ha => ⟨by
  rcases ha with rfl | ⟨z, hz⟩
  ·exact ⟨l2.nf, l2.nt⟩
  ·obtain ⟨_, b1, b2, _⟩ := l2.cf z a hz
   exact ⟨b1, b2⟩, fun q => nd (q ▸ h1.loc.lt a ha)⟩
 cases mu with
 | true =>
  obtain ⟨lo', ha, hk⟩ := optT_all hk
  have I3 := I2.adopt (l := [D]) (mo := .lst xs2) ⟨D, ys, rfl, ⟨_, hp, rfl, nn, rfl⟩, r2⟩ (fun a ha => by rw [List.mem_singleton.mp ha]; exact ⟨pD, nf.1⟩) (List.nodup_cons.mpr ⟨List.not_mem_nil, List.nodup_nil⟩)
  have E3 : Ext A (Liv s.heap) noX g s (g2.cell [D]) s' := E2.trans (Ext.adopt fun a ha => by rw [List.mem_singleton.mp ha]; exact nd)
  have l3 := l2.gr (g' := g2.cell [D]) Gr.cell fun a ha => ⟨(own a ha).1.1, fun q => (mem_cell.mp q).elim (own a ha).1.2 fun q => (own a ha).2 (List.mem_singleton.mp q)⟩
  refine bind_then E3 (h1.to I3 l3) (.hnd (r := []) ?_) ha ⟨pC.liv, pC.nf, fun q => (mem_cell.mp q).elim pC.nt fun q => ne (List.mem_singleton.mp q).symm⟩ nf.2 nc no hn fun s3 e3 i3 l3 => hQ _ _ _ _ e3 i3 l3 hk
  show (g2.th ++ [[D]])[m2.length]? = some [D]
  rw [I2.len, List.getElem?_append_right (Nat.le_refl _), Nat.sub_self]; rfl
 | false =>
  obtain ⟨lo', ha, hk⟩ := optT_all hk
  have E3 : Ext A (Liv s.heap) noX g s (g2.put D (lstO ys nn)) s' := E2.trans (Ext.freeze pD.nf nd)
  have l3 := l2.gr (g' := g2.put D (lstO ys nn)) (Gr.put pD.nf) fun a ha => ⟨by rw [Gh.put_ne (own a ha).2]; exact (own a ha).1.1, (own a ha).1.2⟩
  exact bind_then E3 (h1.to (I2.freeze hp pD nf.1) l3) (.lst Gh.put_self (r2.mono (Gr.put pD.nf))) ha ⟨pC.liv, by rw [Gh.put_ne ne.symm]; exact pC.nf, pC.nt⟩ nf.2 nc no hn fun s3 e3 i3 l3 => hQ _ _ _ _ e3 i3 l3 hk
theorem ex_compF (hR : SoundE c C n R) (h : At c C n A env L s g lo m) {y : Str} {q : Pos} (a : CompA) (p : Pos) (mu : Bool) (hsw : compSwap C.scope (.Name y q) a.e p.line = true) :
  Tri c A (OwnA L env.cells) s g (exec (.Assign [.Name y q] a.e p) env) (FlowR c C L env.cells) ((compT C R a.elt a.x a.iter a.ifs a.S lo m).bind fun r => bindLC C (.Name y q) mu lo r) := by
 refine compT_ok fun hc => ?_
 have hS := compOK_of hc
 have hsw' : swapsWith a.e (some (.Name y q)) p.line env = pure true := by
  rw [swapsWith_env, h.eo.scope]; exact of_pureOf (beq_iff_eq.mp hsw)
 intro Q E K KX hA hQ hE
 have hA := T.all_bind.mp (T.all_bind.mp hA)
 rw [exec_Assign_Name_used _ _ _ _ hsw']
 refine wpAny_bind (wpAny_standAt (wpAny_bind ?_))
 show wpAny _ A (do let _ ← comprehension a.e a.S env _ (newList []) false (eval a.iter env) (some (assign (.Name y q) env))) _ _ s
 refine wpAny_bind (wpAny_mono (wpAny_comprehension_free (use := some (assign (.Name y q) env)) (cl := closL env.cells a.S.names []) (Q := fun _ s' => Q .next s') rfl (folded_id hS.it) (closureFor_eq (clos_lookup hS h.loc).1) hS.kind hS.loc ?_)
  (fun _ s' hq => wpAny_pure (wpAny_pure hq)) fun _ _ e => e)
 refine (hR.ev h a.iter) _ _ _ _ hA (fun u v s1 g1 m1 e1 i1 r1 k1 => ?_) hE.noX
 obtain ⟨xs, hx, k1⟩ := optT_all k1
 refine comp_block hR (h.ext e1 i1) hS r1 hx k1.1 (T.quiet_all k1.2) fun D C' s' ce => ?_
 exact comp_bind (h.ext e1 i1) mu ce fun s3 g3 m3 lo3 e3 i3 l3 k3 => hQ _ _ _ _ _ (e1.noX.then e3) i3 ⟨.next, l3⟩ k3
end
section
variable {c : Cx} {C : Cfg} {n : Nat} {A : Around} {env : Env} {L : Addr} {s : Shared} {g : Gh} {lo lo' : Lo} {m : Mem} {R : Rec} {B X : Addr → Prop}
theorem ex_listM (hR : SoundE c C n R) (h : At c C n A env L s g lo m) (y : Str) (q : Pos) (es : List Expr) (q2 p : Pos) (h1 : noSwap C.scope (some (.Name y q)) (.List es q2) p.line = true) (h2 : swapOf C.scope (.Name y q) (.List es q2) = some none) (hl : es.length < 60) :
  Tri c A (OwnA L env.cells) s g (exec (.Assign [.Name y q] (.List es q2) p) env) (FlowR c C L env.cells) ((evs R es lo m).bind fun r => bindT C (.Name y q) (.hnd r.2.length) lo (r.2 ++ [.lst r.1])) := by
 intro Q E K KX hA hQ hE
 refine Assign1 (List_ ((evs_ok hR q2 es h).useN hA hQ hE fun vs xs s1 g1 m1 e1 i1 r1 k1 hQ1 hE1 => ?_)) (noSwap_of h1 h.eo.scope) (swapOf_of h2 h.eo.scope) rfl
 have a1 := h.ext e1 i1
 refine wpAny_newList ?_ (by rw [r1.2]; exact size_1000 (Nat.le_of_lt (Nat.lt_trans hl (by decide))))
 have hc : CellOK c.w.params (g1.cell [s1.heap.objs.size]) (s1.heap.push { cls := .type "list", data := .seq vs.toArray }) [s1.heap.objs.size] (.lst xs) :=
  ⟨_, vs, rfl, ⟨_, Heap.get?_push_size _ rfl, rfl, _, rfl⟩, r1.1.mono Gr.cell⟩
 have i2 := i1.pushM { cls := .type "list", data := .seq vs.toArray } (.lst xs) rfl hc
 have e2 : Ext A (Liv s1.heap) noX g1 s1 _ _ := Ext.pushM noX ({ cls := .type "list", data := .seq vs.toArray } : Obj)
 have a2 := a1.ext e2 i2
 refine bind_ok a2 (.hnd (r := []) ?_) k1 (hQ1.lift e2.noX)
 show (g1.th ++ [[s1.heap.objs.size]])[m1.length]? = _
 rw [i1.len, List.getElem?_append_right (Nat.le_refl _), Nat.sub_self]; rfl
theorem listV_s {e : Expr} {p : List Expr × Pos} (h : listV e = some p) : e = .List p.1 p.2 := (by cases e <;> first | exact trivial | exact rfl : OptP (fun p => e = .List p.1 p.2) (listV e)).of h
theorem isNT_s {t : Expr} (h : isNT t = true) : (∃ x q, t = .Name x q) ∨ (∃ ts k q, t = .Tuple ts k q) := by
 cases t with
 | Name => exact .inl ⟨_, _, rfl⟩
 | Tuple => exact .inr ⟨_, _, _, rfl⟩
 | _ => exact nomatch h
theorem ex_nm (hR : SoundE c C n R) (h : At c C n A env L s g lo m) (t e : Expr) (p : Pos) : Tri c A (OwnA L env.cells) s g (exec (.Assign [t] e p) env) (FlowR c C L env.cells) (nmAsg C R t e p.line lo m) := by
 unfold nmAsg
 cases hv : compV e with
 | some a =>
  refine Tri.cond fun hc => ?_
  have hc := Bool.and_eq_true_iff.mp hc
  obtain ⟨q, hq⟩ := Option.isSome_iff_exists.mp hc.2
  rw [compV_s hv, nameV_s hq]
  rw [compV_s hv, nameV_s hq] at hc
  exact ex_compF hR h a p (mutB C _) hc.1
 | none =>
  show Tri _ _ _ _ _ _ _ (match mutB C t with
   | true => _
   | false => _)
  cases mutB C t with
  | true =>
   refine Tri.opt fun l hl => Tri.cond fun hc => ?_
   have hc := Bool.and_eq_true_iff.mp hc
   have h1 := Bool.and_eq_true_iff.mp hc.1
   obtain ⟨q, hq⟩ := Option.isSome_iff_exists.mp h1.2
   obtain ⟨w1, w2⟩ := plainA_s h1.1
   rw [listV_s hl, nameV_s hq] at w1 w2 ⊢
   exact ex_listM hR h _ _ _ _ p w1 w2 (blt_of hc.2)
  | false =>
   refine Tri.cond fun h1 => Tri.opt fun o h2 => ?_
   cases o with
   | none => exact Tri.cond fun h3 => ex_plain hR h t e p (isNT_s h3) h1 h2
   | some ns => exact ex_swapped hR h t e p h1 h2
theorem ex_asg (hR : SoundE c C n R) (h : At c C n A env L s g lo m) (t e : Expr) (p : Pos) : Tri c A (OwnA L env.cells) s g (exec (.Assign [t] e p) env) (FlowR c C L env.cells) (exAsg C R t e p.line lo m) := by
 cases t with
 | Attribute o x q => exact ex_attr hR h o x q e p
 | Subscript o i q => exact ex_sub hR h o i q e p
 | _ => exact ex_nm hR h _ e p
theorem letGo_ok (I : Inv c A g s m) {it : Addr} {xs : List AV} (i : Iter c.w.params g s.heap it xs) (t : Expr) (v : Value) {Q : Unit → Shared → Prop} {E : Value → Shared → Prop} (hQ : Q () s) : wpAny (model pw c.w) A (letOwnedTupleGo t (.ref it) v) Q E s := by
 obtain ⟨o, ho, nm, vs, hc, hd, hn⟩ : ∃ o, s.heap.get? it = some o ∧ ∃ nm vs, o.cls = .type nm ∧ o.data = .fields vs ∧ (["enumerate", "zip", "dict_itemiterator", "dict_reverseitemiterator", "odict_iterator", "itertools.zip_longest", "itertools.pairwise"].contains nm) = false := by
  cases i with
  | lst _ i _ _ => obtain ⟨o, ho, hc, hd⟩ := i; exact ⟨o, ho, _, _, hc, hd, by decide⟩
  | tup _ i _ _ => obtain ⟨o, ho, hc, hd⟩ := i; exact ⟨o, ho, _, _, hc, hd, by decide⟩
  | rng i _ => exact ⟨_, i, _, _, rfl, rfl, by decide⟩
 unfold letOwnedTupleGo
 have core : wpAny (model pw c.w) A (do
  let (.ref r, .ref a) := (Value.ref it, v) | return
  let o ← load r
  match o.cls, o.data with
  | .type n, .fields vs =>
   if ["enumerate", "zip", "dict_itemiterator", "dict_reverseitemiterator", "odict_iterator", "itertools.zip_longest", "itertools.pairwise"].contains n && vs[0]? == some (rawInt a) then
    rule "for.unpacks-the-owned-tuple"
    updateField r 0 .none
  | _, _ => pure ()) Q E s := by
  cases v with
  | ref a =>
   refine wpAny_bind (wpAny_load ho ?_)
   rw [hc, hd]
   dsimp only
   rw [hn]
   exact wpAny_pure hQ
  | _ => exact wpAny_pure hQ
 cases t <;> first | exact core | exact wpAny_pure hQ
theorem wpAny_execs_nil' {M : Model} {E : Value → Shared → Prop} {Q : Flow → Shared → Prop} (h : Q .next s) : wpAny M A (execs [] env) Q E s := fun _ _ _ => h
structure ForB (c : Cx) (A : Around) (g0 : Gh) (s0 : Shared) (C : Cfg) (L : Addr) (cl : List (Str × Addr)) (it : Addr) (lo : Lo) (xs : List AV) (g : Gh) (s : Shared) (m : Mem) : Prop where
 ext : Ext A (Liv s0.heap) (OwnA L cl) g0 s0 g s
 inv : Inv c A g s m
 iter : Iter c.w.params g s.heap it xs
 loc : LocOK c C L cl g s lo
 pi : Priv g s.heap it
section
variable {it : Addr} {s0 s1 : Shared} {g0 g1 : Gh} {xs : List AV} {m1 : Mem}
theorem ForB.then (f1 : ¬ IsFr A it) (no : ¬ OwnA L env.cells it) (b : ForB c A g0 s0 C L env.cells it lo xs g s m) (e : Ext A (Liv s.heap) (OwnA L env.cells) g s g1 s1) (i : Inv c A g1 s1 m1) (l : LocOK c C L env.cells g1 s1 lo') : ForB c A g0 s0 C L env.cells it lo' xs g1 s1 m1 where
 ext := b.ext.then e
 inv := i
 iter := b.iter.mono e.gr (b.pi.same e b.pi.liv no f1)
 loc := l
 pi := (b.pi.ext e b.pi.liv no).1
theorem ForB.next (eo : EnvOK C env L) (hroom : Room A n) (n1 : ¬ Liv s0.heap it) (f1 : ¬ IsFr A it) (no : ¬ OwnA L env.cells it) {t : Expr} {v : AV} (b : ForB c A g0 s0 C L env.cells it lo (v :: xs) g s m) (ha : asgT C t v lo = some lo') {Q : Option Value → Shared → Prop} {Q2 : Unit → Shared → Prop} {E E2 : Value → Shared → Prop}
  (hQ : ∀ u s1, wpAny (model pw c.w) A (letOwnedTupleGo t (.ref it) u) (fun _ s2 => wpAny (model pw c.w) A (assign t env u) Q2 E2 s2) E2 s1 → Q (some u) s1) (hQ2 : ∀ s1, ForB c A g0 s0 C L env.cells it lo' xs g s1 m → Q2 () s1) : wpAny (model pw c.w) A (pyNext (.ref it)) Q E s := by
 refine Iter.next b.inv b.iter fun val h3 t3 rv hit3 hs3 => hQ _ _ ?_
 have b3 : ForB c A g0 s0 C L env.cells it lo xs g { s with heap := h3, toks := t3 } m := ⟨b.ext.trans (Ext.priv hs3.extBut n1 t3), b.inv.priv hs3.extBut b.pi.nf b.pi.nt f1 t3, hit3, b.loc.but hs3.extBut no t3, ⟨hit3.liv, b.pi.nf, b.pi.nt⟩⟩
 exact letGo_ok b3.inv hit3 t val (asg_ok (n := n) ⟨eo, hroom, b3.inv, b3.loc⟩ rv ha fun s4 e4 i4 l4 => hQ2 _ (b3.then f1 no e4 i4 l4))
theorem for_loop (hS : SoundS c C n R) (eo : EnvOK C env L) (hroom : Room A n) (n1 : ¬ Liv s0.heap it) (f1 : ¬ IsFr A it) (no : ¬ OwnA L env.cells it) {t : Expr} {b : List Stmt} {K : (Fl × Lo) × Mem → Prop} {Q : Flow → Shared → Prop} {RR : Result → Shared → Prop} (hR : ∀ f s', Q f s' → RR (.ok f) s')
  (hQ : Post c A (OwnA L env.cells) s0 g0 (FlowR c C L env.cells) K Q) (B : ForB c A g0 s0 C L env.cells it lo xs g s m) (hA : (forL C R t b xs lo m).All K (fun _ _ => False)) :
  codeAny (model pw c.w) A (.forLoop t (.ref it) b [] env) RR s := by
 obtain ⟨J, hJ⟩ : ∃ J : Nat → Shared → Prop, ∀ k s', J k s' ↔ ∃ g' m' lo' xs', xs'.length = k ∧ (forL C R t b xs' lo' m').All K (fun _ _ => False) ∧ ForB c A g0 s0 C L env.cells it lo' xs' g' s' m' := ⟨_, fun _ _ => Iff.rfl⟩
 refine codeAny_forLoop_any J (fun k s' h => ?_) xs.length ((hJ _ _).mpr ⟨g, m, lo, xs, rfl, hA, B⟩)
 obtain ⟨g', m', lo', xs', hk, hA', B'⟩ := (hJ _ _).mp h
 cases xs' with
 | nil =>
  exact Iter.stop B'.inv hroom.1 B'.iter fun h' hb => wpAny_execs_nil' (hR _ _ (hQ _ _ _ _ _ (B'.ext.trans (Ext.priv hb n1 s'.toks)) (B'.inv.priv hb B'.pi.nf B'.pi.nt f1 s'.toks) ⟨.next, B'.loc.but hb no s'.toks⟩ hA'))
 | cons v vs =>
  have hlt : vs.length < k := Nat.lt_of_succ_le (Nat.le_of_eq hk)
  obtain ⟨lo2, ha, hA2⟩ := optT_all hA'
  refine B'.next eo hroom n1 f1 no ha (fun u s1 q => q) fun s4 B4 => ?_
  refine hS.s ⟨eo, hroom, B4.inv, B4.loc⟩ b _ _ _ _ (T.all_bind.mp hA2) (fun f x s5 g5 m5 e5 i5 r5 k5 => ?_) fun _ _ _ _ _ _ _ _ h => h.elim
  obtain ⟨fl, lo5⟩ := x
  obtain ⟨r5, l5⟩ := r5
  have B5 := B4.then f1 no e5 i5 l5
  cases r5 with
  | next => exact ⟨vs.length, hlt, (hJ _ _).mpr ⟨g5, m5, lo5, vs, rfl, k5, B5⟩⟩
  | cont => exact ⟨vs.length, hlt, (hJ _ _).mpr ⟨g5, m5, lo5, vs, rfl, k5, B5⟩⟩
  | brk => exact hR _ _ (hQ _ (.next, lo5) _ _ _ B5.ext i5 ⟨.next, l5⟩ k5)
  | ret rr => exact hR _ _ (hQ _ _ _ _ _ B5.ext i5 ⟨.ret rr, l5⟩ k5)
end
theorem ex_for (hS : SoundS c C n R) (h : At c C n A env L s g lo m) (t ie : Expr) (b o : List Stmt) (p : Pos) : Tri c A (OwnA L env.cells) s g (exec (.For t ie b o p) env) (FlowR c C L env.cells) (exT C R (.For t ie b o p) lo m) := by
 refine Tri.cond fun ho => Tri.cond fun hset => fun Q E K KX hA hQ hE => ?_
 rw [List.isEmpty_iff.mp ho]
 have hset : isSet ie = false := Bool.not_eq_true' _ ▸ hset
 refine wpAny_For ((hS.e.ev h ie).useN hA hQ hE fun u v s1 g1 m1 e1 i1 r1 k1 hQ1 hE1 => ?_) (folded_id (by rintro a b d rfl; exact nomatch hset))
 obtain ⟨xs, hx, k1⟩ := optT_all k1
 have h1 := h.ext e1 i1
 refine iter_made i1 r1 hx k1.1 fun o hof hit => ?_
 have a0 : ¬ Liv s1.heap s1.heap.objs.size := notLiv _
 have no : ¬ OwnA L env.cells s1.heap.objs.size := fun q => a0 (h1.loc.lt _ q)
 exact for_loop (Q := Q) hS h1.eo h1.room a0 (i1.notFr a0) no (fun _ _ q => q) hQ1 ⟨Ext.priv (push_but s1.heap o) a0 s1.toks, i1.priv (push_but s1.heap o) i1.fresh i1.freshT (i1.notFr a0) s1.toks, hit, h1.loc.but (push_but s1.heap o) no s1.toks, ⟨o, Heap.get?_push_size _ hof⟩, i1.fresh, i1.freshT⟩ (T.quiet_all k1.2)
end
section
variable {c : Cx} {C : Cfg} {n : Nat} {A : Around} {env : Env} {L : Addr} {s : Shared} {g : Gh} {lo lo' : Lo} {m : Mem} {R : Rec} {B X : Addr → Prop}
theorem while_loop (hS : SoundS c C n R) {s0 : Shared} {g0 : Gh} {t : Expr} {b : List Stmt} {K : (Fl × Lo) × Mem → Prop} {Q : Flow → Shared → Prop} {RR : Result → Shared → Prop} (hR : ∀ f s', Q f s' → RR (.ok f) s')
  (hQ : Post c A (OwnA L env.cells) s0 g0 (FlowR c C L env.cells) K Q) (k : Nat) (E0 : Ext A (Liv s0.heap) (OwnA L env.cells) g0 s0 g s) (h : At c C n A env L s g lo m) (hA : (whileL R t b k lo m).All K (fun _ _ => False)) :
  codeAny (model pw c.w) A (.whileLoop t b [] env) RR s := by
 have noE : ∀ {X s g E}, PostX c A X s g (fun _ _ => False) E := fun _ _ _ _ _ _ _ _ h => h.elim
 obtain ⟨J, hJ⟩ : ∃ J : Nat → Shared → Prop, ∀ k s', J k s' ↔ ∃ g' m' lo', (whileL R t b k lo' m').All K (fun _ _ => False) ∧ Ext A (Liv s0.heap) (OwnA L env.cells) g0 s0 g' s' ∧ At c C n A env L s' g' lo' m' := ⟨_, fun _ _ => Iff.rfl⟩
 refine codeAny_whileLoop J (fun k s' h => ?_) k ((hJ _ _).mpr ⟨g, m, lo, hA, E0, h⟩)
 obtain ⟨g', m', lo', hA', E', h'⟩ := (hJ _ _).mp h
 cases k with
 | zero => exact hA'.elim
 | succ k =>
  refine hS.e.tr h' t _ _ _ _ (T.all_bind.mp hA') (fun bb bb' s1 g1 m1 e1 i1 r1 k1 => ?_) noE
  obtain rfl : bb = bb' := r1
  have at1 := h'.ext e1 i1
  cases bb with
  | true =>
   rw [if_pos rfl]
   refine hS.s at1 b _ _ _ _ (T.all_bind.mp (k1.1 rfl)) (fun f x s5 g5 m5 e5 i5 r5 k5 => ?_) noE
   obtain ⟨fl, lo5⟩ := x
   obtain ⟨r5, l5⟩ := r5
   have E5 := E'.then (e1.noX.then e5)
   cases r5 with
   | next => exact ⟨k, Nat.lt_succ_self _, (hJ _ _).mpr ⟨g5, m5, lo5, k5, E5, h'.to i5 l5⟩⟩
   | cont => exact ⟨k, Nat.lt_succ_self _, (hJ _ _).mpr ⟨g5, m5, lo5, k5, E5, h'.to i5 l5⟩⟩
   | brk => exact hR _ _ (hQ _ (.next, lo5) _ _ _ E5 i5 ⟨.next, l5⟩ k5)
   | ret rr => exact hR _ _ (hQ _ _ _ _ _ E5 i5 ⟨.ret rr, l5⟩ k5)
  | false =>
   rw [if_neg (by decide)]
   exact wpAny_execs_nil' (hR _ _ (hQ _ _ _ _ _ (E'.then e1.noX) i1 ⟨.next, at1.loc⟩ (k1.2 rfl)))
theorem ex_while (hS : SoundS c C n R) (h : At c C n A env L s g lo m) (t : Expr) (b o : List Stmt) (p : Pos) : Tri c A (OwnA L env.cells) s g (exec (.While t b o p) env) (FlowR c C L env.cells) (exT C R (.While t b o p) lo m) := by
 refine Tri.cond fun ho => fun Q E K KX hA hQ hE => ?_
 rw [List.isEmpty_iff.mp ho]
 exact wpAny_While (while_loop hS (fun _ _ q => q) hQ C.wf (.refl ..) h (T.quiet_all hA))
theorem Tri.flow {t : Sem Flow} {f : Flow} {f' : Fl} (h : At c C n A env L s g lo m) (hf : FlOK c.w.params g f f') (ht : ∀ (Q : Flow → Shared → Prop) (E : Value → Shared → Prop), Q f s → wpAny (model pw c.w) A t Q E s) :
  Tri c A (OwnA L env.cells) s g t (FlowR c C L env.cells) (.leaf ((f', lo), m)) := fun Q E _ _ hA hQ _ => ht Q E (hQ _ _ _ _ _ (.refl ..) h.inv ⟨hf, h.loc⟩ hA)
theorem ex_ok (hS : SoundS c C n R) (h : At c C n A env L s g lo m) (st : Stmt) : Tri c A (OwnA L env.cells) s g (exec st env) (FlowR c C L env.cells) (exT C R st lo m) := by
 have hif : ∀ t b o p, Tri c A (OwnA L env.cells) s g (exec (.If t b o p) env) (FlowR c C L env.cells) (exT C R (.If t b o p) lo m) := fun t b o p => by
  intro Q E K KX hA hQ hE
  refine wpAny_If ((hS.e.tr h t).useN hA hQ hE fun a x s1 g1 m1 e1 i1 r1 k1 hQ1 hE1 => ?_)
  obtain rfl : a = x := r1
  have h1 := h.ext e1 i1
  cases a with
  | true => exact hS.s h1 b _ _ _ _ (k1.1 rfl) hQ1 hE1
  | false => exact hS.s h1 o _ _ _ _ (k1.2 rfl) hQ1 hE1
 have hret : ∀ e p, Tri c A (OwnA L env.cells) s g (exec (.Return (some e) p) env) (FlowR c C L env.cells) (exT C R (.Return (some e) p) lo m) := fun e p => by
  intro Q E K KX hA hQ hE
  refine wpAny_Return_some ((hS.e.ev h e).useN hA hQ hE fun a x s1 g1 m1 e1 i1 r1 k1 hQ1 hE1 => ?_)
  exact hQ1 _ _ _ _ _ (.refl ..) i1 ⟨.ret r1, (h.ext e1 i1).loc⟩ k1
 have hexpr : ∀ e p, Tri c A (OwnA L env.cells) s g (exec (.Expr e p) env) (FlowR c C L env.cells) (exT C R (.Expr e p) lo m) := fun e p => by
  refine Tri.cond fun hn => fun Q E K KX hA hQ hE => ?_
  refine wpAny_Expr_any ((hS.e.ev h e).useN hA hQ hE fun a x s1 g1 m1 e1 i1 r1 k1 hQ1 hE1 => ?_) ?_ (noSwap_of hn h.eo.scope)
  ·exact hQ1 _ _ _ _ _ (.refl ..) i1 ⟨.next, (h.ext e1 i1).loc⟩ k1
  ·unfold interactive; rw [h.eo.scope, h.eo.kind]; rfl
 cases st with
 | Pass p => exact Tri.flow h .next fun Q E q => wpAny_Pass q
 | Break p => exact Tri.flow h .brk fun Q E q => wpAny_Break q
 | Continue p => exact Tri.flow h .cont fun Q E q => wpAny_Continue q
 | Return e p =>
  cases e with
  | none => exact Tri.flow h (.ret .none) fun Q E q => wpAny_Return_none q
  | some e => exact hret e p
 | Expr e p => exact hexpr e p
 | If t b o p => exact hif t b o p
 | Assign ts e p => exact Tri.opt fun t ht => by rw [oneV_s ht]; exact ex_asg hS.e h t e p
 | For t it b o p => exact ex_for hS h t it b o p
 | While t b o p => exact ex_while hS h t b o p
 | _ => exact Tri.stuck
theorem exs_ok (hS : SoundS c C n R) : ∀ (b : List Stmt) {s g lo m}, At c C n A env L s g lo m → Tri c A (OwnA L env.cells) s g (execs b env) (FlowR c C L env.cells) (exsT C R b lo m)
 | [], _, _, _, _, h => Tri.flow h .next fun _ _ q => wpAny_execs_nil' q
 | st :: r, s, g, lo, m, h => fun Q E K KX hA hQ hE => by
  refine wpAny_execs_cons ((ex_ok hS h st).use hA hQ hE fun f x s1 g1 m1 e1 i1 r1 k1 hQ1 hE1 => ?_)
  obtain ⟨fl, lo1⟩ := x
  obtain ⟨r1, l1⟩ := r1
  dsimp only at r1 l1 k1
  have h1 : At c C n A env L s1 g1 lo1 m1 := ⟨h.eo, h.room, i1, l1⟩
  cases r1 with
  | next => exact exs_ok hS r h1 Q E K KX k1 hQ1 hE1
  | brk => exact hQ1 _ _ _ _ _ (.refl ..) i1 ⟨.brk, l1⟩ k1
  | cont => exact hQ1 _ _ _ _ _ (.refl ..) i1 ⟨.cont, l1⟩ k1
  | ret rr => exact hQ1 _ _ _ _ _ (.refl ..) i1 ⟨.ret rr, l1⟩ k1
theorem ev_ok (O : ObjInt c) (hc : CfgOK c C n) (hR : SoundE c C n R) (h : At c C n A env L s g lo m) (e : Expr) : Tri c A noX s g (eval e env) (RepR c) (evT C R e lo m) := by
 cases e with
 | Constant k i p => exact ev_const h k i p
 | Name x p => exact ev_name h hc x p
 | BinOp l op r p => exact ev_binop hR h l r op p
 | UnaryOp op e p => exact ev_unop hR h e op p
 | BoolOp op es p => exact bool_ok hR op p es h
 | Compare l ops es p => exact ev_compare O hR h l ops es p
 | IfExp t b o p => exact ev_ifexp hR h t b o p
 | Attribute o x p => exact ev_attr hR h o x p
 | Tuple es k p => exact ev_tuple hR h es k p
 | List es p => exact ev_list hR h es p
 | Subscript o i p =>
  cases i with
  | Slice a b d q =>
   refine Tri.cond fun hd => Tri.opt fun b' hb => ?_
   rw [hb, Option.isNone_iff_eq_none.mp hd]
   cases a with
   | none => exact ev_slice0 hR h o b' p q
   | some a => exact ev_slice hR h o a b' p q
  | _ => exact ev_sub hR h o _ p fun _ _ _ _ q => nomatch q
 | ListComp elt gens S p => exact Tri.opt fun a ha => by rw [compV_s ha]; exact ev_comp hR h a.elt a.x a.px a.iter a.ifs a.S a.pos
 | Dict ks vs p =>
  exact Tri.cond fun hq => by
   have hq := Bool.and_eq_true_iff.mp hq
   rw [List.isEmpty_iff.mp hq.1, List.isEmpty_iff.mp hq.2]; exact ev_dict (R := R) h p
 | Call f es ks p =>
  exact Tri.cond fun hq => by
   rw [List.isEmpty_iff.mp hq]
   cases f with
   | Attribute o x ap => exact ev_method hR hc h o x ap es p
   | _ => exact ev_call hR hc h _ es p (fun _ _ _ q => nomatch q) rfl
 | _ => exact Tri.stuck
theorem tr_ok (O : ObjInt c) (hR : SoundE c C n R) (h : At c C n A env L s g lo m) (e : Expr) : Tri c A noX s g (isTrue e env (eval e env)) BoolR (trT C R e lo m) := by
 have plain : ∀ e, (isTrue e env (eval e env) = (do let v ← eval e env; standAt e.pos; holding [v] (truthy v))) → trT C R e lo m = ((R.ev e lo m).bind fun x => optT (truB x.1) "truth" fun b => .leaf (b, x.2)) → Tri c A noX s g (isTrue e env (eval e env)) BoolR (trT C R e lo m) := by
  intro e he ht
  rw [ht]
  intro Q E K KX hA hQ hE
  refine isTrue_plain ((hR.ev h e).use hA hQ hE fun v x s1 g1 m1 e1 i1 r1 k1 hQ1 hE1 => ?_) he
  obtain ⟨b, hb, k1⟩ := optT_all k1
  exact tru_ok i1 r1 hb fun k => hQ1 _ _ _ _ _ (.toks ..) (i1.toks k) rfl k1
 cases e with
 | UnaryOp op e p =>
  cases op with
  | Not =>
   intro Q E K KX hA hQ hE
   refine isTrue_not ((hR.tr h e).use hA hQ hE fun b x s1 g1 m1 e1 i1 r1 k1 hQ1 hE1 => ?_)
   obtain rfl : b = x := r1
   exact hQ1 _ _ _ _ _ (.refl ..) i1 rfl k1
  | _ => exact plain _ rfl rfl
 | BoolOp op es p => exact all_ok hR op p _ es h
 | IfExp t b o p =>
  intro Q E K KX hA hQ hE
  refine isTrue_IfExp ((hR.tr h t).use hA hQ hE fun a x s1 g1 m1 e1 i1 r1 k1 hQ1 hE1 => ?_)
  obtain rfl : a = x := r1
  have h1 := h.ext e1 i1
  cases a with
  | true => exact hR.tr h1 b _ _ _ _ (k1.1 rfl) hQ1 hE1
  | false => exact hR.tr h1 o _ _ _ _ (k1.2 rfl) hQ1 hE1
 | Compare l ops es p => exact tr_compare O hR h l ops es p _
 | _ => exact plain _ rfl rfl
end
noncomputable def run : Nat → Cfg → Rec
 | 0, _ => ⟨fun _ _ _ => .stuck "fuel", fun _ _ _ => .stuck "fuel", fun _ _ _ => .stuck "fuel", fun _ _ _ _ => .stuck "fuel", fun _ _ _ _ => .stuck "fuel"⟩
 | k + 1, C => ⟨evT C (run k C), trT C (run k C), exsT C (run k C), fun S => (run k { C with scope := S }).ev, fun S => (run k { C with scope := S }).tr⟩
theorem CfgOK.scope {c : Cx} {C : Cfg} {n : Nat} (h : CfgOK c C n) (S : Scope) : CfgOK c { C with scope := S } n := ⟨h.glob, h.keep, h.call⟩
theorem run_ok {c : Cx} (O : ObjInt c) {n : Nat} : ∀ (k : Nat) (C : Cfg), CfgOK c C n → SoundS c C n (run k C)
 | 0, _, _ => ⟨⟨fun _ _ => Tri.stuck, fun _ _ => Tri.stuck, fun _ _ _ _ _ _ _ _ _ _ => Tri.stuck, fun _ _ _ _ _ _ _ _ _ _ => Tri.stuck⟩, fun _ _ => Tri.stuck⟩
 | k + 1, C, h =>
  have ih := run_ok O k C h
  have ih' := fun S => run_ok O k { C with scope := S } (h.scope S)
  ⟨⟨fun hat e => ev_ok O h ih.e hat e, fun hat e => tr_ok O ih.e hat e, fun S => (ih' S).e.ev, fun S => (ih' S).e.tr⟩, fun hat b => exs_ok ih b hat⟩
noncomputable def retT (x : (Fl × Lo) × Mem) : T (AV × Mem) := match x.1.1 with
 | .ret v => .leaf (v, x.2)
 | .next => .leaf (.none, x.2)
 | _ => .stuck "flow"
noncomputable def bodyT (C : Cfg) (fuel : Nat) (st : Stmt) (lo0 : Lo) (m : Mem) : T (AV × Mem) := (((run fuel { C with scope := fdScope st }).exs (fdBody st) lo0 m).quiet).bind retT
theorem Ext.drop {B X : Addr → Prop} {g g' : Gh} {s s' : Shared} (x : Ext A B X g s g' s') (h : ∀ a, B a → ¬ X a) : Ext A B Mine.noX g s g' s' :=
 ⟨x.gens, x.drawn, x.os, x.gr, x.newF, x.newT, fun a o b e nt _ => x.keep a o b e nt (h a b), x.live⟩
theorem Ext.around {A A' : Around} {B X : Addr → Prop} {g g' : Gh} {s s' : Shared} (x : Ext A' B X g s g' s') (h : ∀ a, B a → IsFr A' a → IsFr A a) : Ext A B X g s g' s' :=
 ⟨x.gens, x.drawn, x.os, x.gr, x.newF, x.newT, fun a o b e nt nx => let ⟨sl, h1, h2⟩ := x.keep a o b e nt nx; ⟨sl, h1, fun q => h2 fun r => q (h a b r)⟩, x.live⟩
theorem isFr_deeper {A : Around} {env : Env} {L p : Addr} (hf : env.frame = some L) (h : IsFr (A.deeper env) p) : p = L ∨ IsFr A p := by
 obtain ⟨l, e, h1, h2, h3⟩ := h
 cases q : A.frames with
 | none =>
  have : (A.deeper env).frames = none := by show A.frames.map _ = none; rw [q]; rfl
  rw [this] at h1; cases h1
 | some l0 =>
  rw [Around.frames_deeper q] at h1
  cases h1
  rcases List.mem_cons.mp h2 with rfl | h2
  ·rw [hf] at h3; cases h3; exact .inl rfl
  ·exact .inr ⟨l0, e, q, h2, h3⟩
theorem lookup_app {β : Type} {x : Str} {u : β} {b : List (Str × β)} : ∀ {a : List (Str × β)}, (a ++ b).lookup x = (a.lookup x).or (b.lookup x)
 | [] => rfl
 | (k, w) :: a => by
  rw [List.cons_append, List.lookup_cons, List.lookup_cons]
  cases x == k with
  | true => rfl
  | false => exact lookup_app (u := u)
theorem lookup_rev_zip {β : Type} {x : Str} {u : β} : ∀ {l : List (Str × β)}, l.lookup x = some u → (l.map (·.1)).Nodup → l.reverse.lookup x = some u
 | [], h, _ => nomatch h
 | (k, w) :: r, h, nd => by
  have nd := List.nodup_cons.mp nd
  rw [List.reverse_cons, lookup_app (u := u)]
  rw [List.lookup_cons] at h
  cases hq : x == k with
  | true =>
   rw [hq] at h
   have e : x = k := beq_iff_eq.mp hq
   have : r.reverse.lookup x = none := List.lookup_eq_none_iff.mpr fun p hp => bne_iff_ne.mpr fun q => nd.1 (by
    rw [← e, q]; exact List.mem_map.mpr ⟨p, List.mem_reverse.mp hp, rfl⟩)
   rw [this, List.lookup_cons, hq]; exact h
  | false =>
   rw [hq] at h
   rw [lookup_rev_zip h nd.2]; rfl
inductive Binds (P : Params) (g : Gh) : Lo → List (Str × Value) → Prop
 | nil : Binds P g [] []
 | cons {x v u lo bs} : Rep P g v u → Binds P g lo bs → Binds P g ((x, v) :: lo) ((x, u) :: bs)
theorem Binds.get {P : Params} {g : Gh} {lo : Lo} {bs : List (Str × Value)} (b : Binds P g lo bs) {x : Str} {v : AV} (h : getLo x lo = some v) : ∃ u, bs.lookup x = some u ∧ Rep P g v u := by
 induction b with
 | nil => exact nomatch h
 | @cons k w u lo bs r _ ih =>
  have h : (if x = k then some w else getLo x lo) = some v := h
  rw [List.lookup_cons]
  by_cases e : x = k
  ·rw [if_pos e] at h
   rw [e, beq_self_eq_true, ← Option.some.inj h]
   exact ⟨_, rfl, r⟩
  ·rw [if_neg e] at h
   rw [show (x == k) = false from beq_eq_false_iff_ne.mpr e]
   exact ih h
theorem Binds.keys {P : Params} {g : Gh} {lo : Lo} {bs : List (Str × Value)} (b : Binds P g lo bs) : bs.map (·.1) = lo.map (·.1) := by
 induction b with
 | nil => rfl
 | cons _ _ ih => rw [List.map_cons, List.map_cons, ih]
theorem Binds.mono {P : Params} {g g' : Gh} (gr : Gr g g') {lo : Lo} {bs : List (Str × Value)} (b : Binds P g lo bs) : Binds P g' lo bs := by
 induction b with
 | nil => exact .nil
 | cons r _ ih => exact .cons (r.mono gr) ih
noncomputable def scopeOK (S : Scope) (lo : Lo) : Bool := (S.kind == .function) && !S.isCoroutine && !S.isGenerator && S.names.all (fun p => !(p.2 == .cell)) && lo.all (fun p => S.names.lookup p.1 == some .local && !(p.1 == ("__debug__" : Str))) && decide (lo.map (·.1)).Nodup
section
variable {c : Cx} {C : Cfg} {n fuel : Nat} {A : Around} {s : Shared} {g : Gh} {m : Mem}
theorem Inv.enter (I : Inv c A g s m) {env : Env} {L : Addr} {h' : Heap} {t : Nat} (hk : env.scope.kind = .function) (hf : env.frame = some L) (hL : ¬ Liv s.heap L) (hn : ∃ mm, h'.Ns L mm) (hkeep : ∀ b o, s.heap.get? b = some o → h'.get? b = some o) :
  Inv c (A.deeper env) g { s with heap := h', toks := t } m := by
 have I1 := I.priv (p := L) (fun b o _ e => hkeep b o e) (by
  cases q : g.F L with
  | none => rfl
  | some o => exact absurd ⟨_, I.frz _ _ q⟩ hL) (fun q => hL (I.free _ q).2) (I.notFr hL) t
 exact {
  frz := I1.frz
  base := I1.base
  len := I1.len
  cell := I1.cell
  nd := I1.nd
  free := I1.free
  stk := by
   obtain ⟨l, h1, h2⟩ := I1.stk
   refine ⟨env :: l, Around.frames_deeper h1, fun e he => ?_⟩
   rcases List.mem_cons.mp he with rfl | he
   ·obtain ⟨mm, o, es, ep, ho, hd, _⟩ := hn
    refine ⟨by rw [hk]; decide, L, o, es, ep, hf, ho, hd, ?_, fun q => hL (I.free _ q).2⟩
    cases q : g.F L with
    | none => rfl
    | some o => exact absurd ⟨_, I.frz _ _ q⟩ hL
   ·exact h2 e he }
theorem Inv.leave {env : Env} (I : Inv c (A.deeper env) g s m) (h : ∃ l, A.frames = some l) : Inv c A g s m :=
 ⟨I.frz, I.base, I.len, I.cell, I.nd, I.free, by
  obtain ⟨l, hl⟩ := h
  obtain ⟨l', h1, h2⟩ := I.stk
  rw [Around.frames_deeper hl] at h1
  cases h1
  exact ⟨l, hl, fun e he => h2 e (.tail _ he)⟩⟩
noncomputable def TriC (c : Cx) (A : Around) (X : Addr → Prop) (s : Shared) (g : Gh) (f : Value) (vs : List Value) (τ : T (AV × Mem)) : Prop :=
 ∀ (Q : Value → Shared → Prop) (E : Value → Shared → Prop) (K : AV × Mem → Prop) (KX : AV → Mem → Prop), τ.All K KX → Post c A X s g (RepR c) K Q → PostX c A X s g KX E →
  codeAny (model pw c.w) A (.call f ⟨vs, []⟩) (fun r s' => match r with | .ok (.ret v) => Q v s' | .ok _ => False | .error e => E e s') s
theorem TriC.tri {X : Addr → Prop} {f : Value} {vs : List Value} {τ : T (AV × Mem)} (h : TriC c A X s g f vs τ) : Tri c A X s g (PySem.call f vs) (RepR c) τ := fun Q E K KX hA hQ hE => wpAny_call (h Q E K KX hA hQ hE)
theorem call_body (O : ObjInt c) (hc : CfgOK c C n) {f : Addr} {st : Stmt} {qual : String} {dV : Value} {pm : String} {pt : Tok} {cd : Addr} {an : Option Addr} (ho : (kFrag c.w.params).lookup f = some (fnK st qual dV pm pt cd an))
  (hcd : codeIn (kFrag c.w.params) (.ref cd) (Str.ofString qual) = true) {vs : List Value} {binds : List (Str × Value)} {lo0 : Lo}
  (hbind : BindsTo s (fnOf (fdName st) (Str.ofString qual) (fdParams st) (fdBody st) (fdScope st) dV .none .none (.str (Str.ofString pm) pt) an (.ref cd) .none) ⟨vs, []⟩ binds)
  (hb : Binds c.w.params g lo0 binds) (hs : scopeOK (fdScope st) lo0 = true) (hroom : Room A (n + 1)) (I : Inv c A g s m) :
  TriC c A noX s g (.ref f) vs (bodyT C fuel st lo0 m) := by
 intro Q E K KX hA hQ hE
 unfold scopeOK at hs
 simp only [Bool.and_eq_true, List.all_eq_true, beq_iff_eq, Bool.not_eq_true', decide_eq_true_eq, beq_eq_false_iff_ne] at hs
 obtain ⟨⟨⟨⟨⟨s1, s2⟩, s3⟩, s4⟩, s5⟩, s6⟩ := hs
 obtain ⟨hr1, hr2, hr3⟩ := hroom
 have hL : ¬ Liv s.heap s.heap.objs.size := notLiv _
 refine codeAny_call_def (o := fnK st qual dV pm pt cd an) (body := fdBody st) (binds := binds) (by lia) (I.K _ _ ho) rfl (c.lim.keeps I.keeps) (codeRec_of I.K hcd) rfl hbind (fun x hx => s4 x hx) ?_ (fun h₀ hns hk => ?_) s2 s3 s1
 ·intro x hx
  have : x.1 ∈ lo0.map (·.1) := hb.keys ▸ List.mem_map_of_mem hx
  obtain ⟨p, hp, e⟩ := List.mem_map.mp this
  rw [← e]; exact (s5 p hp).1
 ·generalize henv : callEnv (fnOf (fdName st) (Str.ofString qual) (fdParams st) (fdBody st) (fdScope st) dV .none .none (.str (Str.ofString pm) pt) an (.ref cd) .none) s.heap.objs.size f = env
  have e1 : env.scope = fdScope st := by rw [← henv]; rfl
  have e2 : env.frame = some s.heap.objs.size := by rw [← henv]; rfl
  have e3 : env.locals = s.heap.objs.size := by rw [← henv]; rfl
  have e4 : env.cells = [] := by rw [← henv]; rfl
  have I2 := I.enter (t := s.toks + binds.length) (env := env) (by rw [e1]; exact s1) e2 hL ⟨_, hns⟩ hk
  have E2 : Ext A (Liv s.heap) noX g s g { s with heap := h₀, toks := s.toks + binds.length } := Ext.priv (p := s.heap.objs.size) (fun b o _ e => hk b o e) hL _
  have hat : At c { C with scope := fdScope st } n (A.deeper env) env s.heap.objs.size { s with heap := h₀, toks := s.toks + binds.length } g lo0 m := by
   refine ⟨⟨e1, s1, e3, by rw [← henv]; rfl, by rw [← henv]; rfl⟩, ⟨hr1, ?_, ?_⟩, I2, ?_⟩
   ·show A.depth + 1 + 4 * n + 4 < recursionLimit; lia
   ·show A.units + 3 + 16 * n + 16 < cLine; lia
   ·rw [e4]
    refine ⟨⟨_, hns, fun x v hx => ?_⟩, I.fresh, I.freshT, (fun _ _ h => nomatch h), (fun x hx => absurd rfl (s4 _ (mem_of_lookup hx))), (fun _ _ _ h => nomatch h)⟩
    obtain ⟨u, hu, ru⟩ := hb.get hx
    have hm := mem_of_lookup hu
    have : x ∈ lo0.map (·.1) := hb.keys ▸ List.mem_map_of_mem hm
    obtain ⟨p, hp, rfl⟩ := List.mem_map.mp this
    exact ⟨by simpa using (s5 p hp).2, .inl ⟨(s5 p hp).1, u, lookup_rev_zip hu (hb.keys ▸ s6), ru⟩⟩
  have hS := run_ok O fuel { C with scope := fdScope st } (hc.scope _)
  refine hS.s hat (fdBody st) _ _ _ (fun _ _ => False) (T.quiet_all (T.all_bind.mp hA)) (fun fl x s' g' m' x' i' r' k' => ?_) (fun _ _ _ _ _ _ _ _ h => h.elim)
  obtain ⟨r1, l1⟩ := r'
  have E3 : Ext A (Liv s.heap) noX g s g' s' := by
   refine E2.trans (((x'.weaken E2.liv fun _ h => h).around fun a ha q => (isFr_deeper e2 q).elim (fun r => absurd (r ▸ ha) hL) id).drop fun a ha q => ?_)
   rcases q with rfl | ⟨z, hz⟩
   ·exact hL ha
   ·rw [e4] at hz; cases hz
  have I3 := i'.leave (let ⟨l, h, _⟩ := I.stk; ⟨l, h⟩)
  obtain ⟨fl', lo'⟩ := x
  dsimp only at r1 k'
  unfold retT at k'
  cases r1 with
  | next => exact hQ _ _ _ _ _ E3 I3 .none k'
  | ret r => exact hQ _ _ _ _ _ E3 I3 r k'
  | brk => exact k'.elim
  | cont => exact k'.elim
end
theorem tcall_weight (D : Addr) (vs : List Value) (kw : List (Str × Value)) : (Code.builtin "type.__call__" ⟨.ref D :: vs, kw⟩).weight = 1 := by kernel_rfl
theorem tcall_units (a : Args) : (Code.builtin "type.__call__" a).cUnits = 1 := by kernel_rfl
theorem tcall_envs (a : Args) : (Code.builtin "type.__call__" a).envs = [] := by kernel_rfl
theorem make_facts (P : Params) : ([211, 366, 486, 614, 818, 900].all (fun C => makesIn (kFrag P) C)) = true := by kernel_rfl
theorem make_fact {P : Params} {C : Addr} (h : known C = true) : makesIn (kFrag P) C = true := List.all_eq_true.mp (make_facts P) C (known_in h)
noncomputable abbrev closedAV (k : Nat) (x : AV) : Bool := closedP (fun j => Nat.blt j k) x
noncomputable abbrev closedAVs (k : Nat) (x : List AV) : Bool := closedPs (fun j => Nat.blt j k) x
noncomputable def closedMO (k : Nat) : MO → Bool
 | .lst xs => closedAVs k xs
 | .inst _ fs => closedAVs k (fs.map (·.2))
 | .junk => true
noncomputable def Gh.take (g : Gh) (k : Nat) : Gh := ⟨g.F, g.th.take k⟩
section
variable {P : Params} {g : Gh} {k : Nat}
theorem take_th (j : Nat) (l : List Addr) (h : Nat.blt j k = true) (e : g.th[j]? = some l) : (g.take k).th[j]? = some l := (List.getElem?_take_of_lt (blt_of h)).trans e
theorem Rep.take {x : AV} {v : Value} (h : closedAV k x = true) (r : Rep P g x v) : Rep P (g.take k) x v :=
 renAV_id x ▸ (RMap.gen (g := g) (g' := g.take k) (p := fun j => j) (q := fun j => j) (fun _ _ h => h) take_th x h).ap v ((renAV_id x).symm ▸ r)
theorem Reps.take {x : List AV} {v : List Value} (h : closedAVs k x = true) (r : Reps P g x v) : Reps P (g.take k) x v :=
 renAVs_id x ▸ (RMap.gens (g := g) (g' := g.take k) (p := fun j => j) (q := fun j => j) (fun _ _ h => h) take_th x h).r v ((renAVs_id x).symm ▸ r)
theorem Ents.take {f : List Str} {x : List AV} {v : List DictEntry} (h : closedAVs k x = true) (r : Ents P g f v x) : Ents P (g.take k) f v x :=
 renAVs_id x ▸ (RMap.gens (g := g) (g' := g.take k) (p := fun j => j) (q := fun j => j) (fun _ _ h => h) take_th x h).e f v ((renAVs_id x).symm ▸ r)
end
section
variable {c : Cx} {C : Cfg} {n fuel : Nat} {A : Around} {s s' : Shared} {g g' : Gh} {m m' : Mem} {B X : Addr → Prop}
theorem mem_take {a : Addr} {k : Nat} (h : a ∈ (g.take k).th.flatten) : a ∈ g.th.flatten := by
 obtain ⟨l, h1, h2⟩ := List.mem_flatten.mp h
 exact List.mem_flatten.mpr ⟨l, List.mem_of_mem_take h1, h2⟩
theorem Inv.drop (I : Inv c A g s m) (k : Nat) (hc : (m.take k).all (closedMO k) = true) : Inv c A (g.take k) s (m.take k) where
 frz := I.frz
 base := I.base
 len := by show (m.take k).length = (g.th.take k).length; rw [List.length_take, List.length_take, I.len]
 cell := fun j mo l e1 e2 => by
  have hj : j < k := by
   have := (List.getElem?_eq_some_iff.mp e1).1
   rw [List.length_take] at this; lia
  have e2 : (g.th.take k)[j]? = some l := e2
  rw [List.getElem?_take_of_lt hj] at e1 e2
  have cl : closedMO k mo = true := List.all_eq_true.mp hc mo (List.mem_of_getElem? (by rw [List.getElem?_take_of_lt hj]; exact e1))
  have h := I.cell j mo l e1 e2
  cases mo with
  | lst xs => obtain ⟨a, vs, h1, h2, h3⟩ := h; exact ⟨a, vs, h1, h2, h3.take cl⟩
  | inst D fs => obtain ⟨a, d, es, n, h1, h2, h3, h4⟩ := h; exact ⟨a, d, es, n, h1, h2, h3, h4.take cl⟩
  | junk => trivial
 nd := by
  have := I.nd
  rw [← List.take_append_drop k g.th, List.flatten_append, List.nodup_append] at this
  exact this.1
 free := fun a ha => I.free a (mem_take ha)
 stk := by
  obtain ⟨l, h1, h2⟩ := I.stk
  refine ⟨l, h1, fun env he => ?_⟩
  obtain ⟨a, F, o', es, n', f1, f2, f3, f4, f5⟩ := h2 env he
  exact ⟨a, F, o', es, n', f1, f2, f3, f4, fun q => f5 (mem_take q)⟩
theorem Ext.take (x : Ext A B X g s g' s') (k : Nat) (hk : g.th.length ≤ k) : Ext A B X g s (g'.take k) s' where
 gens := x.gens
 drawn := x.drawn
 os := x.os
 gr := ⟨x.gr.F, fun j l h => by
  have hj : j < k := Nat.lt_of_lt_of_le (List.getElem?_eq_some_iff.mp h).1 hk
  show (g'.th.take k)[j]? = some l
  rw [List.getElem?_take_of_lt hj]; exact x.gr.th j l h⟩
 newF := x.newF
 newT := fun a h => x.newT a (mem_take h)
 keep := x.keep
 live := x.live
noncomputable def truncT (k : Nat) (x : AV × Mem) : T (AV × Mem) := match closedAV k x.1 && (x.2.take k).all (closedMO k) with
 | true => .leaf (x.1, x.2.take k)
 | false => .stuck "handle"
theorem Tri.trunc {t : Sem Value} {τ : T (AV × Mem)} (h : Tri c A X s g t (RepR c) τ) (I : Inv c A g s m) : Tri c A X s g t (RepR c) (τ.bind (truncT m.length)) := by
 intro Q E K KX hA hQ hE
 refine h _ _ _ _ (T.all_bind.mp hA) (fun a x s1 g1 m1 e1 i1 r1 k1 => ?_) hE
 unfold truncT at k1
 split at k1
 ·rename_i hc
  simp only [Bool.and_eq_true] at hc
  exact hQ _ _ _ _ _ (e1.take _ (Nat.le_of_eq I.len.symm)) (i1.drop _ hc.2) (r1.take hc.1) k1
 ·exact k1.elim
noncomputable def keysEq : List Str → List Str → Bool
 | [], [] => true
 | a :: r, b :: q => a == b && keysEq r q
 | _, _ => false
theorem keysEq_of : ∀ {a b : List Str}, keysEq a b = true → a = b
 | [], [], _ => rfl
 | x :: r, y :: q, h => by
  unfold keysEq at h
  rw [Bool.and_eq_true] at h
  rw [beq_iff_eq.mp h.1, keysEq_of h.2]
 | [], _ :: _, h => by cases h
 | _ :: _, [], h => by cases h
noncomputable def madeT (D : Addr) (k : Nat) (x : AV × Mem) : T (AV × Mem) := match x.1 with
 | .none => match x.2[k]? with
  | some (.inst D' fs) => match Nat.beq D D' && keysEq (fs.map (·.1)) (flds D) && closedAVs k (fs.map (·.2)) && (x.2.take k).all (closedMO k) with
   | true => .leaf (.obj D (fs.map (·.2)), x.2.take k)
   | false => .stuck "made"
  | _ => .stuck "made"
 | _ => .stuck "made"
noncomputable def madeM (k : Nat) (x : AV × Mem) : T (AV × Mem) := match x.1 with
 | .none => .leaf (.hnd k, x.2)
 | _ => .stuck "made"
theorem make_ok {D fI : Addr} (hD : known D = true) (hi : findIn (kFrag c.w.params) (.ref D) "__init__" = some (some (.ref fI))) (hf : typeIn (kFrag c.w.params) (.ref fI) = some (.type "function")) (hroom : Room A (n + 1))
  {vs : List Value} {τ : T (AV × Mem)} (I : Inv c A g s m)
  (h : ∀ A' s' g' a, Room A' n → Inv c A' g' s' (m ++ [.inst D []]) → Gr g g' → g'.th[m.length]? = some a → (∃ x d, a = [x, d]) → (∀ x d, a = [x, d] → TriC c A' noX s' g' (.ref fI) (.ref x :: vs) τ)) (mu : Bool) :
  TriC c A noX s g (.ref D) vs (τ.bind (if mu then madeM m.length else madeT D m.length)) := by
 intro Q E K KX hA hQ hE
 obtain ⟨sh, sg, sd, st, so⟩ := s
 obtain ⟨hr1, hr2, hr3⟩ := hroom
 refine make_core (makes_of I.K (make_fact hD)) (looks_findIn I.K hi) (fun self => bind_fn I.K self hf) (.inl rfl) ?_
 generalize hA' : A.under (.builtin "type.__call__" ⟨.ref D :: vs, []⟩) = A'
 have q1 : A'.handled = A.handled := by rw [← hA']; rfl
 have q2 : A'.depth = A.depth + 1 := by rw [← hA']; show A.depth + (Code.builtin "type.__call__" ⟨.ref D :: vs, []⟩).weight = _; rw [tcall_weight]
 have q3 : A'.units = A.units + 1 := by rw [← hA']; show A.units + (Code.builtin "type.__call__" ⟨.ref D :: vs, []⟩).cUnits = _; rw [tcall_units]
 have q4 : A'.frames = A.frames := by rw [← hA']; show pushEnvs (Code.builtin "type.__call__" ⟨.ref D :: vs, []⟩).envs A.frames = _; rw [tcall_envs]; rfl
 have fr : ∀ {g s m}, Inv c A g s m → Inv c A' g s m := fun I => ⟨I.frz, I.base, I.len, I.cell, I.nd, I.free, by rw [q4]; exact I.stk⟩
 have rf : ∀ {g s m}, Inv c A' g s m → Inv c A g s m := fun I => ⟨I.frz, I.base, I.len, I.cell, I.nd, I.free, by rw [← q4]; exact I.stk⟩
 have ar : ∀ {B X g s g' s'}, Ext A' B X g s g' s' → Ext A B X g s g' s' := fun x => x.around fun a _ ⟨l, e, h1, h2, h3⟩ => ⟨l, e, q4 ▸ h1, h2, h3⟩
 have room' : Room A' n := ⟨q1.trans hr1, by rw [q2]; lia, by rw [q3]; lia⟩
 have b1 : Heap.ExtBut sh.objs.size sh (sh.push emptyDict) := push_but _ _
 have b2 : Heap.ExtBut (sh.push emptyDict).objs.size (sh.push emptyDict) ((sh.push emptyDict).push (instObj D sh.objs.size)) := push_but _ _
 have n1 : ¬ Liv sh sh.objs.size := notLiv _
 have n2 : ¬ Liv sh (sh.push emptyDict).objs.size := fun q => notLiv _ (q.push emptyDict)
 have e1 : (sh.push emptyDict).objs.size = sh.objs.size + 1 := Heap.size_push ..
 have frs : ∀ p, ¬ Liv sh p → g.F p = none ∧ p ∉ g.th.flatten ∧ ¬ IsFr A p := fun p hp => ⟨by
  cases q : g.F p with
  | none => rfl
  | some o' => exact absurd ⟨_, I.frz _ _ q⟩ hp, fun q => hp (I.free _ q).2, I.notFr hp⟩
 have I1 := I.priv (h' := sh.push emptyDict) b1 (frs _ n1).1 (frs _ n1).2.1 (frs _ n1).2.2 st
 have I2 := I1.priv (h' := (sh.push emptyDict).push (instObj D sh.objs.size)) b2 (frs _ n2).1 (frs _ n2).2.1 (frs _ n2).2.2 st
 have E2 : Ext A (Liv sh) noX g ⟨sh, sg, sd, st, so⟩ g ⟨(sh.push emptyDict).push (instObj D sh.objs.size), sg, sd, st, so⟩ :=
  (Ext.priv (s := ⟨sh, sg, sd, st, so⟩) b1 n1 st).trans (Ext.priv (s := ⟨sh.push emptyDict, sg, sd, st, so⟩) b2 n2 st)
 rw [e1] at n2
 have od : ((sh.push emptyDict).push (instObj D sh.objs.size)).get? sh.objs.size = some (dictOf [] 0) := Heap.get?_push_of_some _ (Heap.get?_push_size _ rfl)
 have oi : ((sh.push emptyDict).push (instObj D sh.objs.size)).get? (sh.objs.size + 1) = some (instObj D sh.objs.size) := by rw [← e1]; exact Heap.get?_push_size _ rfl
 have I3 := I2.adopt (l := [sh.objs.size + 1, sh.objs.size]) (mo := .inst D []) ⟨_, _, [], 0, rfl, oi, od, .nil⟩ (fun a ha => by
   rcases List.mem_cons.mp ha with rfl | ha
   ·exact ⟨⟨⟨_, oi⟩, (frs _ n2).1, (frs _ n2).2.1⟩, (frs _ n2).2.2⟩
   ·rw [List.mem_singleton.mp ha]; exact ⟨⟨⟨_, od⟩, (frs _ n1).1, (frs _ n1).2.1⟩, (frs _ n1).2.2⟩) (by simp)
 have nb : ∀ a ∈ [sh.objs.size + 1, sh.objs.size], ¬ Liv sh a := fun a ha => by
  rcases List.mem_cons.mp ha with rfl | ha
  ·exact n2
  ·rw [List.mem_singleton.mp ha]; exact n1
 have E3 := E2.trans (Ext.adopt (X := noX) nb)
 have th : (g.cell [sh.objs.size + 1, sh.objs.size]).th[m.length]? = some [sh.objs.size + 1, sh.objs.size] := by
  show (g.th ++ [_])[m.length]? = _
  rw [I.len, List.getElem?_append_right (Nat.le_refl _), Nat.sub_self]; rfl
 have call := h A' ⟨(sh.push emptyDict).push (instObj D sh.objs.size), sg, sd, st, so⟩ (g.cell [sh.objs.size + 1, sh.objs.size]) _ room' (fr I3) Gr.cell th ⟨_, _, rfl⟩ _ _ rfl
 have split : ∀ {g1 : Gh} {l : List Addr}, g1.th.flatten.Nodup → g1.th[m.length]? = some l → ∀ a ∈ l, a ∉ (g1.take m.length).th.flatten := by
  intro g1 l nd hl a ha q
  rw [← List.take_append_drop m.length g1.th, List.flatten_append, List.nodup_append] at nd
  refine nd.2.2 a q a (List.mem_flatten.mpr ⟨l, List.mem_of_getElem? (i := 0) ?_, ha⟩) rfl
  rw [List.getElem?_drop]; exact hl
 refine codeAny_mono (call (fun v s' => v = .none ∧ Q (.ref (sh.objs.size + 1)) s') E _ KX (T.all_bind.mp hA) (fun v x s1 g1 m1 y1 j1 r1 k1 => ?_) fun e x s1 g1 m1 y1 j1 f1 k1 => ?_) fun r s' z => ?_
 ·have E4 : Ext A (Liv sh) noX g ⟨sh, sg, sd, st, so⟩ g1 s1 := Ext.then (s := ⟨sh, sg, sd, st, so⟩) E3 (ar y1)
  have J1 := rf j1
  have t1 := y1.gr.th _ _ th
  cases mu with
  | true =>
   rw [if_pos rfl] at k1
   cases x with
   | none =>
    obtain rfl : v = .none := r1.inv
    exact ⟨rfl, hQ _ _ _ _ _ E4 J1 (.hnd t1) k1⟩
   | _ => exact k1.elim
  | false =>
   rw [if_neg (by decide)] at k1
   cases x with
   | none =>
    obtain rfl : v = .none := r1.inv
    unfold madeT at k1
    dsimp only at k1
    refine ⟨rfl, ?_⟩
    split at k1
    ·rename_i D' fs hm
     split at k1
     ·rename_i hc
      simp only [Bool.and_eq_true] at hc
      obtain ⟨⟨⟨c1, c2⟩, c3⟩, c4⟩ := hc
      have c1 := Nat.eq_of_beq_eq_true c1
      have c2 := keysEq_of c2
      subst c1
      obtain ⟨a, d, es, nn, w1, w2, w3, w4⟩ := J1.cell _ _ _ hm t1
      cases w1
      have K1 := J1.drop m.length c4
      have sp := split J1.nd t1
      have pa : Priv (g1.take m.length) s1.heap (sh.objs.size + 1) := ⟨⟨_, w2⟩, (J1.free _ (flat_ix t1 (by simp))).1, sp _ (by simp)⟩
      have pd : Priv (g1.take m.length) s1.heap sh.objs.size := ⟨⟨_, w3⟩, (J1.free _ (flat_ix t1 (by simp))).1, sp _ (by simp)⟩
      have K2 := K1.freeze w3 pd (frs _ n1).2.2
      have hne : sh.objs.size + 1 ≠ sh.objs.size := Nat.succ_ne_self _
      have pa2 : Priv ((g1.take m.length).put sh.objs.size (dictOf es nn)) s1.heap (sh.objs.size + 1) := ⟨pa.liv, by rw [Gh.put_ne hne]; exact pa.nf, pa.nt⟩
      have K3 := K2.freeze w2 pa2 (frs _ n2).2.2
      have G1 : Gr (g1.take m.length) ((g1.take m.length).put sh.objs.size (dictOf es nn)) := Gr.put pd.nf
      have G2 : Gr ((g1.take m.length).put sh.objs.size (dictOf es nn)) (((g1.take m.length).put sh.objs.size (dictOf es nn)).put (sh.objs.size + 1) (instObj D sh.objs.size)) := Gr.put pa2.nf
      have E5 : Ext A (Liv sh) noX g ⟨sh, sg, sd, st, so⟩ (((g1.take m.length).put sh.objs.size (dictOf es nn)).put (sh.objs.size + 1) (instObj D sh.objs.size)) s1 :=
       ((E4.take m.length (Nat.le_of_eq I.len.symm)).trans (Ext.freeze pd.nf n1)).trans (Ext.freeze pa2.nf n2)
      refine hQ _ _ _ _ _ E5 K3 (.obj (d := sh.objs.size) (es := es) (n := nn) Gh.put_self (by rw [Gh.put_ne (Ne.symm hne)]; exact Gh.put_self) ?_) k1
      rw [← c2]
      exact ((w4.take c3).mono G1).mono G2
     ·exact k1.elim
    ·exact k1.elim
   | _ => exact k1.elim
 ·exact hE _ _ _ _ _ (Ext.then (s := ⟨sh, sg, sd, st, so⟩) E3 (ar y1)) (rf j1) (f1.weaken fun a ha => E3.live a ha ha) k1
 ·rcases r with e | (v | _ | _ | _)
  ·exact z
  ·exact z
  ·exact z.elim
  ·exact z.elim
  ·exact z
end
end
section
open PySem PySem.W PyProof.Rows PySem.Calls
open PySem.SeqAt PySem.MeetsSeq
open AutoSeq1 (wpAny_loadPart')
theorem int_eq_declines_inst (b : Int) (u : Tok) (l C d : Addr) :
  Meets (Builtin.«int.__eq__» ⟨[.int b u, .ref l], []⟩) (fun _ R s => s.heap.get? l = some (instObj C d) ∧ R (.ok (.ret .notImplemented)) s) :=
 .of_wp fun prog w A R s h => by obtain ⟨hp, g, d, tk, os⟩ := s; obtain ⟨hl, h⟩ := h; wp_walk using wpAny_loadPart' hl, wpAny_load hl; exact ⟨_, rfl, h⟩
section
variable {prog : Program} {w : World} {A : Around} {E : Value → Shared → Prop} {h : Heap} {g : Array GenState} {dr : Drawn} {tk : Nat} {os : OsState} {a d : Addr} {P : Params}
theorem sub_int_ref (C : Addr) : isSubtype (.type "int") (.ref C) = pure false := by rw [isSubtype_type]; kernel_rfl
theorem typeOf_inst {C : Addr} (ho : h.get? a = some (instObj C d)) : Looks (model prog w) h (typeOf (.ref a)) (.ref C) := (Looks.ld ho).andThen .now
theorem reg_eq_in (P : Params) : findIn (kFrag P) (.ref 486) "__eq__" = some (some (.builtin "object.__eq__")) := by kernel_rfl
theorem reg_obj_in (P : Params) : mroIn (kFrag P) 486 (.type "object") = some true := by kernel_rfl
theorem call_obj_eq (X : (kFrag P).In h) (ho : h.get? a = some (instObj 486 d)) (i : Int) (t : Tok) {Q : Value → Shared → Prop} (hq : Q .notImplemented ⟨h, g, dr, tk, os⟩) :
  wpAny (model prog w) A (call (.builtin "object.__eq__") [.ref a, .int i t]) Q E ⟨h, g, dr, tk, os⟩ := by
 refine wpAny_call (codeAny_call_builtin F.cmp_object.eq.plain F.cmpEntry_eq ?_)
 simp only [checkBuiltinCall, F.cmpKind_eq, F.cmpSplit_eq]
 refine wpAny_bind ?_
 unfold isInstance
 refine wpAny_bind ((typeOf_inst ho).at ((looks_mroIn X (reg_obj_in P)).at ?_))
 simp only [Bool.not_true, Bool.false_eq_true, if_false]
 have ent : ∀ {A' : Around} {Q' : Fin → Shared → Prop} {E' : Value → Shared → Prop}, Q' (.done (.ret .notImplemented)) ⟨h, g, dr, tk, os⟩ → wpAny (model prog w) A' (Builtin.«object.__eq__» ⟨[.ref a, .int i t], []⟩) Q' E' ⟨h, g, dr, tk, os⟩ := fun hq => by
  unfold Builtin.«object.__eq__»
  repeat (first | with_reducible refine wpAny_of_eq (rfl : isSame (.ref a) (.int i t) = pure false) ?_ | wp_step)
  exact hq
 cases hsig : Manifest.signature? "object.__eq__" with
 | none => exact wpAny_pure (ent hq)
 | some sig =>
  have h2 : Bind.checkArgs "object.__eq__" sig ⟨[.ref a, .int i t], []⟩ = pure () := by
   have := F.cmpArgs_eq (.ref a) (.int i t)
   simp only [argsOk, hsig] at this
   exact this
  show wpAny _ _ (Bind.checkArgs "object.__eq__" sig ⟨[.ref a, .int i t], []⟩) _ _ _
  rw [h2]; exact wpAny_pure (ent hq)
theorem special_obj_eq (X : (kFrag P).In h) (ho : h.get? a = some (instObj 486 d)) (i : Int) (t : Tok) {Q : Option Value → Shared → Prop} (hq : Q none ⟨h, g, dr, tk, os⟩) :
  wpAny (model prog w) A (tryCompare (.ref a) "__eq__" (.int i t)) Q E ⟨h, g, dr, tk, os⟩ := by
 simp only [tryCompare, callSpecialIfBound?, bindSpecialIfBound?, specialOf]
 refine wpAny_bind (wpAny_holding (wpAny_bind (wpAny_bind (wpAny_bind ((typeOf_inst ho).at ((looks_findIn X (reg_eq_in P)).at ?_))))))
 simp only [F.cmp_object.eq.bind]
 refine wpAny_bind (wpAny_askSetting (wpAny_ite ?_))
 have fin : wpAny (model prog w) A (call (.builtin "object.__eq__") ([.ref a] ++ [.int i t]) >>= fun v => pure (some v)) (fun r s' => wpAny (model prog w) A (match r with
   | some .notImplemented => pure none
   | none => pure none
   | some v => pure (some v)) Q E s') E ⟨h, g, dr, tk, os⟩ :=
  wpAny_bind (call_obj_eq X ho i t (wpAny_pure (wpAny_pure hq)))
 split
 ·exact wpAny_bind (wpAny_pure (wpAny_pure fin))
 ·exact wpAny_tryCatch (wpAny_bind (wpAny_pure (wpAny_pure fin)))
end
theorem objint (c : Cx) : ObjInt c := fun A s a d i t hu hk ho prog w E Q hq => by
 have X : (kFrag c.w.params).In s.heap := fun b o e => hk _ _ (c.K b o e)
 obtain ⟨h, g, dr, tk, os⟩ := s
 simp only [richCompare, cmpInfo_Eq, oneThing?]
 refine wpAny_holding (wpAny_bind (wpAny_cRoomFor (by omega) ?_))
 refine wpAny_bind ((typeOf_inst ho).at (wpAny_bind (wpAny_typeOf (typeIs_int _ i t) ?_)))
 rw [if_pos (show (Value.ref 486 != Value.type "int") = true from rfl)]
 refine wpAny_bind (wpAny_of_eq (sub_int_ref 486) ?_)
 simp only [Bool.false_eq_true, if_false, Bool.not_false, if_true]
 refine wpAny_bind (m := tryCompare _ _ _) (special_obj_eq X ho i t ?_)
 refine wpAny_bind (m := tryCompare _ _ _) (wpAny_tryCompare_declines (typeIs_int _ i t) F.slot_int_eq_refl (call_meets F.slot_int_eq_refl (typeIs_int _ i t) F.entry_int_eq (F.args_int_eq_2 _ _) (int_eq_declines_inst i t a 486 d) ⟨ho, rfl, ?_⟩))
 exact wpAny_bind (wpAny_rule (wpAny_bind (wpAny_of_eq (rfl : isSame (.ref a) (.int i t) = pure false) (wpAny_pure hq))))
end
section
open PySem
noncomputable def tb (x : Int) (i : Nat) : Bool := decide (x / 2 ^ i % 2 = 1)
theorem p2 (i : Nat) : (0 : Int) < 2 ^ i := Int.pow_pos (by decide)
theorem tb_ofNat (n i : Nat) : tb (n : Int) i = n.testBit i := by
 rw [Nat.testBit_eq_decide_div_mod_eq]
 unfold tb
 have : ((n / 2 ^ i % 2 : Nat) : Int) = (n : Int) / 2 ^ i % 2 := by push_cast; rfl
 rw [← this]
 by_cases h : n / 2 ^ i % 2 = 1
 ·rw [h]; rfl
 ·rw [decide_eq_false h, decide_eq_false]; simp_all
theorem par (a b : Int) : (decide ((a - b) % 2 = 1)) = (decide (a % 2 = 1) ^^ decide (b % 2 = 1)) := by
 have h1 := Int.emod_two_eq a
 have h2 := Int.emod_two_eq b
 have h3 := Int.emod_two_eq (a - b)
 rcases h1 with h1 | h1 <;> rcases h2 with h2 | h2 <;> rcases h3 with h3 | h3 <;> simp [h1, h2, h3] <;> lia
theorem ediv_split {r B k : Int} (hB : 0 < B) (h0 : k * B ≤ r) (h1 : r < k * B + B) : r / B = k := by
 have e : r = (r - k * B) + k * B := by simp_all
 rw [e, Int.add_mul_ediv_right _ _ (by omega), Int.ediv_eq_zero_of_lt (by omega) (by omega)]; omega
theorem sub_div (p q : Int) (i : Nat) : (p - q) / 2 ^ i = p / 2 ^ i - q / 2 ^ i - (if p % 2 ^ i < q % 2 ^ i then 1 else 0) := by
 have hB := p2 i
 generalize (2 : Int) ^ i = B at hB ⊢
 have e1 := Int.mul_ediv_add_emod p B
 have e2 := Int.mul_ediv_add_emod q B
 have r1 := Int.emod_nonneg p (by lia : B ≠ 0)
 have r2 := Int.emod_nonneg q (by lia : B ≠ 0)
 have s1 := Int.emod_lt_of_pos p hB
 have s2 := Int.emod_lt_of_pos q hB
 have e3 : p - q = (p % B - q % B) + (p / B - q / B) * B := by
  rw [Int.sub_mul, Int.mul_comm (p / B), Int.mul_comm (q / B)]; lia
 have : (p - q) / B = (p % B - q % B) / B + (p / B - q / B) := by rw [e3, Int.add_mul_ediv_right _ _ (by lia)]
 rw [this]
 split
 ·rw [ediv_split (k := -1) hB (by lia) (by lia)]; lia
 ·rw [ediv_split (k := 0) hB (by simp_all) (by lia)]; simp_all
theorem add_div (p q : Int) (i : Nat) : (p + q) / 2 ^ i = p / 2 ^ i + q / 2 ^ i + (if 2 ^ i ≤ p % 2 ^ i + q % 2 ^ i then 1 else 0) := by
 have hB := p2 i
 generalize (2 : Int) ^ i = B at hB ⊢
 have e1 := Int.mul_ediv_add_emod p B
 have e2 := Int.mul_ediv_add_emod q B
 have r1 := Int.emod_nonneg p (by lia : B ≠ 0)
 have r2 := Int.emod_nonneg q (by lia : B ≠ 0)
 have s1 := Int.emod_lt_of_pos p hB
 have s2 := Int.emod_lt_of_pos q hB
 have e3 : p + q = (p % B + q % B) + (p / B + q / B) * B := by
  rw [Int.add_mul, Int.mul_comm (p / B), Int.mul_comm (q / B)]; lia
 have : (p + q) / B = (p % B + q % B) / B + (p / B + q / B) := by rw [e3, Int.add_mul_ediv_right _ _ (by lia)]
 rw [this]
 split
 ·rw [ediv_split (k := 1) hB (by simp_all) (by lia)]; lia
 ·rw [ediv_split (k := 0) hB (by lia) (by simp_all)]; simp_all
theorem tb_sub (p q : Int) (i : Nat) : tb (p - q) i = (tb p i ^^ tb q i ^^ decide (p % 2 ^ i < q % 2 ^ i)) := by
 unfold tb
 rw [sub_div]
 by_cases h : p % 2 ^ i < q % 2 ^ i
 ·rw [if_pos h, par, par, decide_eq_true h]; rfl
 ·rw [if_neg h, Int.sub_zero, par, decide_eq_false h]; simp
theorem tb_add (p q : Int) (i : Nat) : tb (p + q) i = (tb p i ^^ tb q i ^^ decide (2 ^ i ≤ p % 2 ^ i + q % 2 ^ i)) := by
 unfold tb
 rw [add_div]
 have hp : ∀ a b : Int, decide ((a + b) % 2 = 1) = (decide (a % 2 = 1) ^^ decide (b % 2 = 1)) := fun a b => by
  have h1 := Int.emod_two_eq a
  have h2 := Int.emod_two_eq b
  have h3 := Int.emod_two_eq (a + b)
  rcases h1 with h1 | h1 <;> rcases h2 with h2 | h2 <;> rcases h3 with h3 | h3 <;> simp [h1, h2, h3] <;> lia
 by_cases h : 2 ^ i ≤ p % 2 ^ i + q % 2 ^ i
 ·rw [if_pos h, hp, hp, decide_eq_true h]; rfl
 ·rw [if_neg h, Int.add_zero, hp, decide_eq_false h]; simp
theorem tb_not (x : Int) (i : Nat) : tb (-x - 1) i = !tb x i := by
 have e : -x - 1 = -1 - x := by lia
 rw [e, tb_sub]
 have h1 : tb (-1) i = true := by
  unfold tb
  rw [ediv_split (k := -1) (p2 i) (by have := p2 i; lia) (by have := p2 i; lia)]; rfl
 have h2 : decide ((-1 : Int) % 2 ^ i < x % 2 ^ i) = false := by
  rw [decide_eq_false]
  have hB := p2 i
  have : (-1 : Int) % 2 ^ i = 2 ^ i - 1 := by
   have e : (-1 : Int) = (2 ^ i - 1) + (-1) * 2 ^ i := by lia
   rw [e, Int.add_mul_emod_self_right, Int.emod_eq_of_lt (by omega) (by omega)]
  have := Int.emod_lt_of_pos x hB
  lia
 rw [h1, h2]; cases tb x i <;> rfl
theorem tb_zero (i : Nat) : tb 0 i = false := by unfold tb; rw [Int.zero_ediv]; rfl
theorem tb_mod (x : Int) (i j : Nat) : tb (x % 2 ^ i) j = (decide (j < i) && tb x j) := by
 by_cases h : j < i
 ·rw [decide_eq_true h, Bool.true_and]
  unfold tb
  have e : x / 2 ^ j % 2 = x % 2 ^ i / 2 ^ j % 2 := by
   obtain ⟨k, rfl⟩ : ∃ k, i = j + (k + 1) := ⟨i - j - 1, by omega⟩
   have e1 := Int.mul_ediv_add_emod x (2 ^ (j + (k + 1)))
   have e2 : (2 : Int) ^ (j + (k + 1)) = 2 ^ j * (2 * 2 ^ k) := by rw [Int.pow_add, Int.pow_succ, Int.mul_comm (2 ^ k)]
   generalize x % 2 ^ (j + (k + 1)) = r at e1 ⊢
   generalize x / 2 ^ (j + (k + 1)) = q at e1
   rw [e2] at e1
   have hj := p2 j
   have e3 : x = r + (2 * (2 ^ k * q)) * 2 ^ j := by
    rw [← e1, Int.add_comm, Int.mul_assoc, Int.mul_assoc, Int.mul_comm (2 ^ j)]
   rw [e3, Int.add_mul_ediv_right _ _ (by lia)]
   simp_all
  rw [e]
 ·rw [decide_eq_false h, Bool.false_and]
  unfold tb
  have hB := p2 i
  have h1 := Int.emod_nonneg x (by lia : (2 : Int) ^ i ≠ 0)
  have h2 := Int.emod_lt_of_pos x hB
  have h3 : (2 : Int) ^ i ≤ 2 ^ j := by
   obtain ⟨k, rfl⟩ : ∃ k, j = i + k := ⟨j - i, by simp_all⟩
   have := Int.mul_le_mul_of_nonneg_left (show (1 : Int) ≤ 2 ^ k by have := p2 k; solve_by_elim (maxDepth := 3) [Int.le_trans, Int.lt_of_le_of_lt, Int.lt_of_lt_of_le, Int.lt_trans, Int.le_of_lt, Int.not_le_of_gt, Int.not_lt_of_ge]) (Int.le_of_lt hB)
   rw [Int.pow_add]; simp_all
  rw [Int.ediv_eq_zero_of_lt h1 (by lia)]; rfl
theorem eq_of_tb {x y : Int} (hx : 0 ≤ x) (hy : 0 ≤ y) (h : ∀ i, tb x i = tb y i) : x = y := by
 obtain ⟨n, rfl⟩ := Int.eq_ofNat_of_zero_le hx
 obtain ⟨m, rfl⟩ := Int.eq_ofNat_of_zero_le hy
 rw [Nat.eq_of_testBit_eq (x := n) (y := m) fun i => by rw [← tb_ofNat, ← tb_ofNat, h]]
theorem le_of_tb {x y : Int} (hx : 0 ≤ x) (hy : 0 ≤ y) (h : ∀ i, tb x i = true → tb y i = true) : x ≤ y := by
 obtain ⟨n, rfl⟩ := Int.eq_ofNat_of_zero_le hx
 obtain ⟨m, rfl⟩ := Int.eq_ofNat_of_zero_le hy
 have := Nat.le_of_testBit (n := n) (m := m) fun i q => by rw [← tb_ofNat] at q ⊢; exact h i q
 simp_all
theorem mod_nonneg (x : Int) (i : Nat) : 0 ≤ x % 2 ^ i := Int.emod_nonneg x (by have := p2 i; lia)
theorem mod_lt (x : Int) (i : Nat) : x % 2 ^ i < 2 ^ i := Int.emod_lt_of_pos x (p2 i)
theorem mod_le {x y : Int} {i : Nat} (h : ∀ j, j < i → tb x j = true → tb y j = true) : x % 2 ^ i ≤ y % 2 ^ i :=
 le_of_tb (mod_nonneg x i) (mod_nonneg y i) fun j q => by
  rw [tb_mod] at q ⊢
  simp only [Bool.and_eq_true, decide_eq_true_eq] at q ⊢
  exact ⟨q.1, h j q.1 q.2⟩
theorem tb_diff {x y : Int} (h : ∀ j, tb y j = true → tb x j = true) (i : Nat) : tb (x - y) i = (tb x i && !tb y i) := by
 rw [tb_sub, decide_eq_false (by have := mod_le (i := i) (x := y) (y := x) fun j _ => h j; simp_all)]
 have := h i
 revert this
 cases tb x i <;> cases tb y i <;> simp
theorem tb_disj {x y : Int} (h : ∀ j, tb y j = true → tb x j = false) (i : Nat) : tb (x + y) i = (tb x i || tb y i) := by
 have e : x + y = x - (-y - 1) - 1 := by lia
 have e2 : x + y = -((-x - 1) - y) - 1 := by lia
 rw [e2, tb_not, tb_diff (fun j q => by rw [tb_not, h j q]; rfl), tb_not]
 cases tb x i <;> cases tb y i <;> rfl
theorem tb_neg_nat {x : Int} (h : ¬ 0 ≤ x) (i : Nat) : tb x i = !((-x - 1).toNat.testBit i) := by
 have e : x = -((-x - 1).toNat : Int) - 1 := by lia
 have : tb x i = tb (-(((-x - 1).toNat : Nat) : Int) - 1) i := by rw [← e]
 rw [this, tb_not, tb_ofNat]
theorem tb_pos_nat {x : Int} (h : 0 ≤ x) (i : Nat) : tb x i = x.toNat.testBit i := by
 have : tb x i = tb ((x.toNat : Nat) : Int) i := by rw [Int.toNat_of_nonneg h]
 rw [this, tb_ofNat]
theorem tb_and (x y : Int) (i : Nat) : tb (Builtin.bitAnd x y) i = (tb x i && tb y i) := by
 unfold Builtin.bitAnd
 by_cases hx : 0 ≤ x <;> by_cases hy : 0 ≤ y <;> simp only [hx, hy, decide_true, decide_false]
 ·rw [tb_ofNat, Nat.testBit_and, tb_pos_nat hx, tb_pos_nat hy]
 ·have hs : ∀ j, tb (((x.toNat &&& (Builtin.bitNot y).toNat : Nat) : Int)) j = (tb x j && !tb y j) := fun j => by
   rw [tb_ofNat, Nat.testBit_and, tb_pos_nat hx, tb_neg_nat hy, Bool.not_not]; rfl
  rw [tb_diff (fun j q => by rw [hs] at q; simp at q; exact q.1), hs]
  cases tb x i <;> cases tb y i <;> rfl
 ·have hs : ∀ j, tb (((y.toNat &&& (Builtin.bitNot x).toNat : Nat) : Int)) j = (tb y j && !tb x j) := fun j => by
   rw [tb_ofNat, Nat.testBit_and, tb_pos_nat hy, tb_neg_nat hx, Bool.not_not]; rfl
  rw [tb_diff (fun j q => by rw [hs] at q; simp at q; exact q.1), hs]
  cases tb x i <;> cases tb y i <;> rfl
 ·show tb (-(((Builtin.bitNot x).toNat ||| (Builtin.bitNot y).toNat : Nat) : Int) - 1) i = _
  rw [tb_not, tb_ofNat, Nat.testBit_or, tb_neg_nat hx, tb_neg_nat hy]
  exact Bool.not_or _ _
theorem tb_or (x y : Int) (i : Nat) : tb (Builtin.bitOr x y) i = (tb x i || tb y i) := by
 unfold Builtin.bitOr
 show tb (-(Builtin.bitAnd (-x - 1) (-y - 1)) - 1) i = _
 rw [tb_not, tb_and, tb_not, tb_not]
 cases tb x i <;> cases tb y i <;> rfl
theorem tb_xor (x y : Int) (i : Nat) : tb (Builtin.bitXor x y) i = (tb x i ^^ tb y i) := by
 unfold Builtin.bitXor
 rw [tb_diff (fun j q => by rw [tb_and] at q; rw [tb_or]; simp at q; simp [q]), tb_or, tb_and]
 cases tb x i <;> cases tb y i <;> rfl
theorem and_nonneg {x y : Int} (h : 0 ≤ y) : 0 ≤ Builtin.bitAnd x y := by
 unfold Builtin.bitAnd
 by_cases hy : 0 ≤ x <;> simp only [h, hy, decide_true, decide_false]
 ·simp_all
 ·have : (y.toNat &&& (Builtin.bitNot x).toNat : Nat) ≤ y.toNat := Nat.and_le_left
  simp_all
theorem and_nonneg' {x y : Int} (h : 0 ≤ x) : 0 ≤ Builtin.bitAnd x y := by
 unfold Builtin.bitAnd
 by_cases hy : 0 ≤ y <;> simp only [h, hy, decide_true, decide_false]
 ·simp_all
 ·have : (x.toNat &&& (Builtin.bitNot y).toNat : Nat) ≤ x.toNat := Nat.and_le_left
  simp_all
theorem or_nonneg {x y : Int} (hx : 0 ≤ x) (hy : 0 ≤ y) : 0 ≤ Builtin.bitOr x y := by
 unfold Builtin.bitOr
 show 0 ≤ -(Builtin.bitAnd (-x - 1) (-y - 1)) - 1
 unfold Builtin.bitAnd
 have h1 : ¬ 0 ≤ -x - 1 := by lia
 have h2 : ¬ 0 ≤ -y - 1 := by lia
 simp only [h1, h2, decide_false]
 show 0 ≤ -(-(_ : Int) - 1) - 1
 omega
theorem xor_nonneg {x y : Int} (hx : 0 ≤ x) (hy : 0 ≤ y) : 0 ≤ Builtin.bitXor x y := by
 unfold Builtin.bitXor
 have := le_of_tb (x := Builtin.bitAnd x y) (y := Builtin.bitOr x y) (and_nonneg hy) (or_nonneg hx hy) fun i q => by
  rw [tb_and] at q; rw [tb_or]; simp at q; simp [q]
 simp_all
theorem tb_ones (k i : Nat) : tb (2 ^ k - 1) i = decide (i < k) := by
 have e : ((2 : Int) ^ k - 1) = ((2 ^ k - 1 : Nat) : Int) := by
  have := Nat.pow_pos (n := k) (show 0 < 2 by decide)
  rw [Int.natCast_sub this]; push_cast; rfl
 rw [e, tb_ofNat, Nat.testBit_two_pow_sub_one]
theorem and_ones (x : Int) (k : Nat) : Builtin.bitAnd x (2 ^ k - 1) = x % 2 ^ k :=
 eq_of_tb (and_nonneg (by have := p2 k; lia)) (mod_nonneg x k) fun i => by rw [tb_and, tb_ones, tb_mod, Bool.and_comm]
theorem lt_of_tb {x : Int} {k : Nat} (h0 : 0 ≤ x) (h : ∀ i, k ≤ i → tb x i = false) : x < 2 ^ k := by
 have : x = x % 2 ^ k := eq_of_tb h0 (mod_nonneg x k) fun i => by
  rw [tb_mod]
  by_cases q : i < k
  ·simp [q]
  ·rw [h i (by simp_all), decide_eq_false q]; rfl
 rw [this]; exact mod_lt x k
theorem tb_high {x : Int} {k : Nat} (h0 : 0 ≤ x) (h : x < 2 ^ k) {i : Nat} (hi : k ≤ i) : tb x i = false := by
 have : x = x % 2 ^ k := (Int.emod_eq_of_lt h0 h).symm
 rw [this, tb_mod, decide_eq_false (by omega)]; rfl
theorem tb_pow (k i : Nat) : tb (2 ^ k) i = decide (i = k) := by
 have e : ((2 : Int) ^ k) = ((2 ^ k : Nat) : Int) := by push_cast; rfl
 rw [e, tb_ofNat, Nat.testBit_two_pow]
 by_cases h : k = i
 ·subst h; simp
 ·rw [decide_eq_false h, decide_eq_false (fun q => h q.symm)]
end
section
open PySem PySem.W PyProof.Rows PySem.Calls
inductive Sh where
 | nil
 | int (r : Sh)
 | str (r : Sh)
 | bool (r : Sh)
 | any (r : Sh)
 | lit (i : Int) (r : Sh)
 | hnd (k : Nat) (r : Sh)
 | none (r : Sh)
 | anyv (r : Sh)
 | ints (r : Sh)
 | obj (C : Addr) (xs r : Sh)
 | lst (xs r : Sh)
 | tup (xs r : Sh)
noncomputable abbrev Sh.ty : Sh → Type
 | .nil => Unit
 | .int r => Int × r.ty
 | .str r => Str × r.ty
 | .bool r => Bool × r.ty
 | .any r => AV × r.ty
 | .lit _ r => r.ty
 | .hnd _ r => r.ty
 | .none r => r.ty
 | .anyv r => r.ty
 | .ints r => List Int × r.ty
 | .obj _ xs r => xs.ty × r.ty
 | .lst xs r => xs.ty × r.ty
 | .tup xs r => xs.ty × r.ty
noncomputable def Sh.enc : (sh : Sh) → sh.ty → List AV
 | .nil, _ => []
 | .int r, t => .int t.1 :: r.enc t.2
 | .str r, t => .str t.1 :: r.enc t.2
 | .bool r, t => .bool t.1 :: r.enc t.2
 | .any r, t => t.1 :: r.enc t.2
 | .lit i r, t => .int i :: r.enc t
 | .hnd k r, t => .hnd k :: r.enc t
 | .none r, t => .none :: r.enc t
 | .anyv r, t => .any :: r.enc t
 | .ints r, t => .ints t.1 :: r.enc t.2
 | .obj C xs r, t => .obj C (xs.enc t.1) :: r.enc t.2
 | .lst xs r, t => .lst (xs.enc t.1) :: r.enc t.2
 | .tup xs r, t => .tup (xs.enc t.1) :: r.enc t.2
noncomputable def hdT {α β : Type} (f : AV → Option α) (g : List AV → Option β) : List AV → Option (α × β)
 | [] => Option.none
 | x :: l => both (f x) (g l) Prod.mk
noncomputable def hdP {β : Type} (p : AV → Bool) (g : List AV → Option β) : List AV → Option β
 | [] => Option.none
 | x :: l => bif p x then g l else Option.none
theorem hdT_s {α β : Type} {f : AV → Option α} {g : List AV → Option β} {l : List AV} {t : α × β} {a : α → AV} {b : β → List AV} (h : hdT f g l = some t) (hf : ∀ {x y}, f x = some y → x = a y) (hg : ∀ {x y}, g x = some y → x = b y) : l = a t.1 :: b t.2 := by
 match l, h with
 | x :: l, h =>
  obtain ⟨y, z, h1, h2, rfl⟩ := both_some (show both (f x) (g l) Prod.mk = some t from h)
  rw [hf h1, hg h2]
theorem hdP_s {β : Type} {p : AV → Bool} {g : List AV → Option β} {l : List AV} {t : β} {a : AV} {b : β → List AV} (h : hdP p g l = some t) (hf : ∀ {x}, p x = true → x = a) (hg : ∀ {x y}, g x = some y → x = b y) : l = a :: b t := by
 match l, h with
 | x :: l, h =>
  have h : (bif p x then g l else Option.none) = some t := h
  cases q : p x with
  | true => rw [q] at h; rw [hf q, hg h]
  | false => rw [q] at h; exact nomatch h
noncomputable def Sh.dec : (sh : Sh) → List AV → Option sh.ty
 | .nil => fun l => bif l.isEmpty then some () else Option.none
 | .int r => hdT aInt r.dec
 | .str r => hdT aStr r.dec
 | .bool r => hdT aBool r.dec
 | .any r => hdT some r.dec
 | .lit i r => hdP (fun x => aInt x == some i) r.dec
 | .hnd k r => hdP (fun x => aHnd x == some k) r.dec
 | .none r => hdP aNone r.dec
 | .anyv r => hdP aAny r.dec
 | .ints r => hdT aInts r.dec
 | .obj C xs r => hdT (fun x => (aObj C x).bind xs.dec) r.dec
 | .lst xs r => hdT (fun x => (aLst x).bind xs.dec) r.dec
 | .tup xs r => hdT (fun x => (aTup x).bind xs.dec) r.dec
theorem bind_s2 {α β : Type} {f : AV → Option α} {g : α → Option β} {a : α → AV} {b : β → α} (hf : ∀ {x y}, f x = some y → x = a y) (hg : ∀ {x y}, g x = some y → x = b y) {x : AV} {y : β} (h : (f x).bind g = some y) : x = a (b y) := by
 obtain ⟨z, h1, h2⟩ := Option.bind_eq_some_iff.mp h
 rw [hf h1, hg h2]
theorem Sh.dec_s : ∀ (sh : Sh) {l : List AV} {t : sh.ty}, sh.dec l = some t → l = sh.enc t
 | .nil, [], _, _ => rfl
 | .nil, _ :: _, _, h => nomatch h
 | .int r, _, _, h => hdT_s (a := AV.int) h aInt_s r.dec_s
 | .str r, _, _, h => hdT_s (a := AV.str) h aStr_s r.dec_s
 | .bool r, _, _, h => hdT_s (a := AV.bool) h aBool_s r.dec_s
 | .any r, _, _, h => hdT_s (a := id) h Option.some.inj r.dec_s
 | .ints r, _, _, h => hdT_s (a := AV.ints) h aInts_s r.dec_s
 | .lit i r, _, _, h => hdP_s h (fun q => aInt_s (eq_of_beq q)) r.dec_s
 | .hnd k r, _, _, h => hdP_s h (fun q => aHnd_s (eq_of_beq q)) r.dec_s
 | .none r, _, _, h => hdP_s h aNone_s r.dec_s
 | .anyv r, _, _, h => hdP_s h aAny_s r.dec_s
 | .obj C xs r, _, _, h => hdT_s h (bind_s2 (a := AV.obj C) aObj_s xs.dec_s) r.dec_s
 | .lst xs r, _, _, h => hdT_s h (bind_s2 (a := AV.lst) aLst_s xs.dec_s) r.dec_s
 | .tup xs r, _, _, h => hdT_s h (bind_s2 (a := AV.tup) aTup_s xs.dec_s) r.dec_s
noncomputable def orSh (sh : Sh) (f : sh.ty → Mem → T (AV × Mem)) (rest : FSem) : FSem := fun args m => match sh.dec args with
 | some t => f t m
 | Option.none => rest args m
noncomputable def offS : FSem := fun _ _ => .stuck "arguments"
noncomputable abbrev onSh (sh : Sh) (f : sh.ty → Mem → T (AV × Mem)) : FSem := orSh sh f offS
theorem orSh_s (sh : Sh) (f : sh.ty → Mem → T (AV × Mem)) (rest : FSem) (args : List AV) (m : Mem) : (∃ t, args = sh.enc t ∧ orSh sh f rest args m = f t m) ∨ orSh sh f rest args m = rest args m := by
 unfold orSh
 cases q : sh.dec args with
 | some t => exact .inl ⟨t, sh.dec_s q, rfl⟩
 | none => exact .inr rfl
noncomputable def memL : Mem → List AV
 | [.lst xs] => xs
 | _ => [.none]
noncomputable def memIs : Mem → Bool
 | [.lst _] => true
 | _ => false
theorem memIs_s {m : Mem} (h : memIs m = true) : m = [.lst (memL m)] := by
 match m, h with
 | [.lst xs], _ => rfl
noncomputable def orShM (sh sm : Sh) (f : sh.ty → sm.ty → T (AV × Mem)) (rest : FSem) : FSem := fun args m => match memIs m with
 | true => match sh.dec args with
  | some t => match sm.dec (memL m) with
   | some u => f t u
   | Option.none => rest args m
  | Option.none => rest args m
 | false => rest args m
theorem orShM_s (sh sm : Sh) (f : sh.ty → sm.ty → T (AV × Mem)) (rest : FSem) (args : List AV) (m : Mem) : (∃ t u, args = sh.enc t ∧ m = [.lst (sm.enc u)] ∧ orShM sh sm f rest args m = f t u) ∨ orShM sh sm f rest args m = rest args m := by
 unfold orShM
 cases q : memIs m with
 | false => exact .inr rfl
 | true =>
  cases q1 : sh.dec args with
  | none => exact .inr rfl
  | some t =>
   cases q2 : sm.dec (memL m) with
   | none => exact .inr rfl
   | some u => exact .inl ⟨t, u, sh.dec_s q1, by rw [memIs_s q, sm.dec_s q2], rfl⟩
noncomputable def orShO {α : Type} (sh : Sh) (o : Mem → Option α) (f : sh.ty → α → Mem → T (AV × Mem)) (rest : FSem) : FSem := fun args m => match sh.dec args with
 | some t => match o m with
  | some z => f t z m
  | Option.none => rest args m
 | Option.none => rest args m
theorem orShO_s {α : Type} (sh : Sh) (o : Mem → Option α) (f : sh.ty → α → Mem → T (AV × Mem)) (rest : FSem) (args : List AV) (m : Mem) : (∃ t z, args = sh.enc t ∧ o m = some z ∧ orShO sh o f rest args m = f t z m) ∨ orShO sh o f rest args m = rest args m := by
 unfold orShO
 cases q : sh.dec args with
 | none => exact .inr rfl
 | some t =>
  cases q2 : o m with
  | none => exact .inr rfl
  | some z => exact .inl ⟨t, z, sh.dec_s q, rfl, rfl⟩
noncomputable def memLs : Mem → Option (List AV)
 | [.lst xs] => some xs
 | _ => Option.none
theorem memLs_s {m : Mem} {xs : List AV} (h : memLs m = some xs) : m = [.lst xs] := by
 match m, h with
 | [.lst ys], h => cases h; rfl
noncomputable def memE : Mem → Option Unit
 | [] => some ()
 | _ => Option.none
theorem memE_s {m : Mem} {u : Unit} (h : memE m = some u) : m = [] := by
 match m, h with
 | [], h => rfl
noncomputable abbrev shI8 (r : Sh) : Sh := .int (.int (.int (.int (.int (.int (.int (.int r)))))))
noncomputable abbrev shTn (r : Sh) : Sh := .obj 211 (.int (.int .nil)) r
noncomputable abbrev shSc (r : Sh) : Sh := .obj 366 (shTn (shI8 .nil)) r
end
section
open PySem PySem.W PyProof.Rows PySem.Calls
set_option backward.match.sparseCases false
structure FnOK (c : Cx) (n : Nat) (v : Value) (k : FSem) : Prop where
 keep : KeepOK c v
 call : ∀ A s g m args vs, Room A n → Inv c A g s m → Reps c.w.params g args vs → Tri c A noX s g (PySem.call v vs) (RepR c) (k args m)
theorem Room.le {A : Around} {n n' : Nat} (h : Room A n') (l : n ≤ n') : Room A n := ⟨h.1, Nat.lt_of_le_of_lt (Nat.add_le_add_right (Nat.add_le_add_left (Nat.mul_le_mul_left 4 l) _) _) h.2.1, Nat.lt_of_le_of_lt (Nat.add_le_add_right (Nat.add_le_add_left (Nat.mul_le_mul_left 16 l) _) _) h.2.2⟩
theorem FnOK.le {c : Cx} {n n' : Nat} {v : Value} {k : FSem} (h : FnOK c n v k) (l : n ≤ n') : FnOK c n' v k := ⟨h.keep, fun A s g m args vs hr => h.call A s g m args vs (hr.le l)⟩
theorem keep_builtin (c : Cx) (id : String) : KeepOK c (.builtin id) := fun M h _ => ⟨.machine, .inr (.inl rfl), Looks.now⟩
theorem keep_type (c : Cx) (id : String) : KeepOK c (.type id) := fun M h _ => ⟨.machine, .inr (.inl rfl), Looks.now⟩
theorem keep_K (c : Cx) {a : Addr} (hk : keepIn (kFrag c.w.params) (.ref a) = true) : KeepOK c (.ref a) := fun M h q => keeps_K hk h (c.K.keeps q)
inductive FK where
 | ref (a : Nat)
 | bi (s : String)
 | ty (s : String)
noncomputable def FK.val : FK → Value
 | .ref a => .ref a
 | .bi s => .builtin s
 | .ty s => .type s
noncomputable def valBi (v : Value) : Option String := match v with
 | .builtin s => some s
 | _ => none
noncomputable def valTy (v : Value) : Option String := match v with
 | .type s => some s
 | _ => none
theorem valBi_s {v : Value} {a : String} (h : valBi v = some a) : v = .builtin a := (by cases v <;> first | exact trivial | exact rfl : OptP (v = .builtin ·) (valBi v)).of h
theorem valTy_s {v : Value} {a : String} (h : valTy v = some a) : v = .type a := (by cases v <;> first | exact trivial | exact rfl : OptP (v = .type ·) (valTy v)).of h
noncomputable def FK.is (k : FK) (v : Value) : Bool := match k with
 | .ref a => (valRef v).any (Nat.beq a)
 | .bi s => (valBi v).any (s == ·)
 | .ty s => (valTy v).any (s == ·)
theorem FK.is_of {k : FK} {v : Value} (h : k.is v = true) : v = k.val := by
 cases k with
 | ref a => obtain ⟨b, h1, h2⟩ := any_s h; rw [valRef_s h1, Nat.eq_of_beq_eq_true h2]; rfl
 | bi s => obtain ⟨b, h1, h2⟩ := any_s h; rw [valBi_s h1, beq_iff_eq.mp h2]; rfl
 | ty s => obtain ⟨b, h1, h2⟩ := any_s h; rw [valTy_s h1, beq_iff_eq.mp h2]; rfl
noncomputable def lkF : List (FK × FSem) → Value → Option FSem
 | [], _ => none
 | (k, f) :: r, v => match k.is v with
  | true => some f
  | false => lkF r v
theorem lkF_mem : ∀ {l : List (FK × FSem)} {v : Value} {f : FSem}, lkF l v = some f → ∃ k, (k, f) ∈ l ∧ v = k.val
 | [], _, _, h => nomatch h
 | (k, f) :: r, v, f', h => by
  have h : (match k.is v with
   | true => some f
   | false => lkF r v) = some f' := h
  cases hk : k.is v with
  | true => rw [hk] at h; exact ⟨k, Option.some.inj h ▸ .head _, FK.is_of hk⟩
  | false => rw [hk] at h; obtain ⟨k', a, b⟩ := lkF_mem h; exact ⟨k', .tail _ a, b⟩
noncomputable def globTab : List (String × AV) := [
 ("U64", .int 18446744073709551615), ("U32", .int 4294967295), ("S64_MAX", .int 9223372036854775807), ("S64_MIN", .int (-9223372036854775808)), ("S32_MAX", .int 2147483647), ("S32_MIN", .int (-2147483648)),
 ("wrap", .val (.ref 76)), ("signed", .val (.ref 84)), ("ones", .val (.ref 68)), ("bit_count", .val (.ref 91)), ("Tnum", .val (.ref 211)), ("without", .val (.ref 222)), ("tnum_add", .val (.ref 229)), ("tnum_sub", .val (.ref 236)), ("tnum_meet", .val (.ref 243)), ("tnum_low32", .val (.ref 250)), ("tnum_with_low32", .val (.ref 257)),
 ("ROUNDS", .int 3), ("Scalar", .val (.ref 366)), ("raise_least", .val (.ref 377)), ("lower_most", .val (.ref 384)), ("ends_by_bits", .val (.ref 391)), ("ends_by_sign", .val (.ref 398)), ("halves_by_wholes", .val (.ref 405)), ("least_whole", .val (.ref 412)), ("most_whole", .val (.ref 419)), ("wholes_by_halves", .val (.ref 426)), ("is_empty", .val (.ref 433)), ("bits_by_ends", .val (.ref 440)), ("deduced", .val (.ref 447)), ("made", .val (.ref 454)), ("or_unknown", .val (.ref 461)),
 ("MOVED", .str "stack value packet room"), ("Reg", .val (.ref 486)), ("none", .val (.ref 497)), ("number_reg", .val (.ref 505)), ("const_reg", .val (.ref 512)), ("any_number", .val (.ref 519)), ("context_reg", .val (.ref 526)), ("stack_reg", .val (.ref 533)), ("is_pointer", .val (.ref 540)), ("is_movable", .val (.ref 547)), ("is_const", .val (.ref 554)), ("rebuilt", .val (.ref 561)), ("with_off", .val (.ref 568)), ("with_scalar", .val (.ref 575)), ("with_number", .val (.ref 582)), ("with_reach", .val (.ref 589)),
 ("ALU", .int 4), ("JMP", .int 5), ("JMP32", .int 6), ("ALU64", .int 7), ("BY_REGISTER", .int 8), ("CLASSES", .str "ld   ldx  st   stx  alu  jmp  jmp32alu64"), ("DEEDS", .str "add sub mul div or  and lsh rsh neg mod xor mov arshend "), ("JUMPS", .str "ja  eq  gt  ge  set ne  sgt sge callexitlt  le  slt sle "), ("KNOWN", .int 14), ("Order", .val (.ref 614)), ("class_of", .val (.ref 625)), ("is_alu", .val (.ref 632)), ("is_jumping", .val (.ref 639)), ("operation", .val (.ref 646)), ("is_register", .val (.ref 653)),
 ("MOST_OFF", .int 536870912), ("MOST_PACKET", .int 65535), ("PACKETS", .tup [.str "packet", .str "packet_end"]), ("is_far", .val (.ref 661)), ("varies_far", .val (.ref 668)), ("known_sum", .val (.ref 675)), ("scalar_sum", .val (.ref 682)), ("varying_sum", .val (.ref 689)), ("add_to_pointer", .val (.ref 697)), ("is_difference", .val (.ref 704)), ("needs_id", .val (.ref 711)), ("source_of", .val (.ref 718)), ("moved", .val (.ref 725)), ("sum_of", .val (.ref 732)), ("pointer_deed", .val (.ref 739)),
 ("REGISTERS", .int 11), ("Frame", .val (.ref 818)), ("State", .val (.ref 900)), ("new_frame", .val (.ref 909)), ("first_state", .val (.ref 916)),
 ("_law_kinds", .tup [.str "value", .str "packet", .str "room", .str "stack", .str "context", .str "map", .str "packet_end", .str "value_or_null", .str "room_or_null"]), ("_law_far", .val (.ref 924)), ("_law_draw", .val (.ref 931)), ("_law_whole", .val (.ref 938)), ("_law_varied", .val (.ref 943)), ("_law_pointer", .val (.ref 950)), ("_law_due", .val (.ref 957)), ("_law_added", .val (.ref 964)), ("_law_is_sum", .val (.ref 971)), ("_law_state", .val (.ref 978)), ("_law_done", .val (.ref 986)), ("_law_deeds_right", .val (.ref 991)), ("Refusal", .val (.ref 59)),
 ("len", .val (.builtin "len")), ("int", .val (.type "int")), ("range", .val (.type "range")), ("tuple", .val (.type "tuple")), ("list", .val (.type "list")), ("min", .val (.builtin "min")), ("max", .val (.builtin "max")), ("abs", .val (.builtin "abs")), ("sorted", .val (.builtin "sorted"))]
noncomputable def valInt (v : Value) : Option Int := match v with
 | .int i _ => some i
 | _ => none
noncomputable def valStr (v : Value) : Option Str := match v with
 | .str s _ => some s
 | _ => none
theorem valInt_s {v : Value} {a : Int} (h : valInt v = some a) : ∃ t, v = .int a t := (by cases v <;> first | exact trivial | exact ⟨_, rfl⟩ : OptP (fun a => ∃ t, v = .int a t) (valInt v)).of h
theorem valStr_s {v : Value} {a : Str} (h : valStr v = some a) : ∃ t, v = .str a t := (by cases v <;> first | exact trivial | exact ⟨_, rfl⟩ : OptP (fun a => ∃ t, v = .str a t) (valStr v)).of h
noncomputable def strsOf : List Value → Option (List Str)
 | [] => some []
 | v :: r => (valStr v).bind fun s => (strsOf r).map (s :: ·)
theorem strsOf_s {P : Params} {g : Gh} : ∀ {vs : List Value} {ss : List Str}, strsOf vs = some ss → Reps P g (ss.map .str) vs
 | [], _, h => by rw [← Option.some.inj h]; exact .nil
 | v :: r, ss, h => by
  obtain ⟨s, h1, h⟩ := bind_s h
  obtain ⟨p, h2, rfl⟩ := map_s h
  obtain ⟨t, rfl⟩ := valStr_s h1
  exact .cons (.str s t) (strsOf_s h2)
noncomputable def obSeq (d : Data) : Option (List Value × Nat) := match d with
 | .seq vs n => some (vs.toList, n)
 | _ => none
theorem obSeq_s {d : Data} {p : List Value × Nat} (h : obSeq d = some p) : d = .seq p.1.toArray p.2 := (by cases d <;> first | exact trivial | exact congrArg (Data.seq · _) Array.toArray_toList.symm : OptP (fun p => d = .seq (List.toArray p.1) p.2) (obSeq d)).of h
noncomputable def strTup (K : Frag) (a : Addr) (xs : List AV) : Bool := (K.lookup a).any fun o => o.cls == .type "tuple" && o.dict.isNone && o.slots.size == 0 && (obSeq o.data).any fun p => (strsOf p.1).any fun ss => allS xs == some ss
noncomputable def globV (K : Frag) (x : Str) (o : Option (Option Value)) (v : AV) : Bool := match v with
 | .val u => o == some (some u) || (o == some none && bootBuiltins x == some u && !(x == ("__name__" : Str)))
 | .int j => o.any fun o => o.any fun w => valInt w == some j
 | .str t => o.any fun o => o.any fun w => valStr w == some t
 | .tup xs => o.any fun o => o.any fun w => (valRef w).any fun a => strTup K a xs
 | _ => false
noncomputable def globFact (K : Frag) (p : String × AV) : Bool := !((Str.ofString p.1) == ("__debug__" : Str)) && globV K (Str.ofString p.1) (nsIn K mainGlobals (Str.ofString p.1)) p.2
theorem globFacts (P : Params) : globTab.all (globFact (kFrag P)) = true := by kernel_rfl
theorem strTup_rep {P : Params} {g : Gh} {K : Frag} {a : Addr} {xs : List AV} (h : strTup K a xs = true) (hk : ∀ b o, K.lookup b = some o → g.F b = some o) : Rep P g (.tup xs) (.ref a) := by
 obtain ⟨⟨oc, od, oda, os⟩, h1, h⟩ := any_s h
 have h := Bool.and_eq_true_iff.mp h
 obtain ⟨p, h2, h3⟩ := any_s h.2
 obtain ⟨ss, h4, h5⟩ := any_s h3
 have h6 := Bool.and_eq_true_iff.mp h.1
 have h7 := Bool.and_eq_true_iff.mp h6.1
 rw [allS_s (beq_iff_eq.mp h5)]
 refine .tup (n := p.2) (vs := p.1) ?_ (strsOf_s h4)
 rw [hk _ _ h1, show oc = _ from beq_iff_eq.mp h7.1, show od = none from Option.isNone_iff_eq_none.mp h7.2, show oda = _ from obSeq_s h2, Array.eq_empty_of_size_eq_zero (xs := os) (beq_iff_eq.mp h6.2)]
theorem any2_s {o : Option (Option Value)} {f : Value → Bool} (h : (o.any fun o => o.any f) = true) : ∃ w, o = some (some w) ∧ f w = true := by
 obtain ⟨a, e1, h⟩ := any_s h
 obtain ⟨w, e2, h⟩ := any_s (show a.any f = true from h)
 exact ⟨w, by rw [e1, e2], h⟩
theorem globV_ok (c : Cx) {x : Str} {v : AV} (h : globV (kFrag c.w.params) x (nsIn (kFrag c.w.params) mainGlobals x) v = true) : ∃ u, (c.mg x = some u ∨ (c.mg x = none ∧ c.mb x = some u)) ∧ Rep c.w.params (g0 c) v u := by
 cases v with
 | val u =>
  rcases Bool.or_eq_true_iff.mp h with h | h
  ·exact ⟨u, .inl (mg_of c.K c.hg (beq_iff_eq.mp h)), .val _⟩
  ·have h := Bool.and_eq_true_iff.mp h
   have h1 := Bool.and_eq_true_iff.mp h.1
   refine ⟨u, .inr ⟨mg_none_of c.K c.hg (beq_iff_eq.mp h1.1), ?_⟩, .val _⟩
   rw [c.bi _ (fun q => by rw [q] at h; exact nomatch h.2)]
   exact beq_iff_eq.mp h1.2
 | int j =>
  obtain ⟨w, e, h⟩ := any2_s h
  obtain ⟨t, rfl⟩ := valInt_s (beq_iff_eq.mp h)
  exact ⟨_, .inl (mg_of c.K c.hg e), .int _ _⟩
 | str j =>
  obtain ⟨w, e, h⟩ := any2_s h
  obtain ⟨t, rfl⟩ := valStr_s (beq_iff_eq.mp h)
  exact ⟨_, .inl (mg_of c.K c.hg e), .str _ _⟩
 | tup xs =>
  obtain ⟨w, e, h⟩ := any2_s h
  obtain ⟨a, e2, h⟩ := any_s h
  rw [valRef_s e2] at e
  exact ⟨_, .inl (mg_of c.K c.hg e), strTup_rep h fun b o hl => c.K b o hl⟩
 | _ => exact nomatch h
theorem glob_ok (c : Cx) : ∀ x v, lkS x globTab = some v → (x == ("__debug__" : Str)) = false ∧ ∃ u, (c.mg x = some u ∨ (c.mg x = none ∧ c.mb x = some u)) ∧ Rep c.w.params (g0 c) v u := by
 intro x v h
 obtain ⟨k, hm, rfl⟩ := lkS_mem h
 have F := Bool.and_eq_true_iff.mp (List.all_eq_true.mp (globFacts c.w.params) _ hm)
 exact ⟨Bool.not_eq_true' _ ▸ F.1, globV_ok c F.2⟩
noncomputable def cfg (fs : List (FK × FSem)) (mu : List String) : Cfg := ⟨default, globTab, lkF fs, mu, 70⟩
theorem cfg_ok {c : Cx} {n : Nat} {fs : List (FK × FSem)} {mu : List String} (h : ∀ p ∈ fs, FnOK c n p.1.val p.2) : CfgOK c (cfg fs mu) n where
 glob := glob_ok c
 keep := fun v k e => by obtain ⟨q, hq, rfl⟩ := lkF_mem e; exact (h _ hq).keep
 call := fun v k e => by obtain ⟨q, hq, rfl⟩ := lkF_mem e; exact (h _ hq).call
end
section
open PySem PySem.W PyProof.Rows PySem.Calls
section
variable {c : Cx} {n : Nat} {A : Around} {s : Shared} {g : Gh} {m : Mem} {B X : Addr → Prop} {h' : Heap}
theorem Inv.keepAll (I : Inv c A g s m) (hk : ∀ b o, s.heap.get? b = some o → h'.get? b = some o) (t : Nat) : Inv c A g { s with heap := h', toks := t } m :=
 I.priv (p := s.heap.objs.size) (fun b o _ e => hk b o e) I.fresh I.freshT (I.notFr (notLiv _)) t
theorem Ext.keepAll (hk : ∀ b o, s.heap.get? b = some o → h'.get? b = some o) (t : Nat) : Ext A (Liv s.heap) X g s g { s with heap := h', toks := t } :=
 Ext.priv (p := s.heap.objs.size) (fun b o _ e => hk b o e) (notLiv _) t
theorem reps1 {P : Params} {x : AV} {vs : List Value} (r : Reps P g [x] vs) : ∃ v, vs = [v] ∧ Rep P g x v := by
 obtain ⟨v, us, rfl, a, r⟩ := r.inv
 exact ⟨v, by rw [show us = [] from r.inv], a⟩
theorem reps2 {P : Params} {x y : AV} {vs : List Value} (r : Reps P g [x, y] vs) : ∃ v w, vs = [v, w] ∧ Rep P g x v ∧ Rep P g y w := by
 obtain ⟨v, us, rfl, a, r⟩ := r.inv
 obtain ⟨w, rfl, b⟩ := reps1 r
 exact ⟨v, w, rfl, a, b⟩
noncomputable def biS (sh : Sh) (f : sh.ty → Mem → T (AV × Mem)) : FSem := fun args m => optT (sh.dec args) "arguments" fun t => f t m
theorem bi_ok {v : Value} (hk : KeepOK c v) {sh : Sh} {f : sh.ty → Mem → T (AV × Mem)} (h : ∀ {A s g m} (t : sh.ty) (vs : List Value), A.handled = none → Inv c A g s m → Reps c.w.params g (sh.enc t) vs → Tri c A noX s g (PySem.call v vs) (RepR c) (f t m)) : FnOK c n v (biS sh f) :=
 ⟨hk, fun A s g m args vs hr I r => Tri.opt fun t ht => h t vs hr.1 I (sh.dec_s ht ▸ r)⟩
noncomputable abbrev sh1 : Sh := .int .nil
noncomputable abbrev sh2 : Sh := .int (.int .nil)
theorem repI {P : Params} {a : Int} {vs : List Value} (r : Reps P g [.int a] vs) : ∃ t, vs = [.int a t] := by
 obtain ⟨v, rfl, r1⟩ := reps1 r
 obtain ⟨t, rfl⟩ := r1.inv
 exact ⟨t, rfl⟩
theorem repI2 {P : Params} {a b : Int} {vs : List Value} (r : Reps P g [.int a, .int b] vs) : ∃ t u, vs = [.int a t, .int b u] := by
 obtain ⟨v, w, rfl, r1, r2⟩ := reps2 r
 obtain ⟨t, rfl⟩ := r1.inv
 obtain ⟨u, rfl⟩ := r2.inv
 exact ⟨t, u, rfl⟩
noncomputable def maxS : FSem := biS sh2 fun t m => .leaf (.int (max t.1 t.2.1), m)
noncomputable def minS : FSem := biS sh2 fun t m => .leaf (.int (min t.1 t.2.1), m)
theorem max_ok : FnOK c n (.builtin "max") maxS := bi_ok (keep_builtin _ _) fun t vs hh I r => by
 obtain ⟨x, y, rfl⟩ := repI2 r
 refine Tri.of (R := RepR c) fun Q E hQ => max_two_ints hh fun h' tk hk => hQ _ _ _ (Ext.keepAll hk tk) (I.keepAll hk tk) ?_
 show Rep _ _ _ _
 by_cases q : t.2.1 > t.1
 ·rw [if_pos q, Int.max_eq_right (Int.le_of_lt q)]; exact .int _ _
 ·rw [if_neg q, Int.max_eq_left (Int.not_lt.mp q)]; exact .int _ _
theorem min_ok : FnOK c n (.builtin "min") minS := bi_ok (keep_builtin _ _) fun t vs hh I r => by
 obtain ⟨x, y, rfl⟩ := repI2 r
 refine Tri.of (R := RepR c) fun Q E hQ => min_two_ints hh fun h' tk hk => hQ _ _ _ (Ext.keepAll hk tk) (I.keepAll hk tk) ?_
 show Rep _ _ _ _
 by_cases q : t.2.1 < t.1
 ·rw [if_pos q, Int.min_eq_right (Int.le_of_lt q)]; exact .int _ _
 ·rw [if_neg q, Int.min_eq_left (Int.not_lt.mp q)]; exact .int _ _
noncomputable def absS : FSem := biS sh1 fun t m => .leaf (.int t.1.natAbs, m)
theorem abs_ok : FnOK c n (.builtin "abs") absS := bi_ok (keep_builtin _ _) fun t vs hh I r => by
 obtain ⟨x, rfl⟩ := repI r
 refine Tri.val I fun Q E hQ => call_abs_int fun u tk => hQ _ _ ?_
 by_cases q : t.1 < 0
 ·rw [if_pos q, Int.ofNat_natAbs_of_nonpos (Int.le_of_lt q)]; exact .int _ _
 ·rw [if_neg q, Int.natAbs_of_nonneg (Int.not_lt.mp q)]; exact .int _ _
noncomputable def intS : FSem := biS sh1 fun t m => .leaf (.int t.1, m)
theorem int_ok : FnOK c n (.type "int") intS := bi_ok (keep_type _ _) fun t vs hh I r => by
 obtain ⟨x, rfl⟩ := repI r
 exact Tri.val I fun Q E hQ => call_int_int (hQ _ _ (.int _ _))
noncomputable def rangeS : FSem := biS sh1 fun t m => .leaf (.rng 0 t.1, m)
theorem range_ok : FnOK c n (.type "range") rangeS := bi_ok (keep_type _ _) fun {A s g m} t vs hh I r => by
 obtain ⟨x, rfl⟩ := repI r
 exact Tri.of (R := RepR c) fun Q E hQ => call_range_1 (hQ _ _ _ ((Ext.pushF I noX _).then (.toks _ _ _ _ _ (s.toks + 2))) ((I.pushF _ rfl).toks (s.toks + 2)) (.rng (a := s.heap.objs.size) Gh.put_self))
noncomputable def lstV (m : Mem) (a : AV) : Option (List AV) := match a with
 | .lst xs => some xs
 | .hnd k => lstOf m k
 | _ => none
theorem lstV_s (I : Inv c A g s m) {a : AV} {v : Value} {xs : List AV} (r : Rep c.w.params g a v) (h : lstV m a = some xs) : ∃ l us, v = .ref l ∧ s.heap.IsList l (List.toArray us) ∧ Reps c.w.params g xs us := by
 cases a with
 | lst ys =>
  obtain ⟨us, l, _, e, f, rs⟩ := r.inv
  exact ⟨l, us, e, I.list f, Option.some.inj h ▸ rs⟩
 | hnd k =>
  obtain ⟨a, r0, rfl, hk⟩ := r.inv
  obtain ⟨l, us, e, hl, rs⟩ := I.cell _ _ _ (lstOf_s h) hk
  exact ⟨l, us, by rw [(List.cons.inj e).1], hl, rs⟩
 | _ => exact nomatch h
noncomputable def listS : FSem := fun args m => optT (oneV args) "list" fun a => optT (aLst a) "list" fun xs => .req (xs.length ≤ 1000) (.leaf (.hnd m.length, m ++ [.lst xs]))
theorem list_ok : FnOK c n (.type "list") listS := ⟨keep_type _ _, fun A s g m args vs hr I r => Tri.opt fun a ha => Tri.opt fun xs hx => Tri.req fun hz => by
 rw [oneV_s ha, aLst_s hx] at r
 obtain ⟨v, rfl, r1⟩ := reps1 r
 obtain ⟨us, l, k, rfl, f, rs⟩ := r1.inv
 refine Tri.of (R := RepR c) (mem := m ++ [.lst xs]) fun Q E hQ => ?_
 refine call_list_seq l (.inl rfl) (I.frz _ _ f) rfl rfl (fun h' c' hk hD => ?_) (by rw [List.size_toArray, rs.length]; exact size_1000 hz)
 have I1 := I.keepAll hk s.toks
 have one : ∀ {p : Addr → Prop}, p s.heap.objs.size → ∀ a ∈ [s.heap.objs.size], p a := fun h a ha => List.mem_singleton.mp ha ▸ h
 have I2 := I1.adopt (l := [s.heap.objs.size]) (mo := .lst xs) ⟨_, us, rfl, ⟨_, hD, rfl, c', rfl⟩, rs⟩ (one ⟨⟨⟨_, hD⟩, I.fresh, I.freshT⟩, I.notFr (notLiv _)⟩) (List.nodup_cons.mpr ⟨List.not_mem_nil, List.nodup_nil⟩)
 refine hQ _ _ _ ((Ext.keepAll hk s.toks).trans (Ext.adopt (one (notLiv _)))) I2 (.hnd (r := []) ?_)
 show (g.th ++ [_])[m.length]? = _
 rw [I.len, List.getElem?_append_right (Nat.le_refl _), Nat.sub_self]; rfl⟩
noncomputable def tupleS : FSem := fun args m => optT (oneV args) "tuple" fun a => optT (lstV m a) "tuple" fun xs => .req (xs.length ≤ 1000) (.leaf (.tup xs, m))
theorem tuple_ok : FnOK c n (.type "tuple") tupleS := ⟨keep_type _ _, fun A s g m args vs hr I r => Tri.opt fun a ha => Tri.opt fun xs hx => Tri.req fun hz => by
 rw [oneV_s ha] at r
 obtain ⟨v, rfl, r1⟩ := reps1 r
 obtain ⟨l, us, rfl, hl, rs⟩ := lstV_s I r1 hx
 refine Tri.of (R := RepR c) fun Q E hQ => call_tuple_list hl (fun h' hk => ?_) (by rw [List.size_toArray, rs.length]; exact size_1000 hz)
 have I1 := I.keepAll hk s.toks
 have E1 : Ext A (Liv s.heap) noX g s g { s with heap := h', toks := s.toks } := Ext.keepAll hk s.toks
 exact hQ _ _ _ (E1.then (Ext.pushF I1 noX _)) (I1.pushF _ rfl) (.tup (a := h'.objs.size) (n := 0) Gh.put_self (rs.mono (Gr.put I1.fresh)))⟩
end
noncomputable def Imp {α : Type} (τ σ : T α) : Prop := ∀ K KX, τ.All K KX → σ.All K KX
noncomputable abbrev fdOf (st : Stmt) (qual : String) (dV : Value) (pm : String) (pt : Tok) (cd : Addr) (an : Option Addr) : FuncData :=
 fnOf (fdName st) (Str.ofString qual) (fdParams st) (fdBody st) (fdScope st) dV .none .none (.str (Str.ofString pm) pt) an (.ref cd) .none
section
variable {c : Cx} {n fuel : Nat} {A : Around} {s : Shared} {g : Gh} {m : Mem} {B X : Addr → Prop}
theorem Tri.imp {α ρ : Type} {t : Sem α} {R : α → ρ → Gh → Shared → Prop} {τ σ : T (ρ × Mem)} (h : Tri c A X s g t R σ) (i : Imp τ σ) : Tri c A X s g t R τ := fun Q E K KX hA hQ hE => h Q E K KX (i K KX hA) hQ hE
theorem TriC.imp {f : Value} {vs : List Value} {τ σ : T (AV × Mem)} (h : TriC c A X s g f vs σ) (i : Imp τ σ) : TriC c A X s g f vs τ := fun Q E K KX hA hQ hE => h Q E K KX (i K KX hA) hQ hE
end
noncomputable abbrev S (x : String) : Str := Str.ofString x
structure Def where
 f : Addr
 st : Stmt
 qual : String
 dV : Value
 pm : String
 pt : Tok
 cd : Addr
 an : Option Addr
noncomputable def Def.obj (d : Def) : Obj := fnK d.st d.qual d.dV d.pm d.pt d.cd d.an
noncomputable def Def.fd (d : Def) : FuncData := fdOf d.st d.qual d.dV d.pm d.pt d.cd d.an
structure DefOK (d : Def) : Prop where
 at_ : ∀ P, (kFrag P).lookup d.f = some d.obj := by intro P; kernel_rfl
 code : ∀ P, codeIn (kFrag P) (.ref d.cd) (Str.ofString d.qual) = true := by intro P; kernel_rfl
 keep : ∀ P, keepIn (kFrag P) (.ref d.f) = true := by intro P; kernel_rfl
noncomputable def BindsAs (c : Cx) (d : Def) (args : List AV) (lo : Lo) : Prop := ∀ s g vs, (kFrag c.w.params).In s.heap → Gr (g0 c) g → Reps c.w.params g args vs → ∃ binds, BindsTo s d.fd ⟨vs, []⟩ binds ∧ Binds c.w.params g lo binds
noncomputable def contOf {α : Type} : Sem α → Obj → Sem α
 | .load _ _ k, o => k o
 | t, _ => t
theorem BindsTo.load {s : Shared} {fd : FuncData} {args : Args} {binds : List (Str × Value)} {T : Addr} {o : Obj} (h1 : bindArgs fd args = .load T none (contOf (bindArgs fd args))) (ho : s.heap.get? T = some o)
  (h2 : contOf (bindArgs fd args) o = pure binds) : BindsTo s fd args binds := fun _ _ _ _ hq => by rw [h1]; exact nd_load ho (by rw [h2]; exact wpAny_pure hq)
section
variable {c : Cx} {n : Nat}
theorem Def.fn (d : Def) (hd : DefOK d) (O : ObjInt c) (fs : List (FK × FSem)) (mu : List String) (hfs : ∀ p ∈ fs, FnOK c n p.1.val p.2) (fuel : Nat) (k : FSem)
  (hk : ∀ args m, (∀ K KX, ¬ (k args m).All K KX) ∨ ∃ lo, BindsAs c d args lo ∧ scopeOK (fdScope d.st) lo = true ∧
   (Imp (k args m) (bodyT (cfg fs mu) fuel d.st lo m) ∨ Imp (k args m) ((bodyT (cfg fs mu) fuel d.st lo m).bind (truncT m.length)))) : FnOK c (n + 1) (.ref d.f) k where
 keep := keep_K c (hd.keep _)
 call := fun A s g m args vs hr I r => by
  rcases hk args m with h | ⟨lo, hb, hs, hi⟩
  ·exact fun Q E K KX hA => (h K KX hA).elim
  ·obtain ⟨binds, b1, b2⟩ := hb s g vs I.K (gr0 I) r
   have body := (call_body (fuel := fuel) O (cfg_ok (mu := mu) hfs) (hd.at_ c.w.params) (hd.code _) b1 b2 hs hr I).tri
   rcases hi with hi | hi
   ·exact body.imp hi
   ·exact (body.trunc I).imp hi
end
section
variable {c : Cx} {d : Def}
noncomputable def AllL (P : List Value → Prop) : Nat → List Value → Prop
 | 0, acc => P acc.reverse
 | k + 1, acc => ∀ v, AllL P k (v :: acc)
theorem AllL.use {P : List Value → Prop} : ∀ (vs : List Value) {acc : List Value}, AllL P vs.length acc → P (acc.reverse ++ vs)
 | [], acc, h => (List.append_nil acc.reverse).symm ▸ h
 | v :: vs, acc, h => by
  have := AllL.use vs (h v)
  rwa [List.reverse_cons, List.append_assoc] at this
theorem Binds.zip {P : Params} {g : Gh} : ∀ {ns : List Str} {xs : List AV} {vs : List Value}, Reps P g xs vs → Binds P g (ns.zip xs) (ns.zip vs)
 | [], _, _, _ => .nil
 | _ :: _, _, _, .nil => .nil
 | _ :: ns, _, _, .cons a r => .cons a (Binds.zip r)
theorem Binds.app {P : Params} {g : Gh} {l1 l2 : Lo} {b1 b2 : List (Str × Value)} (h : Binds P g l1 b1) (h2 : Binds P g l2 b2) : Binds P g (l1 ++ l2) (b1 ++ b2) := by
 induction h with
 | nil => exact h2
 | cons r _ ih => exact .cons r ih
noncomputable abbrev loZ (ns : List String) (args : List AV) : Lo := (ns.map S).zip args
theorem bindsA {ns : List String} {args : List AV} (h : AllL (fun vs => bindArgs d.fd ⟨vs, []⟩ = pure ((ns.map S).zip vs)) args.length [] := by (repeat intro _); show _ = _; kernel_rfl) : BindsAs c d args (loZ ns args) := fun s g vs _ _ r =>
 ⟨_, BindsTo.of_eq (AllL.use vs (acc := []) (r.length ▸ h)), Binds.zip r⟩
theorem bindsD {ns : List String} (T : Addr) (o : Obj) {ex : Lo} (eb : List (Str × Value)) (hx : ∀ P g, Binds P g ex eb) {args : List AV} (ht : ∀ P, (kFrag P).lookup T = some o := by intro P; kernel_rfl)
  (h : AllL (fun vs => bindArgs d.fd ⟨vs, []⟩ = .load T none (contOf (bindArgs d.fd ⟨vs, []⟩)) ∧ contOf (bindArgs d.fd ⟨vs, []⟩) o = pure ((ns.map S).zip vs ++ eb)) args.length [] := by (repeat intro _); show _ ∧ _; exact ⟨by kernel_rfl, by kernel_rfl⟩) : BindsAs c d args (loZ ns args ++ ex) := fun s g vs K _ r =>
 have q := AllL.use vs (acc := []) (r.length ▸ h)
 ⟨_, BindsTo.load q.1 (K _ _ (ht c.w.params)) q.2, (Binds.zip r).app (hx _ _)⟩
end
noncomputable def dones : Def := ⟨68, (stmtAt 10), "ones", .none, "ringgate.basics", 194, 67, none⟩
theorem dones_ok : DefOK dones := {}
theorem dones_as (c : Cx) (x0 : AV) : BindsAs c dones [x0] (loZ ["size"] [x0]) := bindsA
noncomputable def dwrap : Def := ⟨76, (stmtAt 11), "wrap", (.ref 69), "ringgate.basics", 194, 75, none⟩
theorem dwrap_ok : DefOK dwrap := {}
theorem dwrap_as1 (c : Cx) (x0 : AV) : BindsAs c dwrap [x0] (loZ ["worth"] [x0] ++ [(S "size", (.int (64)))]) := bindsD 69 (tupK [(.int (64) 271)] 0) [(S "size", (.int (64) 271))] (fun _ _ => .cons (.int _ _) (.nil))
theorem dwrap_as2 (c : Cx) (x0 x1 : AV) : BindsAs c dwrap [x0, x1] (loZ ["worth", "size"] [x0, x1] ++ []) := bindsD 69 (tupK [(.int (64) 271)] 0) [] (fun _ _ => .nil)
noncomputable def dsigned : Def := ⟨84, (stmtAt 12), "signed", (.ref 77), "ringgate.basics", 194, 83, none⟩
theorem dsigned_ok : DefOK dsigned := {}
theorem dsigned_as1 (c : Cx) (x0 : AV) : BindsAs c dsigned [x0] (loZ ["worth"] [x0] ++ [(S "size", (.int (64)))]) := bindsD 77 (tupK [(.int (64) 280)] 0) [(S "size", (.int (64) 280))] (fun _ _ => .cons (.int _ _) (.nil))
theorem dsigned_as2 (c : Cx) (x0 x1 : AV) : BindsAs c dsigned [x0, x1] (loZ ["worth", "size"] [x0, x1] ++ []) := bindsD 77 (tupK [(.int (64) 280)] 0) [] (fun _ _ => .nil)
noncomputable def dbit_count : Def := ⟨91, (stmtAt 13), "bit_count", .none, "ringgate.basics", 194, 90, none⟩
theorem dbit_count_ok : DefOK dbit_count := {}
theorem dbit_count_as (c : Cx) (x0 : AV) : BindsAs c dbit_count [x0] (loZ ["worth"] [x0]) := bindsA
noncomputable def dTnum___init__ : Def := ⟨105, (clsAt 15 0), "Tnum.__init__", .none, "ringgate.tnum", 299, 104, none⟩
theorem dTnum___init___ok : DefOK dTnum___init__ := {}
theorem dTnum___init___as (c : Cx) (x0 x1 x2 : AV) : BindsAs c dTnum___init__ [x0, x1, x2] (loZ ["self", "value", "mask"] [x0, x1, x2]) := bindsA
noncomputable def dTnum_const : Def := ⟨112, (clsAt 15 1), "Tnum.const", .none, "ringgate.tnum", 299, 111, (some 115)⟩
theorem dTnum_const_ok : DefOK dTnum_const := {}
theorem dTnum_const_as (c : Cx) (x0 : AV) : BindsAs c dTnum_const [x0] (loZ ["worth"] [x0]) := bindsA
noncomputable def dTnum_unknown : Def := ⟨122, (clsAt 15 2), "Tnum.unknown", .none, "ringgate.tnum", 299, 121, (some 125)⟩
theorem dTnum_unknown_ok : DefOK dTnum_unknown := {}
theorem dTnum_unknown_as (c : Cx) : BindsAs c dTnum_unknown [] (loZ [] []) := bindsA
noncomputable def dTnum_span : Def := ⟨132, (clsAt 15 3), "Tnum.span", .none, "ringgate.tnum", 299, 131, (some 135)⟩
theorem dTnum_span_ok : DefOK dTnum_span := {}
theorem dTnum_span_as (c : Cx) (x0 x1 : AV) : BindsAs c dTnum_span [x0, x1] (loZ ["least", "most"] [x0, x1]) := bindsA
noncomputable def dTnum_contains : Def := ⟨142, (clsAt 15 4), "Tnum.contains", .none, "ringgate.tnum", 299, 141, none⟩
theorem dTnum_contains_ok : DefOK dTnum_contains := {}
theorem dTnum_contains_as (c : Cx) (x0 x1 : AV) : BindsAs c dTnum_contains [x0, x1] (loZ ["self", "worth"] [x0, x1]) := bindsA
noncomputable def dTnum_is_const : Def := ⟨149, (clsAt 15 5), "Tnum.is_const", .none, "ringgate.tnum", 299, 148, none⟩
theorem dTnum_is_const_ok : DefOK dTnum_is_const := {}
theorem dTnum_is_const_as (c : Cx) (x0 : AV) : BindsAs c dTnum_is_const [x0] (loZ ["self"] [x0]) := bindsA
noncomputable def dTnum_least : Def := ⟨156, (clsAt 15 6), "Tnum.least", .none, "ringgate.tnum", 299, 155, none⟩
theorem dTnum_least_ok : DefOK dTnum_least := {}
theorem dTnum_least_as (c : Cx) (x0 : AV) : BindsAs c dTnum_least [x0] (loZ ["self"] [x0]) := bindsA
noncomputable def dTnum_most : Def := ⟨163, (clsAt 15 7), "Tnum.most", .none, "ringgate.tnum", 299, 162, none⟩
theorem dTnum_most_ok : DefOK dTnum_most := {}
theorem dTnum_most_as (c : Cx) (x0 : AV) : BindsAs c dTnum_most [x0] (loZ ["self"] [x0]) := bindsA
noncomputable def dTnum_signed_least : Def := ⟨171, (clsAt 15 8), "Tnum.signed_least", (.ref 164), "ringgate.tnum", 299, 170, none⟩
theorem dTnum_signed_least_ok : DefOK dTnum_signed_least := {}
theorem dTnum_signed_least_as1 (c : Cx) (x0 : AV) : BindsAs c dTnum_signed_least [x0] (loZ ["self"] [x0] ++ [(S "size", (.int (64)))]) := bindsD 164 (tupK [(.int (64) 409)] 0) [(S "size", (.int (64) 409))] (fun _ _ => .cons (.int _ _) (.nil))
theorem dTnum_signed_least_as2 (c : Cx) (x0 x1 : AV) : BindsAs c dTnum_signed_least [x0, x1] (loZ ["self", "size"] [x0, x1] ++ []) := bindsD 164 (tupK [(.int (64) 409)] 0) [] (fun _ _ => .nil)
noncomputable def dTnum_signed_most : Def := ⟨179, (clsAt 15 9), "Tnum.signed_most", (.ref 172), "ringgate.tnum", 299, 178, none⟩
theorem dTnum_signed_most_ok : DefOK dTnum_signed_most := {}
theorem dTnum_signed_most_as1 (c : Cx) (x0 : AV) : BindsAs c dTnum_signed_most [x0] (loZ ["self"] [x0] ++ [(S "size", (.int (64)))]) := bindsD 172 (tupK [(.int (64) 418)] 0) [(S "size", (.int (64) 418))] (fun _ _ => .cons (.int _ _) (.nil))
theorem dTnum_signed_most_as2 (c : Cx) (x0 x1 : AV) : BindsAs c dTnum_signed_most [x0, x1] (loZ ["self", "size"] [x0, x1] ++ []) := bindsD 172 (tupK [(.int (64) 418)] 0) [] (fun _ _ => .nil)
noncomputable def dTnum_told : Def := ⟨200, (clsAt 15 12), "Tnum.told", .none, "ringgate.tnum", 299, 199, none⟩
theorem dTnum_told_ok : DefOK dTnum_told := {}
theorem dTnum_told_as (c : Cx) (x0 : AV) : BindsAs c dTnum_told [x0] (loZ ["self"] [x0]) := bindsA
noncomputable def dwithout : Def := ⟨222, (stmtAt 16), "without", .none, "ringgate.tnum", 299, 221, none⟩
theorem dwithout_ok : DefOK dwithout := {}
theorem dwithout_as (c : Cx) (x0 x1 : AV) : BindsAs c dwithout [x0, x1] (loZ ["value", "mask"] [x0, x1]) := bindsA
noncomputable def dtnum_add : Def := ⟨229, (stmtAt 17), "tnum_add", .none, "ringgate.tnum", 299, 228, none⟩
theorem dtnum_add_ok : DefOK dtnum_add := {}
theorem dtnum_add_as (c : Cx) (x0 x1 : AV) : BindsAs c dtnum_add [x0, x1] (loZ ["a", "b"] [x0, x1]) := bindsA
noncomputable def dtnum_sub : Def := ⟨236, (stmtAt 18), "tnum_sub", .none, "ringgate.tnum", 299, 235, none⟩
theorem dtnum_sub_ok : DefOK dtnum_sub := {}
theorem dtnum_sub_as (c : Cx) (x0 x1 : AV) : BindsAs c dtnum_sub [x0, x1] (loZ ["a", "b"] [x0, x1]) := bindsA
noncomputable def dtnum_meet : Def := ⟨243, (stmtAt 19), "tnum_meet", .none, "ringgate.tnum", 299, 242, none⟩
theorem dtnum_meet_ok : DefOK dtnum_meet := {}
theorem dtnum_meet_as (c : Cx) (x0 x1 : AV) : BindsAs c dtnum_meet [x0, x1] (loZ ["a", "b"] [x0, x1]) := bindsA
noncomputable def dtnum_low32 : Def := ⟨250, (stmtAt 20), "tnum_low32", .none, "ringgate.tnum", 299, 249, none⟩
theorem dtnum_low32_ok : DefOK dtnum_low32 := {}
theorem dtnum_low32_as (c : Cx) (x0 : AV) : BindsAs c dtnum_low32 [x0] (loZ ["a"] [x0]) := bindsA
noncomputable def dtnum_with_low32 : Def := ⟨257, (stmtAt 21), "tnum_with_low32", .none, "ringgate.tnum", 299, 256, none⟩
theorem dtnum_with_low32_ok : DefOK dtnum_with_low32 := {}
theorem dtnum_with_low32_as (c : Cx) (x0 x1 : AV) : BindsAs c dtnum_with_low32 [x0, x1] (loZ ["a", "low"] [x0, x1]) := bindsA
noncomputable def dScalar___init__ : Def := ⟨271, (clsAt 24 0), "Scalar.__init__", .none, "ringgate.ranges", 522, 270, none⟩
theorem dScalar___init___ok : DefOK dScalar___init__ := {}
theorem dScalar___init___as (c : Cx) (x0 x1 x2 x3 x4 x5 x6 x7 x8 x9 : AV) : BindsAs c dScalar___init__ [x0, x1, x2, x3, x4, x5, x6, x7, x8, x9] (loZ ["self", "bits", "umin", "umax", "smin", "smax", "umin32", "umax32", "smin32", "smax32"] [x0, x1, x2, x3, x4, x5, x6, x7, x8, x9]) := bindsA
noncomputable def dScalar_unknown : Def := ⟨278, (clsAt 24 1), "Scalar.unknown", .none, "ringgate.ranges", 522, 277, (some 281)⟩
theorem dScalar_unknown_ok : DefOK dScalar_unknown := {}
theorem dScalar_unknown_as (c : Cx) : BindsAs c dScalar_unknown [] (loZ [] []) := bindsA
noncomputable def dScalar_const : Def := ⟨288, (clsAt 24 2), "Scalar.const", .none, "ringgate.ranges", 522, 287, (some 291)⟩
theorem dScalar_const_ok : DefOK dScalar_const := {}
theorem dScalar_const_as (c : Cx) (x0 : AV) : BindsAs c dScalar_const [x0] (loZ ["worth"] [x0]) := bindsA
noncomputable def dScalar_with_sign : Def := ⟨308, (clsAt 24 4), "Scalar.with_sign", .none, "ringgate.ranges", 522, 307, (some 311)⟩
theorem dScalar_with_sign_ok : DefOK dScalar_with_sign := {}
theorem dScalar_with_sign_as (c : Cx) (x0 x1 : AV) : BindsAs c dScalar_with_sign [x0, x1] (loZ ["least", "most"] [x0, x1]) := bindsA
noncomputable def dScalar_of_bits : Def := ⟨318, (clsAt 24 5), "Scalar.of_bits", .none, "ringgate.ranges", 522, 317, (some 321)⟩
theorem dScalar_of_bits_ok : DefOK dScalar_of_bits := {}
theorem dScalar_of_bits_as (c : Cx) (x0 : AV) : BindsAs c dScalar_of_bits [x0] (loZ ["bits"] [x0]) := bindsA
noncomputable def dScalar_contains : Def := ⟨328, (clsAt 24 6), "Scalar.contains", .none, "ringgate.ranges", 522, 327, none⟩
theorem dScalar_contains_ok : DefOK dScalar_contains := {}
theorem dScalar_contains_as (c : Cx) (x0 x1 : AV) : BindsAs c dScalar_contains [x0, x1] (loZ ["self", "worth"] [x0, x1]) := bindsA
noncomputable def dScalar_is_const : Def := ⟨335, (clsAt 24 7), "Scalar.is_const", .none, "ringgate.ranges", 522, 334, none⟩
theorem dScalar_is_const_ok : DefOK dScalar_is_const := {}
theorem dScalar_is_const_as (c : Cx) (x0 : AV) : BindsAs c dScalar_is_const [x0] (loZ ["self"] [x0]) := bindsA
noncomputable def dScalar_worth : Def := ⟨342, (clsAt 24 8), "Scalar.worth", .none, "ringgate.ranges", 522, 341, none⟩
theorem dScalar_worth_ok : DefOK dScalar_worth := {}
theorem dScalar_worth_as (c : Cx) (x0 : AV) : BindsAs c dScalar_worth [x0] (loZ ["self"] [x0]) := bindsA
noncomputable def dScalar_ends : Def := ⟨356, (clsAt 24 10), "Scalar.ends", .none, "ringgate.ranges", 522, 355, none⟩
theorem dScalar_ends_ok : DefOK dScalar_ends := {}
theorem dScalar_ends_as (c : Cx) (x0 : AV) : BindsAs c dScalar_ends [x0] (loZ ["self"] [x0]) := bindsA
noncomputable def dScalar_told : Def := ⟨363, (clsAt 24 11), "Scalar.told", .none, "ringgate.ranges", 522, 362, none⟩
theorem dScalar_told_ok : DefOK dScalar_told := {}
theorem dScalar_told_as (c : Cx) (x0 : AV) : BindsAs c dScalar_told [x0] (loZ ["self"] [x0]) := bindsA
noncomputable def draise_least : Def := ⟨377, (stmtAt 25), "raise_least", .none, "ringgate.ranges", 522, 376, none⟩
theorem draise_least_ok : DefOK draise_least := {}
theorem draise_least_as (c : Cx) (x0 x1 x2 : AV) : BindsAs c draise_least [x0, x1, x2] (loZ ["ends", "at", "worth"] [x0, x1, x2]) := bindsA
noncomputable def dlower_most : Def := ⟨384, (stmtAt 26), "lower_most", .none, "ringgate.ranges", 522, 383, none⟩
theorem dlower_most_ok : DefOK dlower_most := {}
theorem dlower_most_as (c : Cx) (x0 x1 x2 : AV) : BindsAs c dlower_most [x0, x1, x2] (loZ ["ends", "at", "worth"] [x0, x1, x2]) := bindsA
noncomputable def dends_by_bits : Def := ⟨391, (stmtAt 27), "ends_by_bits", .none, "ringgate.ranges", 522, 390, none⟩
theorem dends_by_bits_ok : DefOK dends_by_bits := {}
theorem dends_by_bits_as (c : Cx) (x0 x1 : AV) : BindsAs c dends_by_bits [x0, x1] (loZ ["bits", "ends"] [x0, x1]) := bindsA
noncomputable def dends_by_sign : Def := ⟨398, (stmtAt 28), "ends_by_sign", .none, "ringgate.ranges", 522, 397, none⟩
theorem dends_by_sign_ok : DefOK dends_by_sign := {}
theorem dends_by_sign_as (c : Cx) (x0 x1 x2 : AV) : BindsAs c dends_by_sign [x0, x1, x2] (loZ ["ends", "at", "size"] [x0, x1, x2]) := bindsA
noncomputable def dhalves_by_wholes : Def := ⟨405, (stmtAt 29), "halves_by_wholes", .none, "ringgate.ranges", 522, 404, none⟩
theorem dhalves_by_wholes_ok : DefOK dhalves_by_wholes := {}
theorem dhalves_by_wholes_as (c : Cx) (x0 : AV) : BindsAs c dhalves_by_wholes [x0] (loZ ["ends"] [x0]) := bindsA
noncomputable def dleast_whole : Def := ⟨412, (stmtAt 30), "least_whole", .none, "ringgate.ranges", 522, 411, none⟩
theorem dleast_whole_ok : DefOK dleast_whole := {}
theorem dleast_whole_as (c : Cx) (x0 x1 x2 : AV) : BindsAs c dleast_whole [x0, x1, x2] (loZ ["least", "low", "top"] [x0, x1, x2]) := bindsA
noncomputable def dmost_whole : Def := ⟨419, (stmtAt 31), "most_whole", .none, "ringgate.ranges", 522, 418, none⟩
theorem dmost_whole_ok : DefOK dmost_whole := {}
theorem dmost_whole_as (c : Cx) (x0 x1 x2 : AV) : BindsAs c dmost_whole [x0, x1, x2] (loZ ["most", "low", "top"] [x0, x1, x2]) := bindsA
noncomputable def dwholes_by_halves : Def := ⟨426, (stmtAt 32), "wholes_by_halves", .none, "ringgate.ranges", 522, 425, none⟩
theorem dwholes_by_halves_ok : DefOK dwholes_by_halves := {}
theorem dwholes_by_halves_as (c : Cx) (x0 : AV) : BindsAs c dwholes_by_halves [x0] (loZ ["ends"] [x0]) := bindsA
noncomputable def dis_empty : Def := ⟨433, (stmtAt 33), "is_empty", .none, "ringgate.ranges", 522, 432, none⟩
theorem dis_empty_ok : DefOK dis_empty := {}
theorem dis_empty_as (c : Cx) (x0 : AV) : BindsAs c dis_empty [x0] (loZ ["ends"] [x0]) := bindsA
noncomputable def dbits_by_ends : Def := ⟨440, (stmtAt 34), "bits_by_ends", .none, "ringgate.ranges", 522, 439, none⟩
theorem dbits_by_ends_ok : DefOK dbits_by_ends := {}
theorem dbits_by_ends_as (c : Cx) (x0 x1 : AV) : BindsAs c dbits_by_ends [x0, x1] (loZ ["bits", "ends"] [x0, x1]) := bindsA
noncomputable def ddeduced : Def := ⟨447, (stmtAt 35), "deduced", .none, "ringgate.ranges", 522, 446, none⟩
theorem ddeduced_ok : DefOK ddeduced := {}
theorem ddeduced_as (c : Cx) (x0 x1 : AV) : BindsAs c ddeduced [x0, x1] (loZ ["bits", "ends"] [x0, x1]) := bindsA
noncomputable def dmade : Def := ⟨454, (stmtAt 36), "made", .none, "ringgate.ranges", 522, 453, none⟩
theorem dmade_ok : DefOK dmade := {}
theorem dmade_as (c : Cx) (x0 x1 : AV) : BindsAs c dmade [x0, x1] (loZ ["bits", "ends"] [x0, x1]) := bindsA
noncomputable def dor_unknown : Def := ⟨461, (stmtAt 37), "or_unknown", .none, "ringgate.ranges", 522, 460, none⟩
theorem dor_unknown_ok : DefOK dor_unknown := {}
theorem dor_unknown_as (c : Cx) (x0 : AV) : BindsAs c dor_unknown [x0] (loZ ["found"] [x0]) := bindsA
noncomputable def dReg___init__ : Def := ⟨476, (clsAt 40 0), "Reg.__init__", (.ref 469), "ringgate.kinds", 837, 475, none⟩
theorem dReg___init___ok : DefOK dReg___init__ := {}
theorem dReg___init___as2 (c : Cx) (x0 x1 : AV) : BindsAs c dReg___init__ [x0, x1] (loZ ["self", "kind"] [x0, x1] ++ [(S "off", (.int (0))), (S "scalar", .none), (S "number", (.int (0))), (S "map_number", (.int (-1))), (S "reach", (.int (0))), (S "room", (.int (0))), (S "frame", (.int (0)))]) := bindsD 469 (tupK [(.int (0) 853), .none, (.int (0) 854), (.int (-1) 856), (.int (0) 857), (.int (0) 858), (.int (0) 859)] 0) [(S "off", (.int (0) 853)), (S "scalar", .none), (S "number", (.int (0) 854)), (S "map_number", (.int (-1) 856)), (S "reach", (.int (0) 857)), (S "room", (.int (0) 858)), (S "frame", (.int (0) 859))] (fun _ _ => .cons (.int _ _) (.cons .none (.cons (.int _ _) (.cons (.int _ _) (.cons (.int _ _) (.cons (.int _ _) (.cons (.int _ _) (.nil))))))))
theorem dReg___init___as3 (c : Cx) (x0 x1 x2 : AV) : BindsAs c dReg___init__ [x0, x1, x2] (loZ ["self", "kind", "off"] [x0, x1, x2] ++ [(S "scalar", .none), (S "number", (.int (0))), (S "map_number", (.int (-1))), (S "reach", (.int (0))), (S "room", (.int (0))), (S "frame", (.int (0)))]) := bindsD 469 (tupK [(.int (0) 853), .none, (.int (0) 854), (.int (-1) 856), (.int (0) 857), (.int (0) 858), (.int (0) 859)] 0) [(S "scalar", .none), (S "number", (.int (0) 854)), (S "map_number", (.int (-1) 856)), (S "reach", (.int (0) 857)), (S "room", (.int (0) 858)), (S "frame", (.int (0) 859))] (fun _ _ => .cons .none (.cons (.int _ _) (.cons (.int _ _) (.cons (.int _ _) (.cons (.int _ _) (.cons (.int _ _) (.nil)))))))
theorem dReg___init___as4 (c : Cx) (x0 x1 x2 x3 : AV) : BindsAs c dReg___init__ [x0, x1, x2, x3] (loZ ["self", "kind", "off", "scalar"] [x0, x1, x2, x3] ++ [(S "number", (.int (0))), (S "map_number", (.int (-1))), (S "reach", (.int (0))), (S "room", (.int (0))), (S "frame", (.int (0)))]) := bindsD 469 (tupK [(.int (0) 853), .none, (.int (0) 854), (.int (-1) 856), (.int (0) 857), (.int (0) 858), (.int (0) 859)] 0) [(S "number", (.int (0) 854)), (S "map_number", (.int (-1) 856)), (S "reach", (.int (0) 857)), (S "room", (.int (0) 858)), (S "frame", (.int (0) 859))] (fun _ _ => .cons (.int _ _) (.cons (.int _ _) (.cons (.int _ _) (.cons (.int _ _) (.cons (.int _ _) (.nil))))))
theorem dReg___init___as5 (c : Cx) (x0 x1 x2 x3 x4 : AV) : BindsAs c dReg___init__ [x0, x1, x2, x3, x4] (loZ ["self", "kind", "off", "scalar", "number"] [x0, x1, x2, x3, x4] ++ [(S "map_number", (.int (-1))), (S "reach", (.int (0))), (S "room", (.int (0))), (S "frame", (.int (0)))]) := bindsD 469 (tupK [(.int (0) 853), .none, (.int (0) 854), (.int (-1) 856), (.int (0) 857), (.int (0) 858), (.int (0) 859)] 0) [(S "map_number", (.int (-1) 856)), (S "reach", (.int (0) 857)), (S "room", (.int (0) 858)), (S "frame", (.int (0) 859))] (fun _ _ => .cons (.int _ _) (.cons (.int _ _) (.cons (.int _ _) (.cons (.int _ _) (.nil)))))
theorem dReg___init___as9 (c : Cx) (x0 x1 x2 x3 x4 x5 x6 x7 x8 : AV) : BindsAs c dReg___init__ [x0, x1, x2, x3, x4, x5, x6, x7, x8] (loZ ["self", "kind", "off", "scalar", "number", "map_number", "reach", "room", "frame"] [x0, x1, x2, x3, x4, x5, x6, x7, x8] ++ []) := bindsD 469 (tupK [(.int (0) 853), .none, (.int (0) 854), (.int (-1) 856), (.int (0) 857), (.int (0) 858), (.int (0) 859)] 0) [] (fun _ _ => .nil)
noncomputable def dReg_told : Def := ⟨483, (clsAt 40 1), "Reg.told", .none, "ringgate.kinds", 837, 482, none⟩
theorem dReg_told_ok : DefOK dReg_told := {}
theorem dReg_told_as (c : Cx) (x0 : AV) : BindsAs c dReg_told [x0] (loZ ["self"] [x0]) := bindsA
noncomputable def dnone : Def := ⟨497, (stmtAt 41), "none", .none, "ringgate.kinds", 837, 496, none⟩
theorem dnone_ok : DefOK dnone := {}
theorem dnone_as (c : Cx) : BindsAs c dnone [] (loZ [] []) := bindsA
noncomputable def dnumber_reg : Def := ⟨505, (stmtAt 42), "number_reg", (.ref 498), "ringgate.kinds", 837, 504, none⟩
theorem dnumber_reg_ok : DefOK dnumber_reg := {}
theorem dnumber_reg_as1 (c : Cx) (x0 : AV) : BindsAs c dnumber_reg [x0] (loZ ["scalar"] [x0] ++ [(S "number", (.int (0)))]) := bindsD 498 (tupK [(.int (0) 904)] 0) [(S "number", (.int (0) 904))] (fun _ _ => .cons (.int _ _) (.nil))
noncomputable def dconst_reg : Def := ⟨512, (stmtAt 43), "const_reg", .none, "ringgate.kinds", 837, 511, none⟩
theorem dconst_reg_ok : DefOK dconst_reg := {}
theorem dconst_reg_as (c : Cx) (x0 : AV) : BindsAs c dconst_reg [x0] (loZ ["worth"] [x0]) := bindsA
noncomputable def dany_number : Def := ⟨519, (stmtAt 44), "any_number", .none, "ringgate.kinds", 837, 518, none⟩
theorem dany_number_ok : DefOK dany_number := {}
theorem dany_number_as (c : Cx) : BindsAs c dany_number [] (loZ [] []) := bindsA
noncomputable def dcontext_reg : Def := ⟨526, (stmtAt 45), "context_reg", .none, "ringgate.kinds", 837, 525, none⟩
theorem dcontext_reg_ok : DefOK dcontext_reg := {}
theorem dcontext_reg_as (c : Cx) : BindsAs c dcontext_reg [] (loZ [] []) := bindsA
noncomputable def dstack_reg : Def := ⟨533, (stmtAt 46), "stack_reg", .none, "ringgate.kinds", 837, 532, none⟩
theorem dstack_reg_ok : DefOK dstack_reg := {}
theorem dstack_reg_as (c : Cx) (x0 x1 : AV) : BindsAs c dstack_reg [x0, x1] (loZ ["off", "frame"] [x0, x1]) := bindsA
noncomputable def dis_pointer : Def := ⟨540, (stmtAt 47), "is_pointer", .none, "ringgate.kinds", 837, 539, none⟩
theorem dis_pointer_ok : DefOK dis_pointer := {}
theorem dis_pointer_as (c : Cx) (x0 : AV) : BindsAs c dis_pointer [x0] (loZ ["reg"] [x0]) := bindsA
noncomputable def dis_movable : Def := ⟨547, (stmtAt 48), "is_movable", .none, "ringgate.kinds", 837, 546, none⟩
theorem dis_movable_ok : DefOK dis_movable := {}
theorem dis_movable_as (c : Cx) (x0 : AV) : BindsAs c dis_movable [x0] (loZ ["reg"] [x0]) := bindsA
noncomputable def dis_const : Def := ⟨554, (stmtAt 49), "is_const", .none, "ringgate.kinds", 837, 553, none⟩
theorem dis_const_ok : DefOK dis_const := {}
theorem dis_const_as (c : Cx) (x0 : AV) : BindsAs c dis_const [x0] (loZ ["reg"] [x0]) := bindsA
noncomputable def drebuilt : Def := ⟨561, (stmtAt 50), "rebuilt", .none, "ringgate.kinds", 837, 560, none⟩
theorem drebuilt_ok : DefOK drebuilt := {}
theorem drebuilt_as (c : Cx) (x0 x1 x2 x3 x4 : AV) : BindsAs c drebuilt [x0, x1, x2, x3, x4] (loZ ["reg", "off", "scalar", "number", "reach"] [x0, x1, x2, x3, x4]) := bindsA
noncomputable def dwith_off : Def := ⟨568, (stmtAt 51), "with_off", .none, "ringgate.kinds", 837, 567, none⟩
theorem dwith_off_ok : DefOK dwith_off := {}
theorem dwith_off_as (c : Cx) (x0 x1 : AV) : BindsAs c dwith_off [x0, x1] (loZ ["reg", "off"] [x0, x1]) := bindsA
noncomputable def dwith_scalar : Def := ⟨575, (stmtAt 52), "with_scalar", .none, "ringgate.kinds", 837, 574, none⟩
theorem dwith_scalar_ok : DefOK dwith_scalar := {}
theorem dwith_scalar_as (c : Cx) (x0 x1 : AV) : BindsAs c dwith_scalar [x0, x1] (loZ ["reg", "scalar"] [x0, x1]) := bindsA
noncomputable def dwith_number : Def := ⟨582, (stmtAt 53), "with_number", .none, "ringgate.kinds", 837, 581, none⟩
theorem dwith_number_ok : DefOK dwith_number := {}
theorem dwith_number_as (c : Cx) (x0 x1 : AV) : BindsAs c dwith_number [x0, x1] (loZ ["reg", "number"] [x0, x1]) := bindsA
noncomputable def dwith_reach : Def := ⟨589, (stmtAt 54), "with_reach", .none, "ringgate.kinds", 837, 588, none⟩
theorem dwith_reach_ok : DefOK dwith_reach := {}
theorem dwith_reach_as (c : Cx) (x0 x1 : AV) : BindsAs c dwith_reach [x0, x1] (loZ ["reg", "reach"] [x0, x1]) := bindsA
noncomputable def dOrder___init__ : Def := ⟨604, (clsAt 65 0), "Order.__init__", (.ref 597), "ringgate.orders", 1004, 603, none⟩
theorem dOrder___init___ok : DefOK dOrder___init__ := {}
theorem dOrder___init___as6 (c : Cx) (x0 x1 x2 x3 x4 x5 : AV) : BindsAs c dOrder___init__ [x0, x1, x2, x3, x4, x5] (loZ ["self", "code", "dst", "src", "off", "imm"] [x0, x1, x2, x3, x4, x5] ++ [(S "more", (.int (0)))]) := bindsD 597 (tupK [(.int (0) 1036)] 0) [(S "more", (.int (0) 1036))] (fun _ _ => .cons (.int _ _) (.nil))
theorem dOrder___init___as7 (c : Cx) (x0 x1 x2 x3 x4 x5 x6 : AV) : BindsAs c dOrder___init__ [x0, x1, x2, x3, x4, x5, x6] (loZ ["self", "code", "dst", "src", "off", "imm", "more"] [x0, x1, x2, x3, x4, x5, x6] ++ []) := bindsD 597 (tupK [(.int (0) 1036)] 0) [] (fun _ _ => .nil)
noncomputable def dclass_of : Def := ⟨625, (stmtAt 66), "class_of", .none, "ringgate.orders", 1004, 624, none⟩
theorem dclass_of_ok : DefOK dclass_of := {}
theorem dclass_of_as (c : Cx) (x0 : AV) : BindsAs c dclass_of [x0] (loZ ["order"] [x0]) := bindsA
noncomputable def dis_alu : Def := ⟨632, (stmtAt 67), "is_alu", .none, "ringgate.orders", 1004, 631, none⟩
theorem dis_alu_ok : DefOK dis_alu := {}
theorem dis_alu_as (c : Cx) (x0 : AV) : BindsAs c dis_alu [x0] (loZ ["order"] [x0]) := bindsA
noncomputable def dis_jumping : Def := ⟨639, (stmtAt 68), "is_jumping", .none, "ringgate.orders", 1004, 638, none⟩
theorem dis_jumping_ok : DefOK dis_jumping := {}
theorem dis_jumping_as (c : Cx) (x0 : AV) : BindsAs c dis_jumping [x0] (loZ ["order"] [x0]) := bindsA
noncomputable def doperation : Def := ⟨646, (stmtAt 69), "operation", .none, "ringgate.orders", 1004, 645, none⟩
theorem doperation_ok : DefOK doperation := {}
theorem doperation_as (c : Cx) (x0 : AV) : BindsAs c doperation [x0] (loZ ["order"] [x0]) := bindsA
noncomputable def dis_register : Def := ⟨653, (stmtAt 70), "is_register", .none, "ringgate.orders", 1004, 652, none⟩
theorem dis_register_ok : DefOK dis_register := {}
theorem dis_register_as (c : Cx) (x0 : AV) : BindsAs c dis_register [x0] (loZ ["order"] [x0]) := bindsA
noncomputable def dis_far : Def := ⟨661, (stmtAt 75), "is_far", .none, "ringgate.pointers", 1110, 660, none⟩
theorem dis_far_ok : DefOK dis_far := {}
theorem dis_far_as (c : Cx) (x0 : AV) : BindsAs c dis_far [x0] (loZ ["off"] [x0]) := bindsA
noncomputable def dvaries_far : Def := ⟨668, (stmtAt 76), "varies_far", .none, "ringgate.pointers", 1110, 667, none⟩
theorem dvaries_far_ok : DefOK dvaries_far := {}
theorem dvaries_far_as (c : Cx) (x0 : AV) : BindsAs c dvaries_far [x0] (loZ ["scalar"] [x0]) := bindsA
noncomputable def dknown_sum : Def := ⟨675, (stmtAt 77), "known_sum", .none, "ringgate.pointers", 1110, 674, none⟩
theorem dknown_sum_ok : DefOK dknown_sum := {}
theorem dknown_sum_as (c : Cx) (x0 x1 x2 x3 : AV) : BindsAs c dknown_sum [x0, x1, x2, x3] (loZ ["pointer", "number", "is_minus", "at"] [x0, x1, x2, x3]) := bindsA
noncomputable def dscalar_sum : Def := ⟨682, (stmtAt 78), "scalar_sum", .none, "ringgate.pointers", 1110, 681, none⟩
theorem dscalar_sum_ok : DefOK dscalar_sum := {}
theorem dscalar_sum_as (c : Cx) (x0 x1 x2 : AV) : BindsAs c dscalar_sum [x0, x1, x2] (loZ ["one", "other", "is_minus"] [x0, x1, x2]) := bindsA
noncomputable def dvarying_sum : Def := ⟨689, (stmtAt 79), "varying_sum", .none, "ringgate.pointers", 1110, 688, none⟩
theorem dvarying_sum_ok : DefOK dvarying_sum := {}
theorem dvarying_sum_as (c : Cx) (x0 x1 x2 x3 x4 : AV) : BindsAs c dvarying_sum [x0, x1, x2, x3, x4] (loZ ["pointer", "number", "is_minus", "at", "fresh"] [x0, x1, x2, x3, x4]) := bindsA
noncomputable def dadd_to_pointer : Def := ⟨697, (stmtAt 80), "add_to_pointer", (.ref 690), "ringgate.pointers", 1110, 696, none⟩
theorem dadd_to_pointer_ok : DefOK dadd_to_pointer := {}
theorem dadd_to_pointer_as5 (c : Cx) (x0 x1 x2 x3 x4 : AV) : BindsAs c dadd_to_pointer [x0, x1, x2, x3, x4] (loZ ["pointer", "number", "is_minus", "at", "fresh"] [x0, x1, x2, x3, x4] ++ []) := bindsD 690 (tupK [(.int (0) 1171)] 0) [] (fun _ _ => .nil)
noncomputable def dis_difference : Def := ⟨704, (stmtAt 81), "is_difference", .none, "ringgate.pointers", 1110, 703, none⟩
theorem dis_difference_ok : DefOK dis_difference := {}
theorem dis_difference_as (c : Cx) (x0 x1 : AV) : BindsAs c dis_difference [x0, x1] (loZ ["one", "other"] [x0, x1]) := bindsA
noncomputable def dneeds_id : Def := ⟨711, (stmtAt 82), "needs_id", .none, "ringgate.pointers", 1110, 710, none⟩
theorem dneeds_id_ok : DefOK dneeds_id := {}
theorem dneeds_id_as (c : Cx) (x0 x1 : AV) : BindsAs c dneeds_id [x0, x1] (loZ ["pointer", "number"] [x0, x1]) := bindsA
noncomputable def dsource_of : Def := ⟨718, (stmtAt 83), "source_of", .none, "ringgate.pointers", 1110, 717, none⟩
theorem dsource_of_ok : DefOK dsource_of := {}
theorem dsource_of_as (c : Cx) (x0 x1 : AV) : BindsAs c dsource_of [x0, x1] (loZ ["state", "order"] [x0, x1]) := bindsA
noncomputable def dmoved : Def := ⟨725, (stmtAt 84), "moved", .none, "ringgate.pointers", 1110, 724, none⟩
theorem dmoved_ok : DefOK dmoved := {}
theorem dmoved_as (c : Cx) (x0 x1 x2 x3 x4 : AV) : BindsAs c dmoved [x0, x1, x2, x3, x4] (loZ ["state", "pointer", "number", "is_minus", "at"] [x0, x1, x2, x3, x4]) := bindsA
noncomputable def dsum_of : Def := ⟨732, (stmtAt 85), "sum_of", .none, "ringgate.pointers", 1110, 731, none⟩
theorem dsum_of_ok : DefOK dsum_of := {}
theorem dsum_of_as (c : Cx) (x0 x1 x2 x3 x4 : AV) : BindsAs c dsum_of [x0, x1, x2, x3, x4] (loZ ["state", "one", "other", "is_minus", "at"] [x0, x1, x2, x3, x4]) := bindsA
noncomputable def dpointer_deed : Def := ⟨739, (stmtAt 86), "pointer_deed", .none, "ringgate.pointers", 1110, 738, none⟩
theorem dpointer_deed_ok : DefOK dpointer_deed := {}
theorem dpointer_deed_as (c : Cx) (x0 x1 x2 : AV) : BindsAs c dpointer_deed [x0, x1, x2] (loZ ["state", "order", "at"] [x0, x1, x2]) := bindsA
noncomputable def dFrame___init__ : Def := ⟨789, (clsAt 91 0), "Frame.__init__", .none, "ringgate.cells", 1242, 788, none⟩
theorem dFrame___init___ok : DefOK dFrame___init__ := {}
theorem dFrame___init___as (c : Cx) (x0 x1 x2 x3 : AV) : BindsAs c dFrame___init__ [x0, x1, x2, x3] (loZ ["self", "regs", "cells", "back"] [x0, x1, x2, x3]) := bindsA
noncomputable def dState___init__ : Def := ⟨836, (clsAt 92 0), "State.__init__", .none, "ringgate.cells", 1242, 835, none⟩
theorem dState___init___ok : DefOK dState___init__ := {}
theorem dState___init___as (c : Cx) (x0 x1 x2 x3 : AV) : BindsAs c dState___init__ [x0, x1, x2, x3] (loZ ["self", "frames", "next_number", "rooms"] [x0, x1, x2, x3]) := bindsA
noncomputable def dState_reg : Def := ⟨864, (clsAt 92 4), "State.reg", .none, "ringgate.cells", 1242, 863, none⟩
theorem dState_reg_ok : DefOK dState_reg := {}
theorem dState_reg_as (c : Cx) (x0 x1 : AV) : BindsAs c dState_reg [x0, x1] (loZ ["self", "n"] [x0, x1]) := bindsA
noncomputable def dState_put : Def := ⟨871, (clsAt 92 5), "State.put", .none, "ringgate.cells", 1242, 870, none⟩
theorem dState_put_ok : DefOK dState_put := {}
theorem dState_put_as (c : Cx) (x0 x1 x2 : AV) : BindsAs c dState_put [x0, x1, x2] (loZ ["self", "n", "reg"] [x0, x1, x2]) := bindsA
noncomputable def dState_fresh : Def := ⟨878, (clsAt 92 6), "State.fresh", .none, "ringgate.cells", 1242, 877, none⟩
theorem dState_fresh_ok : DefOK dState_fresh := {}
theorem dState_fresh_as (c : Cx) (x0 : AV) : BindsAs c dState_fresh [x0] (loZ ["self"] [x0]) := bindsA
noncomputable def dnew_frame : Def := ⟨909, (stmtAt 93), "new_frame", .none, "ringgate.cells", 1242, 908, none⟩
theorem dnew_frame_ok : DefOK dnew_frame := {}
theorem dnew_frame_as (c : Cx) (x0 x1 : AV) : BindsAs c dnew_frame [x0, x1] (loZ ["depth", "back"] [x0, x1]) := bindsA
noncomputable def dfirst_state : Def := ⟨916, (stmtAt 94), "first_state", .none, "ringgate.cells", 1242, 915, none⟩
theorem dfirst_state_ok : DefOK dfirst_state := {}
theorem dfirst_state_as (c : Cx) : BindsAs c dfirst_state [] (loZ [] []) := bindsA
noncomputable def d_law_far : Def := ⟨924, (stmtAt 97), "_law_far", .none, "law_np0325_01", 1469, 923, none⟩
theorem d_law_far_ok : DefOK d_law_far := {}
theorem d_law_far_as (c : Cx) : BindsAs c d_law_far [] (loZ [] []) := bindsA
noncomputable def d_law_draw : Def := ⟨931, (stmtAt 98), "_law_draw", .none, "law_np0325_01", 1469, 930, none⟩
theorem d_law_draw_ok : DefOK d_law_draw := {}
theorem d_law_draw_as (c : Cx) (x0 x1 : AV) : BindsAs c d_law_draw [x0, x1] (loZ ["pen", "many"] [x0, x1]) := bindsA
noncomputable def d_law_whole : Def := ⟨938, (stmtAt 99), "_law_whole", .none, "law_np0325_01", 1469, 937, none⟩
theorem d_law_whole_ok : DefOK d_law_whole := {}
theorem d_law_whole_as (c : Cx) (x0 : AV) : BindsAs c d_law_whole [x0] (loZ ["pen"] [x0]) := bindsA
noncomputable def d_law_varied : Def := ⟨943, (stmtAt 100), "_law_varied", .none, "law_np0325_01", 1469, 942, none⟩
theorem d_law_varied_ok : DefOK d_law_varied := {}
theorem d_law_varied_b (v0 : Value) : bindArgs d_law_varied.fd ⟨[v0], []⟩ = pure [(S "pen", v0)] := by kernel_rfl
noncomputable def d_law_pointer : Def := ⟨950, (stmtAt 101), "_law_pointer", .none, "law_np0325_01", 1469, 949, none⟩
theorem d_law_pointer_ok : DefOK d_law_pointer := {}
theorem d_law_pointer_as (c : Cx) (x0 : AV) : BindsAs c d_law_pointer [x0] (loZ ["pen"] [x0]) := bindsA
noncomputable def d_law_due : Def := ⟨957, (stmtAt 102), "_law_due", .none, "law_np0325_01", 1469, 956, none⟩
theorem d_law_due_ok : DefOK d_law_due := {}
theorem d_law_due_as (c : Cx) (x0 x1 x2 x3 x4 x5 : AV) : BindsAs c d_law_due [x0, x1, x2, x3, x4, x5] (loZ ["tip", "members", "number", "others", "is_minus", "fresh"] [x0, x1, x2, x3, x4, x5]) := bindsA
noncomputable def d_law_added : Def := ⟨964, (stmtAt 103), "_law_added", .none, "law_np0325_01", 1469, 963, none⟩
theorem d_law_added_ok : DefOK d_law_added := {}
theorem d_law_added_as (c : Cx) (x0 x1 x2 x3 : AV) : BindsAs c d_law_added [x0, x1, x2, x3] (loZ ["tip", "number", "is_minus", "fresh"] [x0, x1, x2, x3]) := bindsA
noncomputable def d_law_is_sum : Def := ⟨971, (stmtAt 104), "_law_is_sum", .none, "law_np0325_01", 1469, 970, none⟩
theorem d_law_is_sum_ok : DefOK d_law_is_sum := {}
theorem d_law_is_sum_as (c : Cx) (x0 x1 x2 x3 x4 x5 : AV) : BindsAs c d_law_is_sum [x0, x1, x2, x3, x4, x5] (loZ ["found", "tip", "members", "others", "is_minus", "due"] [x0, x1, x2, x3, x4, x5]) := bindsA
noncomputable def d_law_state : Def := ⟨978, (stmtAt 105), "_law_state", .none, "law_np0325_01", 1469, 977, none⟩
theorem d_law_state_ok : DefOK d_law_state := {}
theorem d_law_state_as (c : Cx) (x0 x1 : AV) : BindsAs c d_law_state [x0, x1] (loZ ["one", "other"] [x0, x1]) := bindsA
noncomputable def d_law_done : Def := ⟨986, (stmtAt 106), "_law_done", (.ref 979), "law_np0325_01", 1469, 985, none⟩
theorem d_law_done_ok : DefOK d_law_done := {}
theorem d_law_done_as2 (c : Cx) (x0 x1 : AV) : BindsAs c d_law_done [x0, x1] (loZ ["state", "code"] [x0, x1] ++ [(S "off", (.int (0))), (S "imm", (.int (0)))]) := bindsD 979 (tupK [(.int (0) 1576), (.int (0) 1577)] 0) [(S "off", (.int (0) 1576)), (S "imm", (.int (0) 1577))] (fun _ _ => .cons (.int _ _) (.cons (.int _ _) (.nil)))
theorem d_law_done_as3 (c : Cx) (x0 x1 x2 : AV) : BindsAs c d_law_done [x0, x1, x2] (loZ ["state", "code", "off"] [x0, x1, x2] ++ [(S "imm", (.int (0)))]) := bindsD 979 (tupK [(.int (0) 1576), (.int (0) 1577)] 0) [(S "imm", (.int (0) 1577))] (fun _ _ => .cons (.int _ _) (.nil))
theorem d_law_done_as4 (c : Cx) (x0 x1 x2 x3 : AV) : BindsAs c d_law_done [x0, x1, x2, x3] (loZ ["state", "code", "off", "imm"] [x0, x1, x2, x3] ++ []) := bindsD 979 (tupK [(.int (0) 1576), (.int (0) 1577)] 0) [] (fun _ _ => .nil)
noncomputable def d_law_deeds_right : Def := ⟨991, (stmtAt 107), "_law_deeds_right", .none, "law_np0325_01", 1469, 990, none⟩
theorem d_law_deeds_right_ok : DefOK d_law_deeds_right := {}
theorem d_law_deeds_right_as (c : Cx) (x0 x1 x2 x3 : AV) : BindsAs c d_law_deeds_right [x0, x1, x2, x3] (loZ ["tip", "number", "other_tip", "imm"] [x0, x1, x2, x3]) := bindsA
theorem Imp.refl {α : Type} (τ : T α) : Imp τ τ := fun _ _ h => h
theorem Imp.leaf_ite {α : Type} {b : Bool} {x y z : α} (h : z = if b then x else y) : Imp (T.leaf z) (T.ite b (.leaf x) (.leaf y)) := fun K KX hz => by
 have hz : K z := hz
 refine ⟨fun hb => ?_, fun hb => ?_⟩
 ·rw [h, if_pos hb] at hz; exact hz
 ·rw [h, if_neg (by simp [hb])] at hz; exact hz
theorem no_stuck {α : Type} {w : String} : ∀ (K : α → Prop) (KX : AV → Mem → Prop), ¬ (T.stuck w).All K KX := fun _ _ h => h
section
variable {c : Cx} {n : Nat}
noncomputable def CellK (c : Cx) (d : Def) (B : Lo → Mem → T (AV × Mem)) (k : FSem) : Prop := ∀ args m, (∀ K KX, ¬ (k args m).All K KX) ∨ ∃ lo, BindsAs c d args lo ∧ scopeOK (fdScope d.st) lo = true ∧ Imp (k args m) (B lo m)
section
variable {d : Def} {B : Lo → Mem → T (AV × Mem)} {sh sm : Sh} {rest : FSem} {lo : sh.ty → Lo} {fs : List (FK × FSem)} {mu : List String} {fuel : Nat} {k : FSem}
theorem CellK.off : CellK c d B offS := fun _ _ => .inl no_stuck
theorem CellK.any {f g : sh.ty → Mem → T (AV × Mem)} (hb : ∀ t, BindsAs c d (sh.enc t) (lo t)) (hi : ∀ t m, Imp (f t m) (g t m)) (r : CellK c d B rest)
  (hc : ∀ t, scopeOK (fdScope d.st) (lo t) = true := by intro t; kernel_rfl) (he : ∀ t m, B (lo t) m = g t m := by intro t m; kernel_rfl) : CellK c d B (orSh sh f rest) := fun args m => by
 rcases orSh_s sh f rest args m with ⟨t, ha, e⟩ | e
 ·rw [e]; exact .inr ⟨lo t, ha ▸ hb t, hc t, he t m ▸ hi t m⟩
 ·rw [e]; exact r args m
theorem CellK.alt {f g : sh.ty → sm.ty → T (AV × Mem)} (hb : ∀ t, BindsAs c d (sh.enc t) (lo t)) (hi : ∀ t u, Imp (f t u) (g t u)) (r : CellK c d B rest)
  (hc : ∀ t, scopeOK (fdScope d.st) (lo t) = true := by intro t; kernel_rfl) (he : ∀ t u, B (lo t) [.lst (sm.enc u)] = g t u := by intro t u; kernel_rfl) : CellK c d B (orShM sh sm f rest) := fun args m => by
 rcases orShM_s sh sm f rest args m with ⟨t, u, ha, hm, e⟩ | e
 ·rw [e]; exact .inr ⟨lo t, ha ▸ hb t, hc t, hm ▸ he t u ▸ hi t u⟩
 ·rw [e]; exact r args m
theorem CellK.ok (h : CellK c d (bodyT (cfg fs mu) fuel d.st) k) (hd : DefOK d) (O : ObjInt c) (hfs : ∀ p ∈ fs, FnOK c n p.1.val p.2) : FnOK c (n + 1) (.ref d.f) k :=
 d.fn hd O fs mu hfs fuel k fun args m => (h args m).imp id fun ⟨lo, h2, h3, h4⟩ => ⟨lo, h2, h3, .inl h4⟩
end
theorem mem0 : ∀ p ∈ ([] : List (FK × FSem)), FnOK c n p.1.val p.2 := fun _ h => nomatch h
theorem size_le {k : Int} (h : 0 ≤ k ∧ k ≤ 1000) : 0 ≤ k ∧ k ≤ 1000 ∧ (1 : Int).natAbs < 2 ^ 1000 := ⟨h.1, h.2, by simp⟩
noncomputable abbrev baseB (d : Def) : Lo → Mem → T (AV × Mem) := bodyT (cfg [] []) 12 d.st
noncomputable def onesS : FSem := orSh (.int .nil) (fun t m => .req (0 ≤ t.1 ∧ t.1 ≤ 1000) (.leaf (.int (2 ^ t.1.toNat - 1), m))) offS
theorem ones_ok (O : ObjInt c) : FnOK c (n + 1) (.ref 68) onesS := CellK.ok (d := dones) (fs := []) (mu := []) (fuel := 12)
 (.any (fun t => dones_as c _) (g := fun t m => .req (0 ≤ t.1 ∧ t.1 ≤ 1000 ∧ (1 : Int).natAbs < 2 ^ 1000) (.leaf (.int (1 * 2 ^ t.1.toNat - 1), m))) (fun t m K KX h => ⟨size_le h.1, by rw [Int.one_mul]; exact h.2⟩) .off) dones_ok O mem0
noncomputable def wrapZ (s : Int) (a : Int) : Int := Builtin.bitAnd a (2 ^ s.toNat - 1)
noncomputable def sizeOK (s : Int) : Bool := decide (1 ≤ s) && decide (s ≤ 64)
noncomputable def szS (F : Int → Int → Int) : FSem := orSh (.int .nil) (fun t m => .leaf (.int (F 64 t.1), m)) <| orSh (.int (.int .nil)) (fun t m => condT (sizeOK t.2.1) "size" (.leaf (.int (F t.2.1 t.1), m))) offS
theorem size_req {s : Int} (h : sizeOK s = true) : (0 ≤ s ∧ s ≤ 1000 ∧ (1 : Int).natAbs < 2 ^ 1000) ∧ 0 ≤ s - 1 := by
 have h := Bool.and_eq_true_iff.mp h
 have h1 := of_decide_eq_true h.1
 exact ⟨size_le ⟨Int.le_trans (by decide) h1, Int.le_trans (of_decide_eq_true h.2) (by decide)⟩, Int.sub_nonneg_of_le h1⟩
theorem szK {d : Def} {F : Int → Int → Int} {G : Int → Int → Mem → T (AV × Mem)} (h1 : ∀ x, BindsAs c d [x] [(S "worth", x), (S "size", .int 64)]) (h2 : ∀ x y, BindsAs c d [x, y] [(S "worth", x), (S "size", y)])
  (hi : ∀ s a m, sizeOK s = true → Imp (.leaf (.int (F s a), m)) (G s a m)) (hc : ∀ a s, scopeOK (fdScope d.st) [(S "worth", .int a), (S "size", .int s)] = true := by intro a s; kernel_rfl)
  (he : ∀ a s m, baseB d [(S "worth", .int a), (S "size", .int s)] m = G s a m := by intro a s m; kernel_rfl) : CellK c d (baseB d) (szS F) :=
 .any (fun t => h1 _) (fun t m => hi 64 t.1 m (by decide)) (.any (fun t => h2 _ _) (fun t m K KX h => by
  obtain ⟨q, h⟩ := condT_all h
  exact hi _ _ m q K KX h) .off (fun t => hc _ _) fun t m => he t.1 t.2.1 m) (fun t => hc _ _) fun t m => he t.1 64 m
noncomputable def wrapS : FSem := szS wrapZ
theorem wrap_ok (O : ObjInt c) : FnOK c (n + 1) (.ref 76) wrapS := CellK.ok (szK (dwrap_as1 c) (dwrap_as2 c)
 (G := fun s a m => .req (0 ≤ s ∧ s ≤ 1000 ∧ (1 : Int).natAbs < 2 ^ 1000) (.leaf (.int (Builtin.bitAnd a (1 * 2 ^ s.toNat - 1)), m))) fun s a m q K KX h => ⟨(size_req q).1, by rw [Int.one_mul]; exact h⟩) dwrap_ok O mem0
noncomputable def sgnZ (s : Int) (a : Int) : Int := if (wrapZ s a).fdiv (2 ^ (s - 1).toNat) != 0 then wrapZ s a - 2 ^ s.toNat else wrapZ s a
noncomputable def signedS : FSem := szS sgnZ
theorem signed_ok (O : ObjInt c) : FnOK c (n + 1) (.ref 84) signedS := CellK.ok (szK (dsigned_as1 c) (dsigned_as2 c)
 (G := fun s a m => .req (0 ≤ s ∧ s ≤ 1000 ∧ (1 : Int).natAbs < 2 ^ 1000) (.req (0 ≤ s - 1) (.ite ((Builtin.bitAnd a (1 * 2 ^ s.toNat - 1)).fdiv (2 ^ (s - 1).toNat) != 0) (.req (0 ≤ s ∧ s ≤ 1000 ∧ (1 : Int).natAbs < 2 ^ 1000) (.leaf (.int (Builtin.bitAnd a (1 * 2 ^ s.toNat - 1) - 1 * 2 ^ s.toNat), m))) (.leaf (.int (Builtin.bitAnd a (1 * 2 ^ s.toNat - 1)), m)))))
 fun s a m q K KX h => by
  obtain ⟨q1, q2⟩ := size_req q
  have h : K (AV.int (sgnZ s a), m) := h
  unfold sgnZ wrapZ at h
  rw [Int.one_mul]
  refine ⟨q1, q2, fun hb => ⟨q1, ?_⟩, fun hb => ?_⟩
  ·rw [if_pos hb] at h; exact h
  ·rw [if_neg (by rw [hb]; decide)] at h; exact h) dsigned_ok O mem0
end
end
section
open PySem PySem.W PyProof.Rows PySem.Calls
set_option backward.match.sparseCases false
section
variable {c : Cx} {n : Nat}
noncomputable def bcW : Nat → Int → Int → Int
 | 0, _, cnt => cnt
 | k + 1, w, cnt => if 0 < w then (if 255 < w then bcW k (w.fdiv (2 ^ (8 : Int).toNat)) (cnt + 8) else bcW k (w.fdiv (2 ^ (1 : Int).toNat)) (cnt + 1)) else cnt
noncomputable def stN (d : Def) (i : Nat) : Stmt := ((fdBody d.st)[i]?).getD (.Pass ⟨0, 0, 0, 0⟩)
noncomputable def whT : Stmt → Expr
 | .While t _ _ _ => t
 | _ => .Name Str.empty ⟨0, 0, 0, 0⟩
noncomputable def whB : Stmt → List Stmt
 | .While _ b _ _ => b
 | _ => []
noncomputable def cfgB (q : Nat) : Cfg := { cfg [] [] with scope := fdScope dbit_count.st, wf := q }
theorem bc_turn (q : Nat) (w cnt : Int) (r : Lo) (hr : r = [] ∨ ∃ z, r = [(S "step", .int z)]) (m : Mem) : (run 11 (cfgB q)).tr (whT (stN dbit_count 1)) ((S "worth", .int w) :: (S "count", .int cnt) :: r) m = .leaf (decide (0 < w), m) ∧
  (run 11 (cfgB q)).exs (whB (stN dbit_count 1)) ((S "worth", .int w) :: (S "count", .int cnt) :: r) m =
   .ite (decide (255 < w)) (.req ((0 : Int) ≤ 8) (.leaf ((.next, [(S "worth", .int (w.fdiv (2 ^ (8 : Int).toNat))), (S "count", .int (cnt + 8)), (S "step", .int 8)]), m)))
    (.req ((0 : Int) ≤ 1) (.leaf ((.next, [(S "worth", .int (w.fdiv (2 ^ (1 : Int).toNat))), (S "count", .int (cnt + 1)), (S "step", .int 1)]), m))) := by
 rcases hr with rfl | ⟨z, rfl⟩
 ·exact ⟨by kernel_rfl, by kernel_rfl⟩
 ·exact ⟨by kernel_rfl, by kernel_rfl⟩
theorem bc_loop (q : Nat) (m : Mem) : ∀ (k : Nat) (w cnt : Int) (r : Lo), (r = [] ∨ ∃ z, r = [(S "step", .int z)]) → w < 2 ^ k → ∀ (K : (Fl × Lo) × Mem → Prop) (KX : AV → Mem → Prop),
  (∀ r', K ((.next, (S "worth", .int 0) :: (S "count", .int (bcW k w cnt)) :: r'), m)) → 0 ≤ w →
  (whileL (run 11 (cfgB q)) (whT (stN dbit_count 1)) (whB (stN dbit_count 1)) (k + 1) ((S "worth", .int w) :: (S "count", .int cnt) :: r) m).All K KX := by
 intro k
 induction k with
 | zero =>
  intro w cnt r hr hw K KX hK h0
  obtain ⟨t1, t2⟩ := bc_turn q w cnt r hr m
  unfold whileL
  rw [t1]
  have : w = 0 := by lia
  subst this
  exact ⟨fun h => by simp at h, fun _ => hK r⟩
 | succ k ih =>
  intro w cnt r hr hw K KX hK h0
  obtain ⟨t1, t2⟩ := bc_turn q w cnt r hr m
  unfold whileL
  rw [t1]
  refine ⟨fun h => ?_, fun h => ?_⟩
  ·have hp : 0 < w := by simpa using h
   refine T.all_bind.mpr ?_
   rw [t2]
   have hb : bcW (k + 1) w cnt = if 255 < w then bcW k (w.fdiv (2 ^ (8 : Int).toNat)) (cnt + 8) else bcW k (w.fdiv (2 ^ (1 : Int).toNat)) (cnt + 1) := by
    show (if 0 < w then _ else _) = _
    rw [if_pos hp]
   have e8 : w.fdiv (2 ^ (8 : Int).toNat) = w / 256 := by rw [Int.fdiv_eq_ediv_of_nonneg _ (by decide)]; rfl
   have e1 : w.fdiv (2 ^ (1 : Int).toNat) = w / 2 := by rw [Int.fdiv_eq_ediv_of_nonneg _ (by decide)]; rfl
   have hpow : (2 : Int) ^ (k + 1) = 2 * 2 ^ k := by rw [Int.pow_succ, Int.mul_comm]
   have hpos : (0 : Int) < 2 ^ k := Int.pow_pos (by decide)
   refine ⟨fun h8 => ⟨by decide, ?_⟩, fun h8 => ⟨by decide, ?_⟩⟩
   ·have h8 : 255 < w := by simpa using h8
    rw [hb, if_pos h8] at hK
    refine ih _ _ _ (.inr ⟨8, rfl⟩) (by rw [e8]; lia) K KX hK (by rw [e8]; lia)
   ·have h8 : ¬ 255 < w := by simpa using h8
    rw [hb, if_neg h8] at hK
    refine ih _ _ _ (.inr ⟨1, rfl⟩) (by rw [e1]; lia) K KX hK (by rw [e1]; lia)
  ·have hz : ¬ 0 < w := by simpa using h
   have hz : w = 0 := by lia
   subst hz
   have hb : bcW (k + 1) 0 cnt = cnt := rfl
   rw [hb] at hK
   exact hK r
noncomputable def bitS : FSem := orSh (.int .nil) (fun (a, _) m => .req (0 ≤ a ∧ a < 2 ^ 64) (.leaf (.int (bcW 69 a 0), m))) offS
theorem quiet_intro {α : Type} {K : α → Prop} {KX : AV → Mem → Prop} : ∀ {t : T α}, t.All K (fun _ _ => False) → t.quiet.All K KX
 | .leaf _, h => h
 | .exc _ _, h => h.elim
 | .ite _ _ _, h => ⟨fun c => quiet_intro (h.1 c), fun c => quiet_intro (h.2 c)⟩
 | .req _ _, h => ⟨h.1, quiet_intro h.2⟩
 | .stuck _, h => h.elim
theorem bc_body (q : Nat) (a : Int) (m : Mem) : bodyT { cfg [] [] with wf := q } 12 dbit_count.st [(S "worth", .int a)] m =
  ((((whileL (run 11 (cfgB q)) (whT (stN dbit_count 1)) (whB (stN dbit_count 1)) q [(S "worth", .int a), (S "count", .int 0)] m).quiet).bind fun x => match x.1.1 with
   | .next => exsT (cfgB q) (run 11 (cfgB q)) [stN dbit_count 2] x.1.2 x.2
   | f => .leaf ((f, x.1.2), x.2)).quiet).bind retT := by kernel_rfl
theorem bc_ret (q : Nat) (r' : Lo) (v : Int) (m : Mem) : exsT (cfgB q) (run 11 (cfgB q)) [stN dbit_count 2] ((S "worth", .int 0) :: (S "count", .int v) :: r') m = .leaf ((.ret (.int v), (S "worth", .int 0) :: (S "count", .int v) :: r'), m) := by kernel_rfl
theorem bit_ok (O : ObjInt c) : FnOK c (n + 1) (.ref 91) bitS := CellK.ok (d := dbit_count) (fs := []) (mu := []) (fuel := 12) (.any (fun t => dbit_count_as c _) (fun t m K KX h => by
  refine T.all_bind.mpr (quiet_intro (T.all_bind.mpr (quiet_intro (bc_loop 70 m 69 t.1 0 [] (.inl rfl) (by have := h.1.2; lia) _ _ (fun r' => ?_) h.1.1))))
  show T.All (exsT (cfgB 70) (run 11 (cfgB 70)) [stN dbit_count 2] _ m) _ _
  rw [bc_ret]
  exact h.2) .off (he := fun t m => bc_body 70 t.1 m)) dbit_count_ok O mem0
end
end
section
open PySem PySem.W PyProof.Rows PySem.Calls
noncomputable def renLo (f : Nat → Nat) : Lo → Lo
 | [] => []
 | (k, v) :: r => (k, renAV f v) :: renLo f r
noncomputable def renMO (f : Nat → Nat) : MO → MO
 | .lst xs => .lst (renAVs f xs)
 | .inst C fs => .inst C (renLo f fs)
 | .junk => .junk
theorem renLo_1 (f : Nat → Nat) : ∀ l : Lo, (renLo f l).map (·.1) = l.map (·.1)
 | [] => rfl
 | (k, v) :: r => by show k :: _ = k :: _; rw [renLo_1 f r]
theorem renLo_2 (f : Nat → Nat) : ∀ l : Lo, (renLo f l).map (·.2) = renAVs f (l.map (·.2))
 | [] => rfl
 | (k, v) :: r => by show renAV f v :: _ = renAV f v :: _; rw [renLo_2 f r]
section
variable {P : Params} {g g' : Gh} {f : Nat → Nat} {k : Nat}
theorem Rep.narrow (hF : ∀ a o, g.F a = some o → g'.F a = some o) (ht : ∀ (j : Nat) (l : List Addr), j < k → g.th[f j]? = some l → g'.th[j]? = some l) {x : AV} {v : Value} (h : closedAV k x = true) (r : Rep P g (renAV f x) v) : Rep P g' x v :=
 renAV_id x ▸ (RMap.gen (p := f) (q := fun j => j) hF (fun j l b => ht j l (blt_of b)) x h).ap v r
theorem Reps.narrow (hF : ∀ a o, g.F a = some o → g'.F a = some o) (ht : ∀ (j : Nat) (l : List Addr), j < k → g.th[f j]? = some l → g'.th[j]? = some l) {x : List AV} {v : List Value} (h : closedAVs k x = true) (r : Reps P g (renAVs f x) v) : Reps P g' x v :=
 renAVs_id x ▸ (RMap.gens (p := f) (q := fun j => j) hF (fun j l b => ht j l (blt_of b)) x h).r v r
theorem Ents.narrow (hF : ∀ a o, g.F a = some o → g'.F a = some o) (ht : ∀ (j : Nat) (l : List Addr), j < k → g.th[f j]? = some l → g'.th[j]? = some l) {fs : List Str} {x : List AV} {v : List DictEntry} (h : closedAVs k x = true) (r : Ents P g fs v (renAVs f x)) : Ents P g' fs v x :=
 renAVs_id x ▸ (RMap.gens (p := f) (q := fun j => j) hF (fun j l b => ht j l (blt_of b)) x h).e fs v r
theorem Rep.widen (hF : ∀ a o, g.F a = some o → g'.F a = some o) (ht : ∀ (j : Nat) (l : List Addr), g.th[j]? = some l → g'.th[f j]? = some l) {x : AV} {v : Value} (r : Rep P g x v) : Rep P g' (renAV f x) v :=
 (RMap.gen (p := fun j => j) (q := f) hF (fun j l _ => ht j l) x (closedP_true x)).ap v ((renAV_id x).symm ▸ r)
theorem Reps.widen (hF : ∀ a o, g.F a = some o → g'.F a = some o) (ht : ∀ (j : Nat) (l : List Addr), g.th[j]? = some l → g'.th[f j]? = some l) {x : List AV} {v : List Value} (r : Reps P g x v) : Reps P g' (renAVs f x) v :=
 (RMap.gens (p := fun j => j) (q := f) hF (fun j l _ => ht j l) x (closedPs_true x)).r v ((renAVs_id x).symm ▸ r)
theorem Ents.widen (hF : ∀ a o, g.F a = some o → g'.F a = some o) (ht : ∀ (j : Nat) (l : List Addr), g.th[j]? = some l → g'.th[f j]? = some l) {fs : List Str} {x : List AV} {v : List DictEntry} (r : Ents P g fs v x) : Ents P g' fs v (renAVs f x) :=
 (RMap.gens (p := fun j => j) (q := f) hF (fun j l _ => ht j l) x (closedPs_true x)).e fs v ((renAVs_id x).symm ▸ r)
theorem CellOK.widen {h : Heap} {l : List Addr} {mo : MO} (hF : ∀ a o, g.F a = some o → g'.F a = some o) (ht : ∀ (j : Nat) (l : List Addr), g.th[j]? = some l → g'.th[f j]? = some l) (x : CellOK P g h l mo) : CellOK P g' h l (renMO f mo) := by
 cases mo with
 | lst xs => obtain ⟨a, vs, e, h1, h2⟩ := x; exact ⟨a, vs, e, h1, h2.widen hF ht⟩
 | inst C fs =>
  obtain ⟨a, d, es, n, e, h1, h2, h3⟩ := x
  refine ⟨a, d, es, n, e, h1, h2, ?_⟩
  rw [renLo_1, renLo_2]
  exact h3.widen hF ht
 | junk => trivial
theorem CellOK.narrow {h : Heap} {l : List Addr} {mo : MO} (hF : ∀ a o, g.F a = some o → g'.F a = some o) (ht : ∀ (j : Nat) (l : List Addr), j < k → g.th[f j]? = some l → g'.th[j]? = some l) (hc : closedMO k mo = true) (x : CellOK P g h l (renMO f mo)) : CellOK P g' h l mo := by
 cases mo with
 | lst xs => obtain ⟨a, vs, e, h1, h2⟩ := x; exact ⟨a, vs, e, h1, h2.narrow hF ht hc⟩
 | inst C fs =>
  obtain ⟨a, d, es, n, e, h1, h2, h3⟩ := x
  rw [renLo_1, renLo_2] at h3
  exact ⟨a, d, es, n, e, h1, h2, h3.narrow hF ht hc⟩
 | junk => trivial
end
noncomputable def upN (is : List Nat) (n : Nat) (j : Nat) : Nat := match is[j]? with
 | some i => i
 | none => n + (j - is.length)
noncomputable def putBack (f : Nat → Nat) : List Nat → Mem → Mem → Mem
 | i :: is, mo :: m2, m => putBack f is m2 (m.set i (renMO f mo))
 | _, _, m => m
noncomputable def unfocus (is : List Nat) (m : Mem) (x : AV × Mem) : AV × Mem :=
 (renAV (upN is m.length) x.1, match x.2.drop is.length with
  | [] => putBack (upN is m.length) is x.2 m
  | r => putBack (upN is m.length) is x.2 m ++ r.map (renMO (upN is m.length)))
noncomputable def T.ren (h : AV × Mem → AV × Mem) : T (AV × Mem) → T (AV × Mem)
 | .leaf a => .leaf (h a)
 | .exc x m => .exc (h (x, m)).1 (h (x, m)).2
 | .ite c t e => .ite c (t.ren h) (e.ren h)
 | .req p t => .req p (t.ren h)
 | .stuck w => .stuck w
theorem T.ren_all {h : AV × Mem → AV × Mem} {K : AV × Mem → Prop} {KX : AV → Mem → Prop} : ∀ {t : T (AV × Mem)}, (t.ren h).All K KX → t.All (fun a => K (h a)) (fun x m => KX (h (x, m)).1 (h (x, m)).2)
 | .leaf _, q => q
 | .exc _ _, q => q
 | .ite _ _ _, q => ⟨fun c => T.ren_all (q.1 c), fun c => T.ren_all (q.2 c)⟩
 | .req _ _, q => ⟨q.1, T.ren_all q.2⟩
 | .stuck _, q => q.elim
noncomputable def Gh.sub (g : Gh) (is : List Nat) : Gh := ⟨g.F, is.map fun i => (g.th[i]?).getD []⟩
theorem sub_get {g : Gh} {is : List Nat} (hv : ∀ i ∈ is, i < g.th.length) {j : Nat} {l : List Addr} : (g.sub is).th[j]? = some l ↔ ∃ i, is[j]? = some i ∧ g.th[i]? = some l := by
 show (is.map _)[j]? = some l ↔ _
 rw [List.getElem?_map]
 constructor
 ·intro h
  obtain ⟨i, hi, e⟩ := Option.map_eq_some_iff.mp h
  have hlt := hv i (List.mem_of_getElem? hi)
  rw [List.getElem?_eq_getElem hlt] at e
  exact ⟨i, hi, by rw [List.getElem?_eq_getElem hlt]; simpa using e⟩
 ·rintro ⟨i, hi, e⟩
  rw [hi]; simp [e]
theorem sub_mem {g : Gh} {is : List Nat} (hv : ∀ i ∈ is, i < g.th.length) {a : Addr} (h : a ∈ (g.sub is).th.flatten) : ∃ i l, i ∈ is ∧ g.th[i]? = some l ∧ a ∈ l := by
 obtain ⟨l, h1, h2⟩ := List.mem_flatten.mp h
 obtain ⟨j, hj⟩ := List.getElem?_of_mem h1
 obtain ⟨i, hi, e⟩ := (sub_get hv).mp hj
 exact ⟨i, l, List.mem_of_getElem? hi, e, h2⟩
theorem nodup_of_mem {ls : List (List Addr)} (nd : ls.flatten.Nodup) {l : List Addr} (h : l ∈ ls) : l.Nodup := by
 induction ls with
 | nil => cases h
 | cons x r ih =>
  rw [List.flatten_cons, List.nodup_append] at nd
  rcases List.mem_cons.mp h with rfl | h
  ·exact nd.1
  ·exact ih nd.2.1 h
theorem sub_nodup {ls : List (List Addr)} (nd : ls.flatten.Nodup) : ∀ (is : List Nat), is.Nodup → (∀ i ∈ is, i < ls.length) → (is.map fun i => (ls[i]?).getD []).flatten.Nodup
 | [], _, _ => List.nodup_nil
 | i :: is, hn, hv => by
  rw [List.nodup_cons] at hn
  have hi := hv i (.head _)
  rw [List.map_cons, List.flatten_cons, List.nodup_append]
  refine ⟨?_, sub_nodup nd is hn.2 fun j hj => hv j (.tail _ hj), fun a ha b hb => ?_⟩
  ·rw [List.getElem?_eq_getElem hi]
   exact nodup_of_mem nd (List.getElem_mem hi)
  ·rintro rfl
   obtain ⟨l, h1, h2⟩ := List.mem_flatten.mp hb
   obtain ⟨j, hj, rfl⟩ := List.mem_map.mp h1
   have hj' := hv j (.tail _ hj)
   rw [List.getElem?_eq_getElem hi] at ha
   rw [List.getElem?_eq_getElem hj'] at h2
   have := nodup_ix nd (List.getElem?_eq_getElem hi) (List.getElem?_eq_getElem hj') ha h2
   exact hn.1 (this ▸ hj)
theorem putBack_len (f : Nat → Nat) : ∀ (is : List Nat) (m2 m : Mem), (putBack f is m2 m).length = m.length
 | [], _, _ => rfl
 | _ :: _, [], _ => rfl
 | i :: is, mo :: m2, m => by
  show (putBack f is m2 (m.set i _)).length = _
  rw [putBack_len f is m2, List.length_set]
theorem putBack_get (f : Nat → Nat) : ∀ (is : List Nat) (m2 m : Mem), is.Nodup → ∀ (i : Nat) (mo : MO), (putBack f is m2 m)[i]? = some mo →
  (i ∉ is.take m2.length ∧ m[i]? = some mo) ∨ (∃ (j : Nat) (mo' : MO), is[j]? = some i ∧ m2[j]? = some mo' ∧ mo = renMO f mo')
 | [], _, _, _, i, mo, h => .inl ⟨by simp, h⟩
 | _ :: _, [], _, _, i, mo, h => .inl ⟨by simp, h⟩
 | k :: is, q :: m2, m, nd, i, mo, h => by
  rw [List.nodup_cons] at nd
  rcases putBack_get f is m2 (m.set k (renMO f q)) nd.2 i mo h with ⟨h1, h2⟩ | ⟨j, mo', h1, h2, h3⟩
  ·by_cases e : i = k
   ·subst e
    have hlt : i < m.length := by
     have := (List.getElem?_eq_some_iff.mp h2).1
     rwa [List.length_set] at this
    rw [List.getElem?_set_self hlt] at h2
    cases h2
    exact .inr ⟨0, q, rfl, rfl, rfl⟩
   ·rw [List.getElem?_set_ne (Ne.symm e)] at h2
    refine .inl ⟨?_, h2⟩
    rw [List.length_cons, List.take_succ_cons]
    simp [e, h1]
  ·exact .inr ⟨j + 1, mo', h1, h2, h3⟩
section
variable {c : Cx} {n : Nat} {A : Around} {s : Shared} {g : Gh} {m : Mem}
theorem focus_inv (I : Inv c A g s m) {is : List Nat} {m2 : Mem} (nd : is.Nodup) (hv : ∀ i ∈ is, i < m.length) (hl : m2.length = is.length)
  (hm : ∀ (j : Nat) (mo : MO) (i : Nat), m2[j]? = some mo → is[j]? = some i → m[i]? = some (renMO (upN is m.length) mo) ∧ closedMO is.length mo = true) : Inv c A (g.sub is) s m2 := by
 have hv' : ∀ i ∈ is, i < g.th.length := fun i hi => I.len ▸ hv i hi
 have nar : ∀ (j : Nat) (l : List Addr), j < is.length → g.th[upN is m.length j]? = some l → (g.sub is).th[j]? = some l := fun j l hj h => by
  refine (sub_get hv').mpr ⟨is[j], List.getElem?_eq_getElem hj, ?_⟩
  unfold upN at h
  rw [List.getElem?_eq_getElem hj] at h
  exact h
 exact {
  frz := I.frz
  base := I.base
  len := by show m2.length = (is.map _).length; rw [List.length_map, hl]
  cell := fun j mo l e1 e2 => by
   obtain ⟨i, hi, e⟩ := (sub_get hv').mp e2
   obtain ⟨h1, h2⟩ := hm j mo i e1 hi
   exact CellOK.narrow (g := g) (g' := g.sub is) (f := upN is m.length) (fun _ _ h => h) nar h2 (I.cell i _ l h1 e)
  nd := by
   exact sub_nodup I.nd is nd hv'
  free := fun a ha => by
   obtain ⟨i, l, _, h1, h2⟩ := sub_mem hv' ha
   exact I.free a (flat_ix h1 h2)
  stk := by
   obtain ⟨l, h1, h2⟩ := I.stk
   refine ⟨l, h1, fun env he => ?_⟩
   obtain ⟨a, F, o', es, n', f1, f2, f3, f4, f5⟩ := h2 env he
   refine ⟨a, F, o', es, n', f1, f2, f3, f4, fun q => ?_⟩
   obtain ⟨i, l, _, h1, h2⟩ := sub_mem hv' q
   exact f5 (flat_ix h1 h2) }
theorem focus (I : Inv c A g s m) {is : List Nat} {m2 : Mem} (nd : is.Nodup) (hv : ∀ i ∈ is, i < m.length) (hl : m2.length = is.length)
  {t : Sem Value} {τ : T (AV × Mem)} (h : Tri c A noX s (g.sub is) t (RepR c) τ) (hlen : ∀ K KX, τ.All K KX → τ.All (fun a => K a ∧ is.length ≤ a.2.length) (fun x m' => KX x m' ∧ is.length ≤ m'.length)) :
  Tri c A noX s g t (RepR c) (τ.ren (unfocus is m)) := by
 have hv' : ∀ i ∈ is, i < g.th.length := fun i hi => I.len ▸ hv i hi
 intro Q E K KX hA hQ hE
 have back : ∀ {s' : Shared} {g2 : Gh} {mm : Mem}, Ext A (Liv s.heap) noX (g.sub is) s g2 s' → Inv c A g2 s' mm → is.length ≤ mm.length →
   Ext A (Liv s.heap) noX g s ⟨g2.F, g.th ++ g2.th.drop is.length⟩ s' ∧ Inv c A ⟨g2.F, g.th ++ g2.th.drop is.length⟩ s' (unfocus is m (.none, mm)).2 ∧
   (∀ x v, Rep c.w.params g2 x v → Rep c.w.params ⟨g2.F, g.th ++ g2.th.drop is.length⟩ (renAV (upN is m.length) x) v) := by
  intro s' g2 mm e2 i2 hlm
  have hl2 : is.length ≤ g2.th.length := i2.len ▸ hlm
  have low : ∀ (j : Nat) (i : Nat) (l : List Addr), is[j]? = some i → g2.th[j]? = some l → g.th[i]? = some l := fun j i l hj hl => by
   have hi := hv' i (List.mem_of_getElem? hj)
   have := e2.gr.th j _ ((sub_get hv').mpr ⟨i, hj, List.getElem?_eq_getElem hi⟩)
   rw [hl] at this; cases this
   exact List.getElem?_eq_getElem hi
  have wid : ∀ (j : Nat) (l : List Addr), g2.th[j]? = some l → (g.th ++ g2.th.drop is.length)[upN is m.length j]? = some l := fun j l hl => by
   unfold upN
   cases hj : is[j]? with
   | some i =>
    dsimp only
    have hi := hv' i (List.mem_of_getElem? hj)
    rw [List.getElem?_append_left hi]
    exact low j i l hj hl
   | none =>
    dsimp only
    have hge : is.length ≤ j := List.getElem?_eq_none_iff.mp hj
    rw [I.len, List.getElem?_append_right (by omega), Nat.add_sub_cancel_left, List.getElem?_drop]
    rw [Nat.add_sub_cancel' hge]; exact hl
  have subt : ∀ a, a ∈ (g.sub is).th.flatten → a ∈ g.th.flatten := fun a ha => by
   obtain ⟨i, l, _, h1, h2⟩ := sub_mem hv' ha
   exact flat_ix h1 h2
  have memd : ∀ a, a ∈ (g2.th.drop is.length).flatten → a ∈ g2.th.flatten := fun a ha => by
   rw [← List.take_append_drop is.length g2.th, List.flatten_append]; exact List.mem_append_right _ ha
  have memdn : ∀ a, a ∈ (g2.th.drop is.length).flatten → ¬ Liv s.heap a := fun a ha q => by
   rcases e2.newT a (memd a ha) with h | h
   ·
    obtain ⟨i, l, hi, h1, h2⟩ := sub_mem hv' h
    obtain ⟨j, hj⟩ := List.getElem?_of_mem hi
    have t1 := e2.gr.th j l ((sub_get hv').mpr ⟨i, hj, h1⟩)
    have hjl : j < is.length := (List.getElem?_eq_some_iff.mp hj).1
    have nd2 := i2.nd
    rw [← List.take_append_drop is.length g2.th, List.flatten_append, List.nodup_append] at nd2
    refine nd2.2.2 a (List.mem_flatten.mpr ⟨l, List.mem_of_getElem? (i := j) ?_, h2⟩) a ha rfl
    rw [List.getElem?_take_of_lt hjl]; exact t1
   ·exact h q
  have memT : ∀ a, a ∈ (g.th ++ g2.th.drop is.length).flatten ↔ a ∈ g.th.flatten ∨ a ∈ (g2.th.drop is.length).flatten := fun a => by rw [List.flatten_append, List.mem_append]
  have G : Gr g ⟨g2.F, g.th ++ g2.th.drop is.length⟩ := ⟨e2.gr.F, fun k l e => by
   show (g.th ++ _)[k]? = some l
   rw [List.getElem?_append_left (List.getElem?_eq_some_iff.mp e).1]; exact e⟩
  have outside : ∀ a, a ∈ g.th.flatten → a ∉ (g.sub is).th.flatten → ∀ o, s.heap.get? a = some o → s'.heap.get? a = some o := fun a ha hn o ho => by
   obtain ⟨sl, h1, h2⟩ := e2.keep a o ⟨o, ho⟩ ho hn id
   rw [h2 (fun q => (I.fr_live q).2.2 ha)] at h1
   exact h1
  refine ⟨⟨e2.gens, e2.drawn, e2.os, G, e2.newF, fun a ha => ?_, fun a o b e nt nx => e2.keep a o b e (fun q => nt (subt a q)) nx, e2.live⟩, ?_, fun x v r => Rep.widen (g := g2) (g' := ⟨g2.F, g.th ++ g2.th.drop is.length⟩) (fun _ _ h => h) wid r⟩
  ·rcases (memT a).mp ha with h | h
   ·exact .inl h
   ·exact .inr (memdn a h)
  ·have hml : (unfocus is m (.none, mm)).2 = putBack (upN is m.length) is mm m ++ (mm.drop is.length).map (renMO (upN is m.length)) := by
    unfold unfocus
    dsimp only
    split
    ·rename_i q; rw [q]; simp
    ·rfl
   rw [hml]
   exact {
    frz := i2.frz
    base := fun a o e => i2.base a o e
    len := by
     show (putBack _ is mm m ++ _).length = (g.th ++ g2.th.drop is.length).length
     rw [List.length_append, List.length_append, putBack_len, List.length_map, List.length_drop, List.length_drop, I.len, i2.len]
    cell := fun k mo l e1 e2' => by
     have e2' : (g.th ++ g2.th.drop is.length)[k]? = some l := e2'
     by_cases hk : k < m.length
     ·rw [List.getElem?_append_left (by rw [putBack_len]; exact hk)] at e1
      rw [List.getElem?_append_left (I.len ▸ hk)] at e2'
      rcases putBack_get _ is mm m nd k mo e1 with ⟨h1, h2⟩ | ⟨j, mo', h1, h2, rfl⟩
      ·have hni : k ∉ is := by rwa [List.take_of_length_le hlm] at h1
       refine (I.cell k mo l h2 e2').mono G fun a ha o ho => outside a (flat_ix e2' ha) (fun q => ?_) o ho
       obtain ⟨i, l', hi, t1, t2⟩ := sub_mem hv' q
       exact hni (nodup_ix I.nd e2' t1 ha t2 ▸ hi)
      ·have hj : (g2.th)[j]? = some l := by
        have := e2.gr.th j l ((sub_get hv').mpr ⟨k, h1, e2'⟩)
        exact this
       exact CellOK.widen (g := g2) (g' := ⟨g2.F, g.th ++ g2.th.drop is.length⟩) (fun _ _ h => h) wid (i2.cell j mo' l h2 hj)
     ·have hge : m.length ≤ k := Nat.le_of_not_lt hk
      rw [List.getElem?_append_right (by rw [putBack_len]; exact hge), putBack_len, List.getElem?_map] at e1
      rw [List.getElem?_append_right (by rw [← I.len]; exact hge), ← I.len] at e2'
      obtain ⟨mo', h1, rfl⟩ := Option.map_eq_some_iff.mp e1
      rw [List.getElem?_drop] at h1 e2'
      exact CellOK.widen (g := g2) (g' := ⟨g2.F, g.th ++ g2.th.drop is.length⟩) (fun _ _ h => h) wid (i2.cell _ mo' l h1 e2')
    nd := by
     show (g.th ++ g2.th.drop is.length).flatten.Nodup
     rw [List.flatten_append, List.nodup_append]
     refine ⟨I.nd, ?_, fun a ha b hb => ?_⟩
     ·have nd2 := i2.nd
      rw [← List.take_append_drop is.length g2.th, List.flatten_append, List.nodup_append] at nd2
      exact nd2.2.1
     ·rintro rfl
      exact memdn _ hb (I.free _ ha).2
    free := fun a ha => by
     rcases (memT a).mp ha with h | h
     ·obtain ⟨f1, f2⟩ := I.free a h
      refine ⟨?_, e2.live a f2 f2⟩
      cases q : g2.F a with
      | none => rfl
      | some o => exact absurd f2 (e2.newF a f1 (by rw [q]; intro z; cases z))
     ·exact i2.free a (memd a h)
    stk := by
     obtain ⟨l, h1, h2⟩ := i2.stk
     refine ⟨l, h1, fun env he => ?_⟩
     obtain ⟨a, F, o', es, n', f1, f2, f3, f4, f5⟩ := h2 env he
     refine ⟨a, F, o', es, n', f1, f2, f3, f4, fun q => ?_⟩
     rcases (memT F).mp q with h | h
     ·exact (I.fr_live ⟨l, env, h1, he, f1⟩).2.2 h
     ·exact f5 (memd F h) }
 refine h _ _ _ _ (hlen _ _ (T.ren_all hA)) (fun v x s' g2 mm e2 i2 r2 k2 => ?_) (fun e x s' g2 mm e2 i2 f2 k2 => ?_)
 ·obtain ⟨b1, b2, b3⟩ := back e2 i2 k2.2
  exact hQ _ _ _ _ _ b1 b2 (b3 _ _ r2) k2.1
 ·obtain ⟨b1, b2, b3⟩ := back e2 i2 k2.2
  refine hE _ _ _ _ _ b1 b2 ?_ k2.1
  obtain ⟨ea, dx, oe, vs, z1, z, z12⟩ := f2
  have out : ∀ a, ¬ Liv s.heap a → a ∉ g2.th.flatten → a ∉ (g.th ++ g2.th.drop is.length).flatten := fun a h1 h2 q => by
   rw [List.flatten_append, List.mem_append] at q
   rcases q with q | q
   ·exact h1 (I.free a q).2
   ·refine h2 ?_
    rw [← List.take_append_drop is.length g2.th, List.flatten_append]; exact List.mem_append_right _ q
  obtain ⟨es, nn, v, z8, z9, z10⟩ := z.ent
  exact ⟨ea, dx, oe, vs, z1, ⟨z.nb, out ea z.nb z.nt, z.nf, z.get, z.cls, z.dict, ⟨es, nn, v, z8, z9, b3 _ _ z10⟩, z.data⟩, z12.imp id fun ⟨t, oT, ts, y⟩ => ⟨t, oT, ts, y.at_, y.nb, y.ne, out t y.nb y.nt, y.nf, y.get, y.data, y.fl⟩⟩
end
section
variable {c : Cx} {n : Nat}
theorem len_any {K : AV × Mem → Prop} {KX : AV → Mem → Prop} {τ : T (AV × Mem)} (h : τ.All K KX) : τ.All (fun a => K a ∧ ([] : List Nat).length ≤ a.2.length) (fun x m' => KX x m' ∧ ([] : List Nat).length ≤ m'.length) :=
 h.mono (fun _ h => ⟨h, Nat.zero_le _⟩) fun _ _ h => ⟨h, Nat.zero_le _⟩
theorem Def.fn0 (d : Def) (hd : DefOK d) (O : ObjInt c) (fs : List (FK × FSem)) (mu : List String) (hfs : ∀ p ∈ fs, FnOK c n p.1.val p.2) (fuel : Nat) (k : FSem)
  (hk : ∀ args m, (∀ K KX, ¬ (k args m).All K KX) ∨ ∃ lo, closedAVs 0 args = true ∧ BindsAs c d args lo ∧ scopeOK (fdScope d.st) lo = true ∧
   (Imp (k args m) (((bodyT (cfg fs mu) fuel d.st lo []).bind (truncT 0)).ren (unfocus [] m)) ∨ Imp (k args m) ((bodyT (cfg fs mu) fuel d.st lo []).ren (unfocus [] m)))) : FnOK c (n + 1) (.ref d.f) k where
 keep := keep_K c (hd.keep _)
 call := fun A s g m args vs hr I r => by
  rcases hk args m with h | ⟨lo, hc, hb, hs, hi⟩
  ·exact fun Q E K KX hA => (h K KX hA).elim
  ·have I0 : Inv c A (g.sub []) s [] := focus_inv I List.nodup_nil (fun _ h => nomatch h) rfl fun j mo i e _ => by cases e
   have r0 : Reps c.w.params (g.sub []) args vs := r.take hc
   obtain ⟨binds, b1, b2⟩ := hb s (g.sub []) vs I.K ⟨(gr0 I).F, fun k l h => by simp [g0] at h⟩ r0
   have body := (call_body (fuel := fuel) O (cfg_ok (mu := mu) hfs) (hd.at_ c.w.params) (hd.code _) b1 b2 hs hr I0).tri
   rcases hi with hi | hi
   ·exact (focus I List.nodup_nil (fun _ h => nomatch h) (m2 := []) rfl (body.trunc I0) fun _ _ => len_any).imp hi
   ·exact (focus I List.nodup_nil (fun _ h => nomatch h) (m2 := []) rfl body fun _ _ => len_any).imp hi
theorem Def.cls0 (d : Def) (hd : DefOK d) (D : Addr) (hD : known D = true) (hi : ∀ P, findIn (kFrag P) (.ref D) "__init__" = some (some (.ref d.f))) (hf : ∀ P, typeIn (kFrag P) (.ref d.f) = some (.type "function")) (hkp : ∀ P, keepIn (kFrag P) (.ref D) = true)
  (O : ObjInt c) (fs : List (FK × FSem)) (hfs : ∀ p ∈ fs, FnOK c n p.1.val p.2) (fuel : Nat) (mu : Bool) (k : FSem)
  (hk : ∀ args m, (∀ K KX, ¬ (k args m).All K KX) ∨ ∃ lo, closedAVs 0 args = true ∧ BindsAs c d (.hnd 0 :: args) lo ∧ scopeOK (fdScope d.st) lo = true ∧
   Imp (k args m) (((bodyT (cfg fs []) fuel d.st lo [.inst D []]).bind (if mu then madeM 0 else madeT D 0)).ren (unfocus [] m))) : FnOK c (n + 2) (.ref D) k where
 keep := keep_K c (hkp _)
 call := fun A s g m args vs hr I r => by
  rcases hk args m with h | ⟨lo, hc, hb, hs, him⟩
  ·exact fun Q E K KX hA => (h K KX hA).elim
  ·have I0 : Inv c A (g.sub []) s [] := focus_inv I List.nodup_nil (fun _ h => nomatch h) rfl fun j mo i e _ => by cases e
   have r0 : Reps c.w.params (g.sub []) args vs := r.take hc
   refine (focus I List.nodup_nil (fun _ h => nomatch h) (m2 := []) rfl (TriC.tri (make_ok (n := n + 1) hD (hi _) (hf _) hr I0 (fun A' s' g' a hr' I' gr th _ x dd ha => ?_) mu)) fun _ _ => len_any).imp him
   subst ha
   have rs : Reps c.w.params g' (.hnd 0 :: args) (.ref x :: vs) := .cons (.hnd th) (r0.mono gr)
   obtain ⟨binds, b1, b2⟩ := hb s' g' _ I'.K (gr0 I') rs
   exact call_body (fuel := fuel) O (cfg_ok (mu := []) hfs) (hd.at_ c.w.params) (hd.code _) b1 b2 hs hr' I'
noncomputable abbrev clsT (d : Def) (fs : List (FK × FSem)) (D : Addr) (lo : Lo) (m : Mem) : T (AV × Mem) := ((bodyT (cfg fs []) 14 d.st lo [.inst D []]).bind (madeT D 0)).ren (unfocus [] m)
noncomputable def ClsK (c : Cx) (d : Def) (D : Addr) (fs : List (FK × FSem)) (k : FSem) : Prop := ∀ args m, (∀ K KX, ¬ (k args m).All K KX) ∨ ∃ lo, closedAVs 0 args = true ∧ BindsAs c d (.hnd 0 :: args) lo ∧ scopeOK (fdScope d.st) lo = true ∧ Imp (k args m) (clsT d fs D lo m)
theorem ClsK.off {d : Def} {D : Addr} {fs : List (FK × FSem)} : ClsK c d D fs offS := fun _ _ => .inl no_stuck
theorem ClsK.alt {d : Def} {D : Addr} {fs : List (FK × FSem)} {sh : Sh} {f : sh.ty → Mem → T (AV × Mem)} {rest : FSem} {lo : sh.ty → Lo} {g : sh.ty → Mem → T (AV × Mem)} (hb : ∀ t, BindsAs c d (.hnd 0 :: sh.enc t) (lo t)) (hi : ∀ t m, Imp (f t m) (g t m)) (r : ClsK c d D fs rest)
  (hc : ∀ t, (closedAVs 0 (sh.enc t) && scopeOK (fdScope d.st) (lo t)) = true := by intro t; kernel_rfl) (he : ∀ t m, clsT d fs D (lo t) m = g t m := by intro t m; kernel_rfl) : ClsK c d D fs (orSh sh f rest) := fun args m => by
 rcases orSh_s sh f rest args m with ⟨t, ha, e⟩ | e
 ·have h := Bool.and_eq_true_iff.mp (hc t)
  rw [e]; exact .inr ⟨lo t, ha ▸ h.1, ha ▸ hb t, h.2, he t m ▸ hi t m⟩
 ·rw [e]; exact r args m
theorem ClsK.ok {d : Def} {D : Addr} {fs : List (FK × FSem)} {k : FSem} (h : ClsK c d D fs k) (hd : DefOK d) (O : ObjInt c) (hfs : ∀ p ∈ fs, FnOK c n p.1.val p.2) (hD : known D = true := by rfl)
  (hi : ∀ P, findIn (kFrag P) (.ref D) "__init__" = some (some (.ref d.f)) := by intro P; kernel_rfl) (hf : ∀ P, typeIn (kFrag P) (.ref d.f) = some (.type "function") := by intro P; kernel_rfl) (hkp : ∀ P, keepIn (kFrag P) (.ref D) = true := by intro P; kernel_rfl) : FnOK c (n + 2) (.ref D) k :=
 d.cls0 hd D hD hi hf hkp O fs hfs 14 false k h
noncomputable def tnumS : FSem := orSh (.int (.int .nil)) (fun t m => .leaf (.obj 211 [.int t.1, .int t.2.1], m)) offS
theorem tnum_ok (O : ObjInt c) : FnOK c (n + 2) (.ref 211) tnumS := ClsK.ok (fs := []) (.alt (fun t => dTnum___init___as c _ _ _) (fun _ _ => Imp.refl _) .off) dTnum___init___ok O (by simp)
end
noncomputable abbrev tn (v w : Int) : AV := .obj 211 [.int v, .int w]
section
variable {c : Cx} {n : Nat}
theorem mem1 {k : FK} {f : FSem} {l : List (FK × FSem)} (h : FnOK c n k.val f) (r : ∀ p ∈ l, FnOK c n p.1.val p.2) : ∀ p ∈ (k, f) :: l, FnOK c n p.1.val p.2 := fun p hp => by
 rcases List.mem_cons.mp hp with rfl | hp
 ·exact h
 ·exact r p hp
noncomputable abbrev bareT (d : Def) (fs : List (FK × FSem)) (fuel : Nat) (lo : Lo) (m : Mem) : T (AV × Mem) := ((bodyT (cfg fs []) fuel d.st lo []).bind (truncT 0)).ren (unfocus [] m)
theorem Imp.of_eq {α : Type} {τ σ : T α} (h : σ = τ) : Imp τ σ := h ▸ Imp.refl _
theorem Imp.req1 {α : Type} {p : Prop} {τ : T α} (h : p) : Imp τ (.req p τ) := fun _ _ q => ⟨h, q⟩
theorem Imp.trans {α : Type} {τ σ ρ : T α} (h : Imp τ σ) (i : Imp σ ρ) : Imp τ ρ := fun K KX q => i K KX (h K KX q)
noncomputable def PureK (c : Cx) (d : Def) (fs : List (FK × FSem)) (fuel : Nat) (k : FSem) : Prop := ∀ args m, (∀ K KX, ¬ (k args m).All K KX) ∨ ∃ lo, closedAVs 0 args = true ∧ BindsAs c d args lo ∧ scopeOK (fdScope d.st) lo = true ∧ Imp (k args m) (bareT d fs fuel lo m)
section
variable {d : Def} {fs : List (FK × FSem)} {fuel : Nat} {sh sm : Sh} {rest : FSem} {lo : sh.ty → Lo}
theorem PureK.off : PureK c d fs fuel offS := fun _ _ => .inl no_stuck
theorem PureK.alt {f g : sh.ty → Mem → T (AV × Mem)} (hb : ∀ t, BindsAs c d (sh.enc t) (lo t)) (hi : ∀ t m, Imp (f t m) (g t m)) (r : PureK c d fs fuel rest)
  (hc : ∀ t, (closedAVs 0 (sh.enc t) && scopeOK (fdScope d.st) (lo t)) = true := by intro t; kernel_rfl) (he : ∀ t m, bareT d fs fuel (lo t) m = g t m := by intro t m; kernel_rfl) : PureK c d fs fuel (orSh sh f rest) := fun args m => by
 rcases orSh_s sh f rest args m with ⟨t, ha, e⟩ | e
 ·have h := Bool.and_eq_true_iff.mp (hc t)
  rw [e]; exact .inr ⟨lo t, ha ▸ h.1, ha ▸ hb t, h.2, he t m ▸ hi t m⟩
 ·rw [e]; exact r args m
theorem PureK.ok {k : FSem} (h : PureK c d fs fuel k) (hd : DefOK d) (O : ObjInt c) (hfs : ∀ p ∈ fs, FnOK c n p.1.val p.2) : FnOK c (n + 1) (.ref d.f) k :=
 d.fn0 hd O fs [] hfs fuel k fun args m => (h args m).imp id fun ⟨lo, h1, h2, h3, h4⟩ => ⟨lo, h1, h2, h3, .inl h4⟩
theorem pureSh2 (d : Def) (hd : DefOK d) (O : ObjInt c) (fs : List (FK × FSem)) (hfs : ∀ p ∈ fs, FnOK c n p.1.val p.2) {f g : sh.ty → Mem → T (AV × Mem)} (hb : ∀ t, BindsAs c d (sh.enc t) (lo t)) (hi : ∀ t m, Imp (f t m) (g t m))
  (hc : ∀ t, (closedAVs 0 (sh.enc t) && scopeOK (fdScope d.st) (lo t)) = true := by intro t; kernel_rfl) (he : ∀ t m, bareT d fs 14 (lo t) m = g t m := by intro t m; kernel_rfl) : FnOK c (n + 1) (.ref d.f) (orSh sh f offS) :=
 PureK.ok (.alt hb hi .off hc he) hd O hfs
theorem pureSh (d : Def) (hd : DefOK d) (O : ObjInt c) (fs : List (FK × FSem)) (hfs : ∀ p ∈ fs, FnOK c n p.1.val p.2) {f : sh.ty → Mem → T (AV × Mem)} (hb : ∀ t, BindsAs c d (sh.enc t) (lo t))
  (hc : ∀ t, (closedAVs 0 (sh.enc t) && scopeOK (fdScope d.st) (lo t)) = true := by intro t; kernel_rfl) (he : ∀ t m, bareT d fs 14 (lo t) m = f t m := by intro t m; kernel_rfl) : FnOK c (n + 1) (.ref d.f) (orSh sh f offS) :=
 pureSh2 d hd O fs hfs hb (fun _ _ => Imp.refl _) hc he
theorem memSh (d : Def) (hd : DefOK d) (O : ObjInt c) (fs : List (FK × FSem)) (hfs : ∀ p ∈ fs, FnOK c n p.1.val p.2) (fuel : Nat) {f g : sh.ty → sm.ty → T (AV × Mem)} (hb : ∀ t, BindsAs c d (sh.enc t) (lo t)) (hi : ∀ t u, Imp (f t u) (g t u))
  (hc : ∀ t, scopeOK (fdScope d.st) (lo t) = true := by intro t; kernel_rfl) (he : ∀ t u, bodyT (cfg fs []) fuel d.st (lo t) [.lst (sm.enc u)] = g t u := by intro t u; kernel_rfl) : FnOK c (n + 1) (.ref d.f) (orShM sh sm f offS) :=
 CellK.ok (mu := []) (.alt hb hi .off hc he) hd O hfs
end
noncomputable def onesF : FK × FSem := (.ref 68, onesS)
noncomputable def wrapF : FK × FSem := (.ref 76, wrapS)
noncomputable def signedF : FK × FSem := (.ref 84, signedS)
noncomputable def bitF : FK × FSem := (.ref 91, bitS)
noncomputable def tnumF : FK × FSem := (.ref 211, tnumS)
noncomputable def tconstS : FSem := orSh (.int .nil) (fun t m => .leaf (tn (wrapZ 64 t.1) 0, m)) offS
theorem tconst_ok (O : ObjInt c) : FnOK c 3 (.ref 112) tconstS := pureSh dTnum_const dTnum_const_ok O [wrapF, tnumF] (mem1 ((wrap_ok (n := 0) O).le (by decide)) (mem1 ((tnum_ok (n := 0) O).le (by decide)) mem0)) fun t => dTnum_const_as c _
noncomputable def tunkS : FSem := orSh .nil (fun _ m => .leaf (tn 0 18446744073709551615, m)) offS
theorem tunk_ok (O : ObjInt c) : FnOK c 3 (.ref 122) tunkS := pureSh dTnum_unknown dTnum_unknown_ok O [tnumF] (mem1 (tnum_ok (n := 0) O) mem0) fun t => dTnum_unknown_as c
noncomputable def freeZ (l u : Int) : Int := 2 ^ (bcW 69 (Builtin.bitXor l u) 0).toNat - 1
theorem bcW_bd : ∀ (k : Nat) (w cnt : Int), cnt ≤ bcW k w cnt ∧ bcW k w cnt ≤ cnt + 8 * k
 | 0, w, cnt => ⟨Int.le_refl _, by show cnt ≤ _; simp_all⟩
 | k + 1, w, cnt => by
  unfold bcW
  split
  ·split
   ·have := bcW_bd k (w.fdiv (2 ^ (8 : Int).toNat)) (cnt + 8); omega
   ·have := bcW_bd k (w.fdiv (2 ^ (1 : Int).toNat)) (cnt + 1); omega
  ·lia
theorem bc_small (x : Int) : 0 ≤ bcW 69 x 0 ∧ bcW 69 x 0 ≤ 1000 := by
 have := bcW_bd 69 x 0
 lia
noncomputable def spanS : FSem := orSh (.int (.int .nil)) (fun t m => .req (0 ≤ Builtin.bitXor t.1 t.2.1 ∧ Builtin.bitXor t.1 t.2.1 < 2 ^ 64) (.leaf (tn (t.1 - Builtin.bitAnd t.1 (freeZ t.1 t.2.1)) (freeZ t.1 t.2.1), m))) offS
theorem span_ok (O : ObjInt c) : FnOK c 3 (.ref 132) spanS := pureSh2 dTnum_span dTnum_span_ok O [onesF, bitF, tnumF] (mem1 ((ones_ok (n := 0) O).le (by decide)) (mem1 ((bit_ok (n := 0) O).le (by decide)) (mem1 (tnum_ok (n := 0) O) mem0))) (fun t => dTnum_span_as c _ _)
 (g := fun t m => .req (0 ≤ Builtin.bitXor t.1 t.2.1 ∧ Builtin.bitXor t.1 t.2.1 < 2 ^ 64) (.req (0 ≤ bcW 69 (Builtin.bitXor t.1 t.2.1) 0 ∧ bcW 69 (Builtin.bitXor t.1 t.2.1) 0 ≤ 1000) (.leaf (tn (t.1 - Builtin.bitAnd t.1 (freeZ t.1 t.2.1)) (freeZ t.1 t.2.1), m)))) fun t m K KX h => ⟨h.1, bc_small _, h.2⟩
noncomputable def tcontS : FSem := orSh (.obj 211 (.int (.int .nil)) (.int .nil)) (fun t m => .leaf (.bool (t.2.1 - Builtin.bitAnd t.2.1 t.1.2.1 == t.1.1), m)) offS
theorem tcont_ok (O : ObjInt c) : FnOK c 1 (.ref 142) tcontS := pureSh dTnum_contains dTnum_contains_ok O [] mem0 fun t => dTnum_contains_as c _ _
end
noncomputable def without1 (v w : Int) : Int := wrapZ 64 v - Builtin.bitAnd (wrapZ 64 v) (wrapZ 64 w)
section
variable {c : Cx} {n : Nat}
noncomputable def tisS : FSem := orSh (shTn .nil) (fun t m => .leaf (.bool (t.1.2.1 == 0), m)) offS
theorem tis_ok (O : ObjInt c) : FnOK c 1 (.ref 149) tisS := pureSh dTnum_is_const dTnum_is_const_ok O [] mem0 fun t => dTnum_is_const_as c _
noncomputable def tleastS : FSem := orSh (shTn .nil) (fun t m => .leaf (.int t.1.1, m)) offS
theorem tleast_ok (O : ObjInt c) : FnOK c 1 (.ref 156) tleastS := pureSh dTnum_least dTnum_least_ok O [] mem0 fun t => dTnum_least_as c _
noncomputable def tmostS : FSem := orSh (shTn .nil) (fun t m => .leaf (.int (Builtin.bitOr t.1.1 t.1.2.1), m)) offS
theorem tmost_ok (O : ObjInt c) : FnOK c 1 (.ref 163) tmostS := pureSh dTnum_most dTnum_most_ok O [] mem0 fun t => dTnum_most_as c _
noncomputable def sleastZ (s v w : Int) : Int := sgnZ s (Builtin.bitOr v (Builtin.bitAnd w (2 ^ (s - 1).toNat)))
noncomputable def smostZ (s v w : Int) : Int := sgnZ s (Builtin.bitOr v (Builtin.bitAnd w (2 ^ (s - 1).toNat - 1)))
theorem size_req3 (k : Int) (h : (decide (0 ≤ k) && decide (k ≤ 1000)) = true) : (0 ≤ k ∧ k ≤ 1000 ∧ (1 : Int).natAbs < 2 ^ 1000) ∧ (0 ≤ k ∧ k ≤ 1000) := by
 simp only [Bool.and_eq_true, decide_eq_true_eq] at h
 exact ⟨⟨h.1, h.2, by simp⟩, h⟩
noncomputable def sz2 (F : Int → Int → Int → Int) : FSem := orSh (shTn .nil) (fun t m => .leaf (.int (F 64 t.1.1 t.1.2.1), m)) <| orSh (shTn (.lit 32 .nil)) (fun t m => .leaf (.int (F 32 t.1.1 t.1.2.1), m)) offS
noncomputable def tsleastS : FSem := sz2 sleastZ
theorem tsleast_ok (O : ObjInt c) : FnOK c 2 (.ref 171) tsleastS := PureK.ok (d := dTnum_signed_least) (fs := [signedF]) (fuel := 14)
 (.alt (fun t => dTnum_signed_least_as1 c _) (g := fun t m => .req ((0 : Int) ≤ 63 ∧ (63 : Int) ≤ 1000 ∧ (1 : Int).natAbs < 2 ^ 1000) (.leaf (.int (sleastZ 64 t.1.1 t.1.2.1), m))) (fun t m => .req1 (size_req3 63 rfl).1)
 (.alt (fun t => dTnum_signed_least_as2 c _ _) (g := fun t m => .req ((0 : Int) ≤ 31 ∧ (31 : Int) ≤ 1000 ∧ (1 : Int).natAbs < 2 ^ 1000) (.leaf (.int (sleastZ 32 t.1.1 t.1.2.1), m))) (fun t m => .req1 (size_req3 31 rfl).1) .off)) dTnum_signed_least_ok O (mem1 (signed_ok (n := 0) O) mem0)
noncomputable def tsmostS : FSem := sz2 smostZ
theorem tsmost_ok (O : ObjInt c) : FnOK c 2 (.ref 179) tsmostS := PureK.ok (d := dTnum_signed_most) (fs := [signedF, onesF]) (fuel := 14)
 (.alt (fun t => dTnum_signed_most_as1 c _) (g := fun t m => .req ((0 : Int) ≤ 63 ∧ (63 : Int) ≤ 1000) (.leaf (.int (smostZ 64 t.1.1 t.1.2.1), m))) (fun t m => .req1 (size_req3 63 rfl).2)
 (.alt (fun t => dTnum_signed_most_as2 c _ _) (g := fun t m => .req ((0 : Int) ≤ 31 ∧ (31 : Int) ≤ 1000) (.leaf (.int (smostZ 32 t.1.1 t.1.2.1), m))) (fun t m => .req1 (size_req3 31 rfl).2) .off)) dTnum_signed_most_ok O (mem1 (signed_ok (n := 0) O) (mem1 (ones_ok (n := 0) O) mem0))
noncomputable def ttoldS : FSem := orSh (shTn .nil) (fun t m => .leaf (.tup [.int t.1.1, .int t.1.2.1], m)) offS
theorem ttold_ok (O : ObjInt c) : FnOK c 1 (.ref 200) ttoldS := pureSh dTnum_told dTnum_told_ok O [] mem0 fun t => dTnum_told_as c _
noncomputable def withoutS : FSem := orSh (.int (.int .nil)) (fun t m => .leaf (tn (without1 t.1 t.2.1) (wrapZ 64 t.2.1), m)) offS
theorem without_ok (O : ObjInt c) : FnOK c 3 (.ref 222) withoutS := pureSh dwithout dwithout_ok O [wrapF, tnumF] (mem1 ((wrap_ok (n := 0) O).le (by decide)) (mem1 (tnum_ok (n := 0) O) mem0)) fun t => dwithout_as c _ _
noncomputable def withoutF : FK × FSem := (.ref 222, withoutS)
noncomputable def taddM (a b x y : Int) : Int := Builtin.bitOr (Builtin.bitOr (Builtin.bitXor (a + x) (a + x + b + y)) b) y
noncomputable def taddS : FSem := orSh (shTn (shTn .nil)) (fun t m => .leaf (tn (without1 (t.1.1 + t.2.1.1) (taddM t.1.1 t.1.2.1 t.2.1.1 t.2.1.2.1)) (wrapZ 64 (taddM t.1.1 t.1.2.1 t.2.1.1 t.2.1.2.1)), m)) offS
theorem tadd_ok (O : ObjInt c) : FnOK c 4 (.ref 229) taddS := pureSh dtnum_add dtnum_add_ok O [withoutF] (mem1 (without_ok O) mem0) fun t => dtnum_add_as c _ _
noncomputable def tsubM (a b x y : Int) : Int := Builtin.bitOr (Builtin.bitOr (Builtin.bitXor (a - x + b) (a - x - y)) b) y
noncomputable def tsubS : FSem := orSh (shTn (shTn .nil)) (fun t m => .leaf (tn (without1 (t.1.1 - t.2.1.1) (tsubM t.1.1 t.1.2.1 t.2.1.1 t.2.1.2.1)) (wrapZ 64 (tsubM t.1.1 t.1.2.1 t.2.1.1 t.2.1.2.1)), m)) offS
theorem tsub_ok (O : ObjInt c) : FnOK c 4 (.ref 236) tsubS := pureSh dtnum_sub dtnum_sub_ok O [withoutF] (mem1 (without_ok O) mem0) fun t => dtnum_sub_as c _ _
noncomputable def meetB (a b x y : Int) : Bool := Builtin.bitAnd (Builtin.bitXor a x) (Builtin.bitXor 18446744073709551615 (Builtin.bitOr b y)) != 0
noncomputable def tmeetS : FSem := orSh (shTn (shTn .nil)) (fun t m => .ite (meetB t.1.1 t.1.2.1 t.2.1.1 t.2.1.2.1) (.leaf (.none, m)) (.leaf (tn (without1 (Builtin.bitOr t.1.1 t.2.1.1) (Builtin.bitAnd t.1.2.1 t.2.1.2.1)) (wrapZ 64 (Builtin.bitAnd t.1.2.1 t.2.1.2.1)), m))) offS
theorem tmeet_ok (O : ObjInt c) : FnOK c 4 (.ref 243) tmeetS := pureSh dtnum_meet dtnum_meet_ok O [withoutF] (mem1 (without_ok O) mem0) fun t => dtnum_meet_as c _ _
noncomputable def tlowS : FSem := orSh (shTn .nil) (fun t m => .leaf (tn (Builtin.bitAnd t.1.1 4294967295) (Builtin.bitAnd t.1.2.1 4294967295), m)) offS
theorem tlow_ok (O : ObjInt c) : FnOK c 3 (.ref 250) tlowS := pureSh dtnum_low32 dtnum_low32_ok O [tnumF] (mem1 (tnum_ok (n := 0) O) mem0) fun t => dtnum_low32_as c _
noncomputable def twithS : FSem := orSh (shTn (shTn .nil)) (fun t m => .leaf (tn (t.1.1 - Builtin.bitAnd t.1.1 4294967295 + Builtin.bitAnd t.2.1.1 4294967295) (t.1.2.1 - Builtin.bitAnd t.1.2.1 4294967295 + Builtin.bitAnd t.2.1.2.1 4294967295), m)) offS
theorem twith_ok (O : ObjInt c) : FnOK c 3 (.ref 257) twithS := pureSh dtnum_with_low32 dtnum_with_low32_ok O [tnumF] (mem1 (tnum_ok (n := 0) O) mem0) fun t => dtnum_with_low32_as c _ _
end
noncomputable abbrev sc (t : AV) (a b d e f g h i : Int) : AV := .obj 366 [t, .int a, .int b, .int d, .int e, .int f, .int g, .int h, .int i]
noncomputable abbrev e8 (a b d e f g h i : Int) : List AV := [.int a, .int b, .int d, .int e, .int f, .int g, .int h, .int i]
structure En where
 a : Int
 b : Int
 d : Int
 e : Int
 f : Int
 g : Int
 h : Int
 i : Int
noncomputable def En.l (x : En) : List AV := e8 x.a x.b x.d x.e x.f x.g x.h x.i
noncomputable abbrev En.m (x : En) : Mem := [.lst x.l]
noncomputable def En.sc (v w : Int) (x : En) : AV := Mine.sc (tn v w) x.a x.b x.d x.e x.f x.g x.h x.i
noncomputable abbrev sI8 : Sh := shI8 .nil
noncomputable def toEn (t : sI8.ty) : En := ⟨t.1, t.2.1, t.2.2.1, t.2.2.2.1, t.2.2.2.2.1, t.2.2.2.2.2.1, t.2.2.2.2.2.2.1, t.2.2.2.2.2.2.2.1⟩
section
variable {c : Cx} {n : Nat}
noncomputable def scalarS : FSem := orSh (shTn sI8) (fun t m => .leaf ((toEn t.2).sc t.1.1 t.1.2.1, m)) offS
theorem scalar_ok (O : ObjInt c) : FnOK c 2 (.ref 366) scalarS := ClsK.ok (fs := []) (.alt (fun t => dScalar___init___as c _ _ _ _ _ _ _ _ _ _) (fun _ _ => Imp.refl _) .off) dScalar___init___ok O mem0
noncomputable def scalarF : FK × FSem := (.ref 366, scalarS)
noncomputable def tconstF : FK × FSem := (.ref 112, tconstS)
noncomputable def tunkF : FK × FSem := (.ref 122, tunkS)
noncomputable def spanF : FK × FSem := (.ref 132, spanS)
noncomputable def tcontF : FK × FSem := (.ref 142, tcontS)
noncomputable def ttoldF : FK × FSem := (.ref 200, ttoldS)
noncomputable def tupleF : FK × FSem := (.ty "tuple", tupleS)
noncomputable def listF : FK × FSem := (.ty "list", listS)
noncomputable def rangeF : FK × FSem := (.ty "range", rangeS)
noncomputable abbrev topSc : AV := sc (tn 0 18446744073709551615) 0 18446744073709551615 (-9223372036854775808) 9223372036854775807 0 4294967295 (-2147483648) 2147483647
noncomputable def sunkS : FSem := orSh .nil (fun _ m => .leaf (topSc, m)) offS
theorem sunk_ok (O : ObjInt c) : FnOK c 4 (.ref 278) sunkS := pureSh dScalar_unknown dScalar_unknown_ok O [scalarF, tunkF] (mem1 ((scalar_ok O).le (by decide)) (mem1 (tunk_ok O) mem0)) fun t => dScalar_unknown_as c
noncomputable abbrev constSc (a : Int) : AV := sc (tn (wrapZ 64 a) 0) (wrapZ 64 a) (wrapZ 64 a) (sgnZ 64 (wrapZ 64 a)) (sgnZ 64 (wrapZ 64 a)) (wrapZ 32 a) (wrapZ 32 a) (sgnZ 32 (wrapZ 32 a)) (sgnZ 32 (wrapZ 32 a))
noncomputable def sconstS : FSem := orSh (.int .nil) (fun t m => .leaf (constSc t.1, m)) offS
theorem sconst_ok (O : ObjInt c) : FnOK c 3 (.ref 288) sconstS := pureSh dScalar_const dScalar_const_ok O [scalarF, tnumF, wrapF, signedF] (mem1 (scalar_ok O) (mem1 (tnum_ok (n := 0) O) (mem1 ((wrap_ok (n := 0) O).le (by decide)) (mem1 ((signed_ok (n := 0) O).le (by decide)) mem0)))) fun t => dScalar_const_as c _
noncomputable def sisS : FSem := orSh (shSc .nil) (fun t m => .leaf (.bool (t.1.1.2.1 == 0), m)) offS
theorem sis_ok (O : ObjInt c) : FnOK c 1 (.ref 335) sisS := pureSh dScalar_is_const dScalar_is_const_ok O [] mem0 fun t => dScalar_is_const_as c _
noncomputable def sworthS : FSem := orSh (shSc .nil) (fun t m => .leaf (.int t.1.1.1, m)) offS
theorem sworth_ok (O : ObjInt c) : FnOK c 1 (.ref 342) sworthS := pureSh dScalar_worth dScalar_worth_ok O [] mem0 fun t => dScalar_worth_as c _
noncomputable def sendsS : FSem := orSh (shSc .nil) (fun t m => .leaf (.lst (toEn t.1.2).l, m)) offS
theorem sends_ok (O : ObjInt c) : FnOK c 1 (.ref 356) sendsS := pureSh dScalar_ends dScalar_ends_ok O [] mem0 fun t => dScalar_ends_as c _
noncomputable def sendsF : FK × FSem := (.ref 356, sendsS)
noncomputable abbrev toldSc (v w : Int) (x : En) : AV := .tup [.tup [.int v, .int w], .tup x.l]
noncomputable def stoldS : FSem := orSh (shSc .nil) (fun t m => .leaf (toldSc t.1.1.1 t.1.1.2.1 (toEn t.1.2), m)) offS
theorem stold_ok (O : ObjInt c) : FnOK c 2 (.ref 363) stoldS := pureSh2 dScalar_told dScalar_told_ok O [ttoldF, sendsF, tupleF] (mem1 (ttold_ok O) (mem1 (sends_ok O) (mem1 tuple_ok mem0))) (fun t => dScalar_told_as c _)
 (g := fun t m => .req (8 ≤ 1000) (.leaf (toldSc t.1.1.1 t.1.1.2.1 (toEn t.1.2), m))) fun t m => .req1 (by decide)
noncomputable def endS (k : Int) (F : Int → En → En) (rest : FSem) : FSem := orShM (.hnd 0 (.lit k (.int .nil))) sI8 (fun t u => .leaf (.none, (F t.1 (toEn u)).m)) rest
noncomputable def raiseS : FSem := endS 0 (fun z x => { x with a := max x.a z }) <| endS 2 (fun z x => { x with d := max x.d z }) <| endS 4 (fun z x => { x with f := max x.f z }) <| endS 6 (fun z x => { x with h := max x.h z }) offS
noncomputable def lowerS : FSem := endS 1 (fun z x => { x with b := min x.b z }) <| endS 3 (fun z x => { x with e := min x.e z }) <| endS 5 (fun z x => { x with g := min x.g z }) <| endS 7 (fun z x => { x with i := min x.i z }) offS
theorem max_ite {α : Type} (x z : Int) (f : Int → α) : f (max x z) = if decide (x < z) then f z else f x := by
 by_cases q : x < z
 ·rw [Int.max_eq_right (Int.le_of_lt q), if_pos (decide_eq_true q)]
 ·rw [Int.max_eq_left (Int.not_lt.mp q), if_neg (by simp [q])]
theorem min_ite {α : Type} (x z : Int) (f : Int → α) : f (min x z) = if decide (z < x) then f z else f x := by
 by_cases q : z < x
 ·rw [Int.min_eq_right (Int.le_of_lt q), if_pos (decide_eq_true q)]
 ·rw [Int.min_eq_left (Int.not_lt.mp q), if_neg (by simp [q])]
noncomputable abbrev endT (d : Def) (k z : Int) (x : En) : T (AV × Mem) := bodyT (cfg [] []) 14 d.st [(S "ends", .hnd 0), (S "at", .int k), (S "worth", .int z)] x.m
theorem CellK.ra {k : Int} {p : En → Int} {G : Int → En → En} {rest : FSem} (r : CellK c draise_least (bodyT (cfg [] []) 14 draise_least.st) rest)
  (he : ∀ z x, endT draise_least k z x = .ite (decide (p x < z)) (.leaf (.none, (G z x).m)) (.leaf (.none, (G (p x) x).m)) := by intro z x; kernel_rfl) : CellK c draise_least (bodyT (cfg [] []) 14 draise_least.st) (endS k (fun z x => G (max (p x) z) x) rest) :=
 .alt (fun t => draise_least_as c _ _ _) (fun t u => .leaf_ite (max_ite (p (toEn u)) t.1 fun y => (AV.none, (G y (toEn u)).m))) r (he := fun t u => he t.1 (toEn u))
theorem CellK.lo {k : Int} {p : En → Int} {G : Int → En → En} {rest : FSem} (r : CellK c dlower_most (bodyT (cfg [] []) 14 dlower_most.st) rest)
  (he : ∀ z x, endT dlower_most k z x = .ite (decide (z < p x)) (.leaf (.none, (G z x).m)) (.leaf (.none, (G (p x) x).m)) := by intro z x; kernel_rfl) : CellK c dlower_most (bodyT (cfg [] []) 14 dlower_most.st) (endS k (fun z x => G (min (p x) z) x) rest) :=
 .alt (fun t => dlower_most_as c _ _ _) (fun t u => .leaf_ite (min_ite (p (toEn u)) t.1 fun y => (AV.none, (G y (toEn u)).m))) r (he := fun t u => he t.1 (toEn u))
theorem raise_ok (O : ObjInt c) : FnOK c 1 (.ref 377) raiseS := CellK.ok (d := draise_least) (mu := []) (.ra (p := En.a) (G := fun z x => { x with a := z }) <| .ra (p := En.d) (G := fun z x => { x with d := z }) <| .ra (p := En.f) (G := fun z x => { x with f := z }) <| .ra (p := En.h) (G := fun z x => { x with h := z }) .off) draise_least_ok O mem0
theorem lower_ok (O : ObjInt c) : FnOK c 1 (.ref 384) lowerS := CellK.ok (d := dlower_most) (mu := []) (.lo (p := En.b) (G := fun z x => { x with b := z }) <| .lo (p := En.e) (G := fun z x => { x with e := z }) <| .lo (p := En.g) (G := fun z x => { x with g := z }) <| .lo (p := En.i) (G := fun z x => { x with i := z }) .off) dlower_most_ok O mem0
end
noncomputable def iteOr {α : Type} (p q : Bool) (A B : T α) : T α := .ite p (.ite true A B) (.ite q (.ite true A B) (.ite false A B))
theorem T.All.yes {α : Type} {A B : T α} {K : α → Prop} {KX : AV → Mem → Prop} (h : A.All K KX) : (T.ite true A B).All K KX := ⟨fun _ => h, fun q => nomatch q⟩
theorem T.All.no {α : Type} {A B : T α} {K : α → Prop} {KX : AV → Mem → Prop} (h : B.All K KX) : (T.ite false A B).All K KX := ⟨fun q => (nomatch q), fun _ => h⟩
theorem iteOr_all {α : Type} {A B : T α} {K : α → Prop} {KX : AV → Mem → Prop} : ∀ {p q : Bool}, ((p || q) = true → A.All K KX) → ((p || q) = false → B.All K KX) → (iteOr p q A B).All K KX
 | true, _, h, _ => .yes (.yes (h rfl))
 | false, true, h, _ => .no (.yes (.yes (h rfl)))
 | false, false, _, h => .no (.no (.no (h rfl)))
theorem Imp.ifT {α : Type} {x y z : α} {p : Bool} {A B : T α} (e : z = if p then x else y) (h1 : Imp (.leaf x) A) (h2 : Imp (.leaf y) B) {K : α → Prop} {KX : AV → Mem → Prop} (h : K z) : (p = true → A.All K KX) ∧ (p = false → B.All K KX) :=
 ⟨fun q => h1 K KX (show K x by rw [e, q] at h; exact h), fun q => h2 K KX (show K y by rw [e, q] at h; exact h)⟩
theorem Imp.orT {α : Type} {x y z : α} {p q : Bool} {A B : T α} (e : z = if p || q then x else y) (h1 : Imp (.leaf x) A) (h2 : Imp (.leaf y) B) : Imp (.leaf z) (iteOr p q A B) := fun K KX h =>
 have i := Imp.ifT (KX := KX) e h1 h2 h
 iteOr_all i.1 i.2
theorem Imp.iteT {α : Type} {x y z : α} {p : Bool} {A B : T α} (e : z = if p then x else y) (h1 : Imp (.leaf x) A) (h2 : Imp (.leaf y) B) : Imp (.leaf z) (.ite p A B) := fun K KX h => Imp.ifT e h1 h2 h
noncomputable def bitsE (v w : Int) (x : En) : En := ⟨max x.a v, min x.b (Builtin.bitOr v w), max x.d (sleastZ 64 v w), min x.e (smostZ 64 v w), max x.f (Builtin.bitAnd v 4294967295), min x.g (Builtin.bitAnd (Builtin.bitOr v w) 4294967295), max x.h (sleastZ 32 v w), min x.i (smostZ 32 v w)⟩
section
variable {c : Cx} {n : Nat}
noncomputable def raiseF : FK × FSem := (.ref 377, raiseS)
noncomputable def lowerF : FK × FSem := (.ref 384, lowerS)
noncomputable def tleastF : FK × FSem := (.ref 156, tleastS)
noncomputable def tmostF : FK × FSem := (.ref 163, tmostS)
noncomputable def tsleastF : FK × FSem := (.ref 171, tsleastS)
noncomputable def tsmostF : FK × FSem := (.ref 179, tsmostS)
noncomputable def ebitsS : FSem := orShM (shTn (.hnd 0 .nil)) sI8 (fun t u => .leaf (.none, (bitsE t.1.1 t.1.2.1 (toEn u)).m)) offS
theorem ebits_ok (O : ObjInt c) : FnOK c 3 (.ref 391) ebitsS := memSh dends_by_bits dends_by_bits_ok O [raiseF, lowerF, tleastF, tmostF, tsleastF, tsmostF] (mem1 ((raise_ok O).le (by decide)) (mem1 ((lower_ok O).le (by decide)) (mem1 ((tleast_ok O).le (by decide)) (mem1 ((tmost_ok O).le (by decide)) (mem1 (tsleast_ok O) (mem1 (tsmost_ok O) mem0)))))) 14 (fun t => dends_by_bits_as c _ _) fun t u => Imp.refl _
noncomputable def sg1 (s : Int) (x : En) : En := { x with d := max x.d (sgnZ s x.a), e := min x.e (sgnZ s x.b) }
noncomputable def sg2 (s : Int) (y : En) : En :=
 if decide (0 ≤ y.d) || decide (y.e < 0) then { y with a := max y.a (wrapZ s y.d), b := min y.b (wrapZ s y.e) }
 else if decide (y.b < wrapZ s y.d) then { y with d := 0, b := min y.b y.e }
 else if decide (y.e < y.a) then { y with e := -1, a := max y.a (wrapZ s y.d) } else y
noncomputable def signE (s : Int) (x : En) : En := sg2 s (if decide (x.b < 2 ^ (s - 1).toNat) || decide (2 ^ (s - 1).toNat ≤ x.a) then sg1 s x else x)
noncomputable def En.lo (x : En) : En := ⟨x.f, x.g, x.h, x.i, x.a, x.b, x.d, x.e⟩
noncomputable def En.up (x : En) : En := ⟨x.f, x.g, x.h, x.i, x.a, x.b, x.d, x.e⟩
noncomputable def sgT (s : Int) (P : En → Mem) (y : En) : T (AV × Mem) :=
 iteOr (decide (0 ≤ y.d)) (decide (y.e < 0)) (.leaf (.none, P { y with a := max y.a (wrapZ s y.d), b := min y.b (wrapZ s y.e) }))
  (.ite (decide (y.b < wrapZ s y.d)) (.leaf (.none, P { y with d := 0, b := min y.b y.e }))
   (.ite (decide (y.e < y.a)) (.leaf (.none, P { y with e := -1, a := max y.a (wrapZ s y.d) })) (.leaf (.none, P y))))
theorem ifP {α β : Type} (P : α → β) (p : Bool) (x y : α) : P (if p then x else y) = if p then P x else P y := by cases p <;> rfl
theorem sgT_imp (s : Int) (P : En → Mem) (y : En) : Imp (T.leaf (AV.none, P (sg2 s y))) (sgT s P y) :=
 .orT (ifP (fun z => (AV.none, P z)) ..) (.refl _) <| .iteT (ifP (fun z => (AV.none, P z)) ..) (.refl _) <| .iteT (ifP (fun z => (AV.none, P z)) ..) (.refl _) (.refl _)
noncomputable def signT (s : Int) (P : En → Mem) (x : En) : T (AV × Mem) := iteOr (decide (x.b < 2 ^ (s - 1).toNat)) (decide (2 ^ (s - 1).toNat ≤ x.a)) (sgT s P (sg1 s x)) (sgT s P x)
theorem signT_imp (s : Int) (P : En → Mem) (x : En) : Imp (T.leaf (AV.none, P (signE s x))) (signT s P x) :=
 .orT (ifP (fun z => (AV.none, P (sg2 s z))) ..) (sgT_imp _ _ _) (sgT_imp _ _ _)
noncomputable def esignS : FSem := orShM (.hnd 0 (.lit 0 (.lit 64 .nil))) sI8 (fun _ u => .leaf (.none, (signE 64 (toEn u)).m)) <| orShM (.hnd 0 (.lit 4 (.lit 32 .nil))) sI8 (fun _ u => .leaf (.none, (signE 32 (toEn u).lo).up.m)) offS
theorem esign_ok (O : ObjInt c) : FnOK c 3 (.ref 398) esignS := CellK.ok (d := dends_by_sign) (fs := [raiseF, lowerF, wrapF, signedF]) (mu := []) (fuel := 16)
 (.alt (fun t => dends_by_sign_as c _ _ _) (g := fun t u => .req ((0 : Int) ≤ 63 ∧ (63 : Int) ≤ 1000 ∧ (1 : Int).natAbs < 2 ^ 1000) (signT 64 En.m (toEn u))) (fun t u => (signT_imp 64 En.m (toEn u)).trans (.req1 (size_req3 63 rfl).1))
 (.alt (fun t => dends_by_sign_as c _ _ _) (g := fun t u => .req ((0 : Int) ≤ 31 ∧ (31 : Int) ≤ 1000 ∧ (1 : Int).natAbs < 2 ^ 1000) (signT 32 (fun x => x.up.m) (toEn u).lo)) (fun t u => (signT_imp 32 (fun x => x.up.m) (toEn u).lo).trans (.req1 (size_req3 31 rfl).1)) .off)) dends_by_sign_ok O
  (mem1 ((raise_ok O).le (by decide)) (mem1 ((lower_ok O).le (by decide)) (mem1 ((wrap_ok (n := 0) O).le (by decide)) (mem1 ((signed_ok (n := 0) O).le (by decide)) mem0))))
end
noncomputable def iteAnd {α : Type} (p q : Bool) (A B : T α) : T α := .ite p (.ite q (.ite true A B) (.ite false A B)) (.ite false A B)
theorem iteAnd_all {α : Type} {A B : T α} {K : α → Prop} {KX : AV → Mem → Prop} : ∀ {p q : Bool}, ((p && q) = true → A.All K KX) → ((p && q) = false → B.All K KX) → (iteAnd p q A B).All K KX
 | true, true, h, _ => .yes (.yes (.yes (h rfl)))
 | true, false, _, h => .yes (.no (.no (h rfl)))
 | false, _, _, h => .no (.no (h rfl))
theorem Imp.andT {α : Type} {x y z : α} {p q : Bool} {A B : T α} (e : z = if p && q then x else y) (h1 : Imp (.leaf x) A) (h2 : Imp (.leaf y) B) : Imp (.leaf z) (iteAnd p q A B) := fun K KX h =>
 have i := Imp.ifT (KX := KX) e h1 h2 h
 iteAnd_all i.1 i.2
noncomputable def shr32 (x : Int) : Int := x.fdiv (2 ^ (32 : Int).toNat)
noncomputable def low32 (x : Int) : Int := Builtin.bitAnd x 4294967295
noncomputable def hwA (x : En) : En := if shr32 x.a == shr32 x.b then { x with f := max x.f (low32 x.a), g := min x.g (low32 x.b) } else x
noncomputable def hwB (x : En) : En := if shr32 x.d == shr32 x.e then { x with f := max x.f (low32 x.d), g := min x.g (low32 x.e) } else x
noncomputable def hwC (x : En) : En := if decide (-2147483648 ≤ x.d) && decide (x.e ≤ 2147483647) then { x with h := max x.h x.d, i := min x.i x.e } else x
noncomputable def hwE (x : En) : En := hwC (hwB (hwA x))
noncomputable def hwT3 (x : En) : T (AV × Mem) := iteAnd (decide (-2147483648 ≤ x.d)) (decide (x.e ≤ 2147483647)) (.leaf (.none, En.m { x with h := max x.h x.d, i := min x.i x.e })) (.leaf (.none, x.m))
noncomputable def hwT2 (x : En) : T (AV × Mem) := .req ((0 : Int) ≤ 32) (.req ((0 : Int) ≤ 32) (.ite (shr32 x.d == shr32 x.e) (hwT3 { x with f := max x.f (low32 x.d), g := min x.g (low32 x.e) }) (hwT3 x)))
noncomputable def hwT1 (x : En) : T (AV × Mem) := .req ((0 : Int) ≤ 32) (.req ((0 : Int) ≤ 32) (.ite (shr32 x.a == shr32 x.b) (hwT2 { x with f := max x.f (low32 x.a), g := min x.g (low32 x.b) }) (hwT2 x)))
theorem Imp.req2 {α : Type} {p q : Prop} {τ : T α} (h : p) (h2 : q) : Imp τ (.req p (.req q τ)) := fun _ _ k => ⟨h, h2, k⟩
theorem hwT3_imp (x : En) : Imp (T.leaf (AV.none, (hwC x).m)) (hwT3 x) := .andT (ifP (fun z : En => (AV.none, z.m)) ..) (.refl _) (.refl _)
theorem hwT2_imp (x : En) : Imp (T.leaf (AV.none, (hwC (hwB x)).m)) (hwT2 x) :=
 (Imp.iteT (ifP (fun z => (AV.none, (hwC z).m)) ..) (hwT3_imp _) (hwT3_imp _)).trans (.req2 (by decide) (by decide))
theorem hwT1_imp (x : En) : Imp (T.leaf (AV.none, (hwE x).m)) (hwT1 x) :=
 (Imp.iteT (ifP (fun z => (AV.none, (hwC (hwB z)).m)) ..) (hwT2_imp _) (hwT2_imp _)).trans (.req2 (by decide) (by decide))
section
variable {c : Cx} {n : Nat}
noncomputable def hwS : FSem := orShM (.hnd 0 .nil) sI8 (fun _ u => .leaf (.none, (hwE (toEn u)).m)) offS
theorem hw_ok (O : ObjInt c) : FnOK c 2 (.ref 405) hwS := memSh dhalves_by_wholes dhalves_by_wholes_ok O [raiseF, lowerF] (mem1 (raise_ok O) (mem1 (lower_ok O) mem0)) 16 (fun t => dhalves_by_wholes_as c _) (g := fun _ u => .req (2 ≤ 1000) (hwT1 (toEn u))) fun t u => (hwT1_imp (toEn u)).trans (.req1 (by decide))
theorem shl_fine {x : Int} (h : x.natAbs < 2 ^ 80) : (shr32 x + 1).natAbs < 2 ^ 1000 ∧ (shr32 x).natAbs < 2 ^ 1000 ∧ (shr32 x - 1).natAbs < 2 ^ 1000 := by
 have big : (2 : Nat) ^ 80 + 1 ≤ 2 ^ 1000 := Nat.le_trans (by decide) (Nat.pow_le_pow_right (n := 2) (by decide) (show 81 ≤ 1000 by decide))
 have h0 : (shr32 x).natAbs < 2 ^ 80 := Nat.lt_of_le_of_lt (Int.natAbs_fdiv_le_natAbs _ _) h
 have h1 : (shr32 x).natAbs + 1 < 2 ^ 1000 := Nat.lt_of_lt_of_le (Nat.succ_lt_succ h0) big
 exact ⟨Nat.lt_of_le_of_lt (Int.natAbs_add_le _ 1) h1, Nat.lt_of_succ_lt h1, Nat.lt_of_le_of_lt (Int.natAbs_sub_le _ 1) h1⟩
noncomputable def lwZ (x low top : Int) : Int := if decide (top < low32 x) then (shr32 x + 1) * 2 ^ (32 : Int).toNat + low else shr32 x * 2 ^ (32 : Int).toNat + max (low32 x) low
noncomputable def mwZ (x low top : Int) : Int := if decide (low32 x < low) then (shr32 x - 1) * 2 ^ (32 : Int).toNat + top else shr32 x * 2 ^ (32 : Int).toNat + min (low32 x) top
noncomputable def maxF : FK × FSem := (.bi "max", maxS)
noncomputable def minF : FK × FSem := (.bi "min", minS)
noncomputable def lwS : FSem := orSh (.int (.int (.int .nil))) (fun t m => .req (t.1.natAbs < 2 ^ 80) (.leaf (.int (lwZ t.1 t.2.1 t.2.2.1), m))) offS
noncomputable def mwS : FSem := orSh (.int (.int (.int .nil))) (fun t m => .req (t.1.natAbs < 2 ^ 80) (.leaf (.int (mwZ t.1 t.2.1 t.2.2.1), m))) offS
noncomputable def shlT (y z : Int) (m : Mem) : T (AV × Mem) := .req ((0 : Int) ≤ 32 ∧ (32 : Int) ≤ 1000 ∧ y.natAbs < 2 ^ 1000) (.leaf (.int (y * 2 ^ (32 : Int).toNat + z), m))
theorem shl_imp (x y z l t : Int) (p : Bool) (m : Mem) (hy : x.natAbs < 2 ^ 80 → y.natAbs < 2 ^ 1000) (e : t = if p then y * 2 ^ (32 : Int).toNat + z else shr32 x * 2 ^ (32 : Int).toNat + l) :
  Imp (.req (x.natAbs < 2 ^ 80) (.leaf (.int t, m))) (.req ((0 : Int) ≤ 32) (.ite p (shlT y z m) (shlT (shr32 x) l m))) := fun K KX h =>
 ⟨by decide, Imp.ifT (e ▸ ifP (fun t => (AV.int t, m)) ..) (.req1 ⟨by decide, by decide, hy h.1⟩) (.req1 ⟨by decide, by decide, (shl_fine h.1).2.1⟩) h.2⟩
theorem lw_ok (O : ObjInt c) : FnOK c 1 (.ref 412) lwS := pureSh2 dleast_whole dleast_whole_ok O [maxF] (mem1 max_ok mem0) (fun t => dleast_whole_as c _ _ _) fun t m => shl_imp t.1 (shr32 t.1 + 1) t.2.1 (max (low32 t.1) t.2.1) _ (decide (t.2.2.1 < low32 t.1)) m (fun h => (shl_fine h).1) rfl
theorem mw_ok (O : ObjInt c) : FnOK c 1 (.ref 419) mwS := pureSh2 dmost_whole dmost_whole_ok O [minF] (mem1 min_ok mem0) (fun t => dmost_whole_as c _ _ _) fun t m => shl_imp t.1 (shr32 t.1 - 1) t.2.2.1 (min (low32 t.1) t.2.2.1) _ (decide (low32 t.1 < t.2.1)) m (fun h => (shl_fine h).2.2) rfl
noncomputable def whA (x : En) : En := { x with a := lwZ x.a x.f x.g, b := mwZ x.b x.f x.g, d := lwZ x.d x.f x.g, e := mwZ x.e x.f x.g }
noncomputable def wholeB (x : En) : En := if decide (-2147483648 ≤ x.d) && decide (x.e ≤ 2147483647) then { x with d := max x.d x.h, e := min x.e x.i } else x
noncomputable def lwF : FK × FSem := (.ref 412, lwS)
noncomputable def mwF : FK × FSem := (.ref 419, mwS)
end
section
variable {c : Cx} {n : Nat}
noncomputable def wholT (y : En) : T (AV × Mem) := iteAnd (decide (-2147483648 ≤ y.d)) (decide (y.e ≤ 2147483647)) (.leaf (.none, En.m { y with d := max y.d y.h, e := min y.e y.i })) (.leaf (.none, y.m))
theorem wholT_imp (x : En) : Imp (T.leaf (AV.none, (wholeB x).m)) (wholT x) := .andT (ifP (fun z : En => (AV.none, z.m)) ..) (.refl _) (.refl _)
noncomputable def fine (x : En) : Prop := x.a.natAbs < 2 ^ 80 ∧ x.b.natAbs < 2 ^ 80 ∧ x.d.natAbs < 2 ^ 80 ∧ x.e.natAbs < 2 ^ 80
noncomputable def whS : FSem := orShM (.hnd 0 .nil) sI8 (fun _ u => .req (fine (toEn u)) (.leaf (.none, (wholeB (whA (toEn u))).m))) offS
theorem wh_ok (O : ObjInt c) : FnOK c 2 (.ref 426) whS := memSh dwholes_by_halves dwholes_by_halves_ok O [raiseF, lowerF, lwF, mwF] (mem1 (raise_ok O) (mem1 (lower_ok O) (mem1 (lw_ok O) (mem1 (mw_ok O) mem0)))) 16 (fun t => dwholes_by_halves_as c _)
 (g := fun _ u => .req (2 ≤ 1000) (.req ((toEn u).a.natAbs < 2 ^ 80) (.req ((toEn u).b.natAbs < 2 ^ 80) (.req ((toEn u).d.natAbs < 2 ^ 80) (.req ((toEn u).e.natAbs < 2 ^ 80) (wholT (whA (toEn u)))))))) fun _ u K KX h => ⟨by decide, h.1.1, h.1.2.1, h.1.2.2.1, h.1.2.2.2, wholT_imp _ K KX h.2⟩
noncomputable def emptyB (x : En) : Bool := decide (x.b < x.a) || decide (x.e < x.d) || decide (x.g < x.f) || decide (x.i < x.h)
theorem or4_imp (p q r s : Bool) (M : Mem) : Imp (.leaf (AV.bool (p || q || r || s), M)) (.ite p (.leaf (.bool p, M)) (.ite q (.leaf (.bool q, M)) (.ite r (.leaf (.bool r, M)) (.leaf (.bool s, M))))) :=
 .iteT (y := (.bool (q || r || s), M)) (by cases p <;> rfl) (.refl _) <| .iteT (y := (.bool (r || s), M)) (by cases q <;> rfl) (.refl _) <| .iteT (by cases r <;> rfl) (.refl _) (.refl _)
noncomputable def emptyS : FSem := orShM (.hnd 0 .nil) sI8 (fun _ u => .leaf (.bool (emptyB (toEn u)), (toEn u).m)) offS
theorem empty_ok (O : ObjInt c) : FnOK c 1 (.ref 433) emptyS := memSh dis_empty dis_empty_ok O [] mem0 14 (fun t => dis_empty_as c _) fun _ u => or4_imp (decide ((toEn u).b < (toEn u).a)) (decide ((toEn u).e < (toEn u).d)) (decide ((toEn u).g < (toEn u).f)) (decide ((toEn u).i < (toEn u).h)) (toEn u).m
noncomputable def s64 (x : En) : En := signE 64 x
noncomputable def s32 (x : En) : En := (signE 32 x.lo).up
noncomputable def ded1 (v w : Int) (x : En) : En := s32 (s64 (bitsE v w x))
noncomputable def ded2 (x : En) : En := s32 (hwE x)
noncomputable def ded3 (x : En) : En := s64 (wholeB (whA x))
noncomputable def ebitsF : FK × FSem := (.ref 391, ebitsS)
noncomputable def esignF : FK × FSem := (.ref 398, esignS)
noncomputable def hwF : FK × FSem := (.ref 405, hwS)
noncomputable def whF : FK × FSem := (.ref 426, whS)
noncomputable def emptyF : FK × FSem := (.ref 433, emptyS)
noncomputable def dedT (v w : Int) (x : En) : T (AV × Mem) :=
 .ite (emptyB (ded1 v w x)) (.leaf (.bool false, (ded1 v w x).m)) (.ite (emptyB (ded2 (ded1 v w x))) (.leaf (.bool false, (ded2 (ded1 v w x)).m))
  (.req (fine (ded2 (ded1 v w x))) (.leaf (.bool (!(emptyB (ded3 (ded2 (ded1 v w x))))), (ded3 (ded2 (ded1 v w x))).m))))
noncomputable def dedS : FSem := orShM (shTn (.hnd 0 .nil)) sI8 (fun t u => dedT t.1.1 t.1.2.1 (toEn u)) offS
theorem ded_ok (O : ObjInt c) : FnOK c 4 (.ref 447) dedS := memSh ddeduced ddeduced_ok O [ebitsF, esignF, hwF, whF, emptyF] (mem1 (ebits_ok O) (mem1 (esign_ok O) (mem1 ((hw_ok O).le (by decide)) (mem1 ((wh_ok O).le (by decide)) (mem1 ((empty_ok O).le (by decide)) mem0))))) 16 (fun t => ddeduced_as c _ _) fun t u => Imp.refl _
noncomputable def spV (l u : Int) : Int := l - Builtin.bitAnd l (freeZ l u)
noncomputable def spOK (l u : Int) : Prop := 0 ≤ Builtin.bitXor l u ∧ Builtin.bitXor l u < 2 ^ 64
noncomputable def mtV (v x : Int) (w y : Int) : Int := without1 (Builtin.bitOr v x) (Builtin.bitAnd w y)
noncomputable def mtM (w y : Int) : Int := wrapZ 64 (Builtin.bitAnd w y)
noncomputable def wlow (a x : Int) : Int := a - Builtin.bitAnd a 4294967295 + Builtin.bitAnd x 4294967295
noncomputable def bbT2 (p q f g : Int) (M : Mem) : T (AV × Mem) :=
 .req (spOK f g) (.ite (meetB (low32 p) (low32 q) (spV f g) (freeZ f g)) (.ite true (.leaf (.none, M)) (.stuck "arguments"))
  (.ite false (.leaf (.none, M)) (.leaf (tn (wlow p (mtV (low32 p) (spV f g) (low32 q) (freeZ f g))) (wlow q (mtM (low32 q) (freeZ f g))), M))))
noncomputable def bbT (v w : Int) (x : En) (M : Mem) : T (AV × Mem) :=
 .req (spOK x.a x.b) (.ite (meetB v w (spV x.a x.b) (freeZ x.a x.b)) (.ite true (.leaf (.none, M)) (.stuck "arguments"))
  (.ite false (.leaf (.none, M)) (bbT2 (mtV v (spV x.a x.b) w (freeZ x.a x.b)) (mtM w (freeZ x.a x.b)) x.f x.g M)))
noncomputable def tmeetF : FK × FSem := (.ref 243, tmeetS)
noncomputable def tlowF : FK × FSem := (.ref 250, tlowS)
noncomputable def twithF : FK × FSem := (.ref 257, twithS)
end
noncomputable def bbV (v w : Int) (x : En) : Int := wlow (mtV v (spV x.a x.b) w (freeZ x.a x.b)) (mtV (low32 (mtV v (spV x.a x.b) w (freeZ x.a x.b))) (spV x.f x.g) (low32 (mtM w (freeZ x.a x.b))) (freeZ x.f x.g))
noncomputable def bbM (w : Int) (x : En) : Int := wlow (mtM w (freeZ x.a x.b)) (mtM (low32 (mtM w (freeZ x.a x.b))) (freeZ x.f x.g))
noncomputable def bbN1 (v w : Int) (x : En) : Bool := meetB v w (spV x.a x.b) (freeZ x.a x.b)
noncomputable def bbN2 (v w : Int) (x : En) : Bool := meetB (low32 (mtV v (spV x.a x.b) w (freeZ x.a x.b))) (low32 (mtM w (freeZ x.a x.b))) (spV x.f x.g) (freeZ x.f x.g)
noncomputable def bbK {β : Type} (v w : Int) (x : En) (kn : T β) (k : Int → Int → T β) : T β :=
 .req (spOK x.a x.b) (.ite (bbN1 v w x) kn (.req (spOK x.f x.g) (.ite (bbN2 v w x) kn (k (bbV v w x) (bbM w x)))))
noncomputable def bb2S : FSem := orShM (shTn (.hnd 0 .nil)) sI8 (fun t u => bbK t.1.1 t.1.2.1 (toEn u) (.leaf (.none, (toEn u).m)) fun p q => .leaf (tn p q, (toEn u).m)) offS
section
variable {c : Cx} {n : Nat}
theorem bb_imp (v w : Int) (x : En) (M : Mem) : Imp (bbK v w x (.leaf (AV.none, M)) fun p q => .leaf (tn p q, M)) (bbT v w x M) := fun K KX h =>
 ⟨h.1, fun q => .yes (h.2.1 q), fun q => .no ⟨(h.2.2 q).1, fun r => .yes ((h.2.2 q).2.1 r), fun r => .no ((h.2.2 q).2.2 r)⟩⟩
theorem bb2_ok (O : ObjInt c) : FnOK c 5 (.ref 440) bb2S := memSh dbits_by_ends dbits_by_ends_ok O [tmeetF, tlowF, twithF, spanF] (mem1 (tmeet_ok O) (mem1 ((tlow_ok O).le (by decide)) (mem1 ((twith_ok O).le (by decide)) (mem1 ((span_ok O).le (by decide)) mem0)))) 16 (fun t => dbits_by_ends_as c _ _) fun t u => bb_imp t.1.1 t.1.2.1 (toEn u) (toEn u).m
noncomputable def sameB (v w : Int) (x : En) (v' w' : Int) (y : En) : Bool :=
 ((v == v') && ((w == w') && true)) && (((x.a == y.a) && ((x.b == y.b) && ((x.d == y.d) && ((x.e == y.e) && ((x.f == y.f) && ((x.g == y.g) && ((x.h == y.h) && ((x.i == y.i) && true)))))))) && true)
noncomputable def mt2 {β : Type} (RET : T β) (brk nxt : Int → Int → En → T β) (v w : Int) (x y : En) : T β :=
 bbK v w y (.ite true RET (.stuck "method")) fun p q => .ite false RET (.req (8 ≤ 1000) (.ite (sameB p q y v w x) (brk p q y) (nxt p q y)))
noncomputable def madeTurn {β : Type} (RET : T β) (brk nxt : Int → Int → En → T β) (v w : Int) (x : En) : T β :=
 .req (8 ≤ 1000) (.ite (emptyB (ded1 v w x)) (.ite true RET (mt2 RET brk nxt v w x (ded1 v w x))) (.ite (emptyB (ded2 (ded1 v w x))) (.ite true RET (mt2 RET brk nxt v w x (ded2 (ded1 v w x))))
  (.req (fine (ded2 (ded1 v w x))) (.ite (!(!(emptyB (ded3 (ded2 (ded1 v w x)))))) RET (mt2 RET brk nxt v w x (ded3 (ded2 (ded1 v w x))))))))
noncomputable def dedF : FK × FSem := (.ref 447, dedS)
noncomputable def bb2F : FK × FSem := (.ref 440, bb2S)
noncomputable def madeB (v w : Int) (x : En) (m : Mem) : T (AV × Mem) :=
 .req (8 ≤ 1000) (.ite (emptyB x) (.leaf (.none, m)) (.req ((0 : Int) = 0 ∧ (0 : Int) ≤ 3 ∧ (3 : Int) ≤ 1000)
  (madeTurn (.leaf (.none, m)) (fun p q y => .leaf (y.sc p q, m)) (fun p q y => madeTurn (.leaf (.none, m)) (fun p q y => .leaf (y.sc p q, m))
   (fun p q y => madeTurn (.leaf (.none, m)) (fun p q y => .leaf (y.sc p q, m)) (fun p q y => .leaf (y.sc p q, m)) p q y) p q y) v w x)))
theorem made_eq (v w : Int) (x : En) (m : Mem) : bareT dmade [listF, tupleF, rangeF, ttoldF, emptyF, dedF, bb2F, scalarF] 20 [(S "bits", tn v w), (S "ends", .lst x.l)] m = madeB v w x m := by kernel_rfl
end
noncomputable def turnC {β : Type} (RET : T β) (brk nxt : Int → Int → En → T β) (v w : Int) (x : En) : T β :=
 .ite (emptyB (ded1 v w x)) RET (.ite (emptyB (ded2 (ded1 v w x))) RET (.req (fine (ded2 (ded1 v w x))) (.ite (emptyB (ded3 (ded2 (ded1 v w x)))) RET
  (bbK v w (ded3 (ded2 (ded1 v w x))) RET fun p q => .ite (sameB p q (ded3 (ded2 (ded1 v w x))) v w x) (brk p q (ded3 (ded2 (ded1 v w x)))) (nxt p q (ded3 (ded2 (ded1 v w x))))))))
theorem turn_imp {β : Type} {RET : T β} {brk nxt brk' nxt' : Int → Int → En → T β} (hb : ∀ p q y, Imp (brk p q y) (brk' p q y)) (hn : ∀ p q y, Imp (nxt p q y) (nxt' p q y)) (v w : Int) (x : En) : Imp (turnC RET brk nxt v w x) (madeTurn RET brk' nxt' v w x) := fun K KX h =>
 have fin : ∀ {p : Bool}, (!(!p)) = true → p = true := fun {p} q => by rwa [Bool.not_not] at q
 have fin' : ∀ {p : Bool}, (!(!p)) = false → p = false := fun {p} q => by rwa [Bool.not_not] at q
 ⟨by decide, fun q => .yes (h.1 q), fun q => have h := h.2 q
  ⟨fun q => .yes (h.1 q), fun q => have h := h.2 q
   ⟨h.1, fun q => h.2.1 (fin q), fun q => have h := h.2.2 (fin' q)
    ⟨h.1, fun q => .yes (h.2.1 q), fun q => have h := h.2.2 q
     ⟨h.1, fun q => .yes (h.2.1 q), fun q => .no ⟨by decide, fun q2 => hb _ _ _ K KX ((h.2.2 q).1 q2), fun q2 => hn _ _ _ K KX ((h.2.2 q).2 q2)⟩⟩⟩⟩⟩⟩
noncomputable def finM (m : Mem) (p q : Int) (y : En) : T (AV × Mem) := .leaf (y.sc p q, m)
noncomputable def madeC (v w : Int) (x : En) (m : Mem) : T (AV × Mem) :=
 .ite (emptyB x) (.leaf (.none, m)) (turnC (.leaf (.none, m)) (finM m) (fun p q y => turnC (.leaf (.none, m)) (finM m) (fun p q y => turnC (.leaf (.none, m)) (finM m) (finM m) p q y) p q y) v w x)
theorem madeC_imp (v w : Int) (x : En) (m : Mem) : Imp (madeC v w x m) (madeB v w x m) := fun K KX h =>
 ⟨by decide, h.1, fun q => ⟨⟨rfl, by decide, by decide⟩, turn_imp (fun _ _ _ => .refl _) (turn_imp (fun _ _ _ => .refl _) (turn_imp (fun _ _ _ => .refl _) fun _ _ _ => .refl _)) v w x K KX (h.2 q)⟩⟩
section
variable {c : Cx} {n : Nat}
noncomputable def madeS : FSem := orSh (shTn (.lst sI8 .nil)) (fun t m => madeC t.1.1 t.1.2.1 (toEn t.2.1) m) offS
theorem made_ok (O : ObjInt c) : FnOK c 6 (.ref 454) madeS := PureK.ok (d := dmade) (fuel := 20) (.alt (fun t => dmade_as c _ _) (fun t m => madeC_imp t.1.1 t.1.2.1 (toEn t.2.1) m) .off (he := fun t m => made_eq t.1.1 t.1.2.1 (toEn t.2.1) m)) dmade_ok O
  (mem1 list_ok (mem1 tuple_ok (mem1 range_ok (mem1 ((ttold_ok O).le (by decide)) (mem1 ((empty_ok O).le (by decide)) (mem1 ((ded_ok O).le (by decide)) (mem1 (bb2_ok O) (mem1 ((scalar_ok O).le (by decide)) mem0))))))))
noncomputable def madeF : FK × FSem := (.ref 454, madeS)
noncomputable def sunkF : FK × FSem := (.ref 278, sunkS)
theorem imp_true {α : Type} {A B : T α} : Imp A (.ite true A B) := fun _ _ h => .yes h
theorem imp_false {α : Type} {A B : T α} : Imp A (.ite false B A) := fun _ _ h => .no h
noncomputable def orunkS : FSem := orSh (.none .nil) (fun _ m => .leaf (topSc, m)) <| orSh (shSc .nil) (fun t m => .leaf ((toEn t.1.2).sc t.1.1.1 t.1.1.2.1, m)) offS
noncomputable abbrev scClsF : FK × FSem := (.ref 366, fun _ _ => .stuck "class")
theorem scCls_ok (O : ObjInt c) : FnOK c 2 scClsF.1.val scClsF.2 := ⟨(scalar_ok O).keep, fun A s g m args vs _ _ _ => Tri.stuck⟩
theorem orunk_ok (O : ObjInt c) : FnOK c 5 (.ref 461) orunkS := PureK.ok (d := dor_unknown) (fs := [sunkF, scClsF]) (fuel := 14)
 (.alt (fun t => dor_unknown_as c _) (fun t m => imp_true (B := .leaf (.none, m))) (.alt (fun t => dor_unknown_as c _) (fun t m => imp_false (B := .leaf (topSc, m))) .off)) dor_unknown_ok O (mem1 (sunk_ok O) (mem1 ((scCls_ok O).le (by decide)) mem0))
noncomputable abbrev topEn (a b : Int) : En := ⟨0, 18446744073709551615, a, b, 0, 4294967295, -2147483648, 2147483647⟩
noncomputable def withS : FSem := orSh (.int (.int .nil)) (fun t m => madeC 0 18446744073709551615 (topEn t.1 t.2.1) m) offS
theorem with_ok (O : ObjInt c) : FnOK c 7 (.ref 308) withS := pureSh dScalar_with_sign dScalar_with_sign_ok O [madeF, tunkF] (mem1 (made_ok O) (mem1 ((tunk_ok O).le (by decide)) mem0)) fun t => dScalar_with_sign_as c _ _
end
end
section
open PySem
noncomputable def gam (v w z : Int) : Prop := ∀ i, tb v i = (tb z i && !tb w i)
theorem wrap_eq (k : Nat) (x : Int) : wrapZ k x = x % 2 ^ k := by unfold wrapZ; rw [Int.toNat_natCast]; exact and_ones x k
theorem wrap64 (x : Int) : wrapZ 64 x = x % 2 ^ 64 := wrap_eq 64 x
theorem wrap32 (x : Int) : wrapZ 32 x = x % 2 ^ 32 := wrap_eq 32 x
theorem tb_wrap (x : Int) (i : Nat) : tb (wrapZ 64 x) i = (decide (i < 64) && tb x i) := by rw [wrap64, tb_mod]
theorem tb_without (v w : Int) (i : Nat) : tb (without1 v w) i = (decide (i < 64) && (tb v i && !tb w i)) := by
 unfold without1
 rw [tb_diff (fun j q => by rw [tb_and] at q; simp at q; exact q.1), tb_and, tb_wrap, tb_wrap]
 cases decide (i < 64) <;> cases tb v i <;> cases tb w i <;> rfl
theorem gam_iff {v w z : Int} (hv : 0 ≤ v) (hz : 0 ≤ z) (hw : 0 ≤ w) : gam v w z ↔ z - Builtin.bitAnd z w = v := by
 have hb : ∀ i, tb (z - Builtin.bitAnd z w) i = (tb z i && !tb w i) := fun i => by
  rw [tb_diff (fun j q => by rw [tb_and] at q; simp at q; exact q.1), tb_and]
  cases tb z i <;> cases tb w i <;> rfl
 have hn : 0 ≤ z - Builtin.bitAnd z w := by
  have := le_of_tb (x := Builtin.bitAnd z w) (y := z) (and_nonneg hw) hz fun i q => by rw [tb_and] at q; simp at q; exact q.1
  simp_all
 constructor
 ·exact fun h => eq_of_tb hn hv fun i => by rw [hb, h]
 ·rintro rfl i; exact hb i
section
variable {v w z : Int}
theorem gam_sub (g : gam v w z) {i : Nat} (h : tb v i = true) : tb z i = true ∧ tb w i = false := by
 rw [g i] at h; simp at h; exact h
theorem gam_free (g : gam v w z) {i : Nat} (h : tb w i = false) : tb v i = tb z i := by rw [g i, h]; simp
theorem gam_up (g : gam v w z) {i : Nat} (h : tb z i = true) : tb v i = true ∨ tb w i = true := by
 cases hw : tb w i with
 | true => exact .inr rfl
 | false => exact .inl (by rw [gam_free g hw]; exact h)
theorem tb_vw (g : gam v w z) (i : Nat) : tb (v + w) i = (tb v i || tb w i) := tb_disj (fun j q => by
 cases h : tb v j with
 | false => rfl
 | true => rw [(gam_sub g h).2] at q; cases q) i
theorem mod_lo (g : gam v w z) (i : Nat) : v % 2 ^ i ≤ z % 2 ^ i := mod_le fun j _ q => (gam_sub g q).1
theorem mod_hi (g : gam v w z) (i : Nat) : z % 2 ^ i ≤ (v + w) % 2 ^ i := mod_le fun j _ q => by
 rw [tb_vw g]; rcases gam_up g q with h | h <;> simp [h]
end
theorem xor3 {a b c d : Bool} (h : (a ^^ b ^^ c) = (a ^^ b ^^ d)) : c = d := by revert h; cases a <;> cases b <;> cases c <;> cases d <;> simp
theorem add_sound {a b x y z1 z2 : Int} (g1 : gam a b z1) (g2 : gam x y z2) : gam (without1 (a + x) (taddM a b x y)) (wrapZ 64 (taddM a b x y)) ((z1 + z2) % 2 ^ 64) := by
 intro i
 rw [tb_without, tb_wrap, tb_mod]
 cases hi : decide (i < 64) with
 | false => rfl
 | true =>
  simp only [Bool.true_and]
  cases hM : tb (taddM a b x y) i with
  | true => simp
  | false =>
   unfold taddM at hM
   rw [tb_or, tb_or, tb_xor] at hM
   simp only [Bool.or_eq_false_iff] at hM
   obtain ⟨⟨h1, h2⟩, h3⟩ := hM
   have e : a + x + b + y = (a + b) + (x + y) := by lia
   have h1 : tb (a + x) i = tb ((a + b) + (x + y)) i := by rw [← e]; revert h1; cases tb (a + x) i <;> cases tb (a + x + b + y) i <;> simp
   have z1i := gam_free g1 h2
   have z2i := gam_free g2 h3
   rw [tb_add, tb_add, tb_vw g1, tb_vw g2, h2, h3, Bool.or_false, Bool.or_false] at h1
   have hc := xor3 h1
   have l1 := mod_lo g1 i
   have l2 := mod_lo g2 i
   have u1 := mod_hi g1 i
   have u2 := mod_hi g2 i
   have : decide ((2 : Int) ^ i ≤ a % 2 ^ i + x % 2 ^ i) = decide ((2 : Int) ^ i ≤ z1 % 2 ^ i + z2 % 2 ^ i) := by
    by_cases q : (2 : Int) ^ i ≤ a % 2 ^ i + x % 2 ^ i
    ·rw [decide_eq_true q, decide_eq_true (by lia)]
    ·rw [decide_eq_false q] at hc ⊢
     have : ¬ (2 : Int) ^ i ≤ (a + b) % 2 ^ i + (x + y) % 2 ^ i := by simpa using hc.symm
     rw [decide_eq_false (by omega)]
   rw [tb_add, tb_add z1, ← z1i, ← z2i, this]
theorem sub_sound {a b x y z1 z2 : Int} (g1 : gam a b z1) (g2 : gam x y z2) : gam (without1 (a - x) (tsubM a b x y)) (wrapZ 64 (tsubM a b x y)) ((z1 - z2) % 2 ^ 64) := by
 intro i
 rw [tb_without, tb_wrap, tb_mod]
 cases hi : decide (i < 64) with
 | false => rfl
 | true =>
  simp only [Bool.true_and]
  cases hM : tb (tsubM a b x y) i with
  | true => simp
  | false =>
   unfold tsubM at hM
   rw [tb_or, tb_or, tb_xor] at hM
   simp only [Bool.or_eq_false_iff] at hM
   obtain ⟨⟨h1, h2⟩, h3⟩ := hM
   have e1 : a - x + b = (a + b) - x := by lia
   have e2 : a - x - y = a - (x + y) := by lia
   have h1 : tb ((a + b) - x) i = tb (a - (x + y)) i := by rw [← e1, ← e2]; revert h1; cases tb (a - x + b) i <;> cases tb (a - x - y) i <;> simp
   have z1i := gam_free g1 h2
   have z2i := gam_free g2 h3
   rw [tb_sub, tb_sub, tb_vw g1, tb_vw g2, h2, h3, Bool.or_false, Bool.or_false] at h1
   have hc := xor3 h1
   have l1 := mod_lo g1 i
   have l2 := mod_lo g2 i
   have u1 := mod_hi g1 i
   have u2 := mod_hi g2 i
   have : decide (a % 2 ^ i < x % 2 ^ i) = decide (z1 % 2 ^ i < z2 % 2 ^ i) := by
    by_cases q : (a + b) % 2 ^ i < x % 2 ^ i
    ·rw [decide_eq_true (by lia), decide_eq_true (by lia)]
    ·rw [decide_eq_false q] at hc
     have : ¬ a % 2 ^ i < (x + y) % 2 ^ i := by simpa using hc.symm
     rw [decide_eq_false (by omega), decide_eq_false (by omega)]
   rw [tb_sub, tb_sub z1, ← z1i, ← z2i, this]
theorem gam_const (z : Int) : gam z 0 z := fun i => by rw [tb_zero]; simp
theorem meet_sound {a b x y z : Int} (hz : z < 2 ^ 64) (h0 : 0 ≤ z) (ha : 0 ≤ a) (hx : 0 ≤ x) (g1 : gam a b z) (g2 : gam x y z) : meetB a b x y = false ∧ gam (without1 (Builtin.bitOr a x) (Builtin.bitAnd b y)) (wrapZ 64 (Builtin.bitAnd b y)) z := by
 constructor
 ·unfold meetB
  have : Builtin.bitAnd (Builtin.bitXor a x) (Builtin.bitXor 18446744073709551615 (Builtin.bitOr b y)) = 0 := by
   refine eq_of_tb (and_nonneg' (xor_nonneg ha hx)) (Int.le_refl 0) fun i => ?_
   rw [tb_and, tb_xor, tb_xor, tb_or, tb_zero, show (18446744073709551615 : Int) = 2 ^ 64 - 1 by decide, tb_ones]
   by_cases hi : i < 64
   ·rw [decide_eq_true hi, g1 i, g2 i]
    cases tb z i <;> cases tb b i <;> cases tb y i <;> rfl
   ·have hzi := tb_high h0 hz (i := i) (by simp_all)
    rw [g1 i, g2 i, hzi]; rfl
  rw [this]; rfl
 ·intro i
  rw [tb_without, tb_wrap, tb_or, tb_and]
  by_cases hi : i < 64
  ·rw [decide_eq_true hi, g1 i, g2 i]
   cases tb z i <;> cases tb b i <;> cases tb y i <;> rfl
  ·rw [decide_eq_false hi, tb_high h0 hz (i := i) (by simp_all)]; rfl
theorem low32_eq (x : Int) : low32 x = x % 2 ^ 32 := by
 unfold low32; rw [show (4294967295 : Int) = 2 ^ 32 - 1 by decide, and_ones]
theorem gam_low {v w z : Int} (g : gam v w z) (k : Nat) : gam (v % 2 ^ k) (w % 2 ^ k) (z % 2 ^ k) := fun i => by
 rw [tb_mod, tb_mod, tb_mod, g i]
 cases decide (i < k) <;> cases tb z i <;> cases tb w i <;> rfl
theorem tb_wlow (a x : Int) (i : Nat) : tb (wlow a x) i = if i < 32 then tb x i else tb a i := by
 unfold wlow
 have e : (4294967295 : Int) = 2 ^ 32 - 1 := by decide
 rw [e, and_ones, and_ones]
 have hd : ∀ j, tb (a - a % 2 ^ 32) j = (tb a j && !decide (j < 32)) := fun j => by
  rw [tb_diff (fun j q => by rw [tb_mod] at q; simp at q; exact q.2), tb_mod]
  cases tb a j <;> cases decide (j < 32) <;> rfl
 rw [tb_disj (fun j q => by rw [tb_mod] at q; rw [hd]; simp at q; simp [q.1]), hd, tb_mod]
 by_cases h : i < 32
 ·rw [if_pos h, decide_eq_true h]; simp
 ·rw [if_neg h, decide_eq_false h]; simp
theorem with_sound {a b x y z : Int} (g1 : gam a b z) (g2 : gam x y (z % 2 ^ 32)) : gam (wlow a x) (wlow b y) z := fun i => by
 rw [tb_wlow, tb_wlow]
 by_cases h : i < 32
 ·rw [if_pos h, if_pos h, g2 i, tb_mod, decide_eq_true h]; rfl
 ·rw [if_neg h, if_neg h]; exact g1 i
theorem bcW_lt : ∀ (k : Nat) (w cnt : Int), 0 ≤ w → w < 2 ^ k → cnt ≤ bcW k w cnt ∧ w < 2 ^ (bcW k w cnt - cnt).toNat
 | 0, w, cnt, h0, h => by
  show cnt ≤ cnt ∧ w < 2 ^ (cnt - cnt).toNat
  rw [Int.sub_self]
  exact ⟨Int.le_refl _, h⟩
 | k + 1, w, cnt, h0, h => by
  have e8 : w.fdiv (2 ^ (8 : Int).toNat) = w / 256 := by rw [Int.fdiv_eq_ediv_of_nonneg _ (by decide)]; rfl
  have e1 : w.fdiv (2 ^ (1 : Int).toNat) = w / 2 := by rw [Int.fdiv_eq_ediv_of_nonneg _ (by decide)]; rfl
  have hp : (2 : Int) ^ (k + 1) = 2 * 2 ^ k := by rw [Int.pow_succ, Int.mul_comm]
  have hpos := p2 k
  unfold bcW
  split
  ·split
   ·obtain ⟨a, b⟩ := bcW_lt k (w.fdiv (2 ^ (8 : Int).toNat)) (cnt + 8) (by rw [e8]; lia) (by rw [e8]; lia)
    rw [e8] at a b ⊢
    refine ⟨by lia, ?_⟩
    have e : (bcW k (w / 256) (cnt + 8) - cnt).toNat = (bcW k (w / 256) (cnt + 8) - (cnt + 8)).toNat + 8 := by lia
    rw [e, Int.pow_add]
    generalize (2 : Int) ^ (bcW k (w / 256) (cnt + 8) - (cnt + 8)).toNat = X at b ⊢
    have : (2 : Int) ^ 8 = 256 := by decide
    rw [this]; lia
   ·obtain ⟨a, b⟩ := bcW_lt k (w.fdiv (2 ^ (1 : Int).toNat)) (cnt + 1) (by rw [e1]; lia) (by rw [e1]; lia)
    rw [e1] at a b ⊢
    refine ⟨by solve_by_elim (maxDepth := 3) [Int.le_trans, Int.lt_of_le_of_lt, Int.lt_of_lt_of_le, Int.lt_trans, Int.le_of_lt, Int.not_le_of_gt, Int.not_lt_of_ge], ?_⟩
    have e : (bcW k (w / 2) (cnt + 1) - cnt).toNat = (bcW k (w / 2) (cnt + 1) - (cnt + 1)).toNat + 1 := by lia
    rw [e, Int.pow_add]
    generalize (2 : Int) ^ (bcW k (w / 2) (cnt + 1) - (cnt + 1)).toNat = X at b ⊢
    have : (2 : Int) ^ 1 = 2 := by decide
    rw [this]; lia
  ·exact ⟨Int.le_refl _, by rw [Int.sub_self]; show w < 1; lia⟩
theorem span_sound {a b z : Int} (h0 : 0 ≤ a) (h1 : a ≤ z) (h2 : z ≤ b) (h3 : b < 2 ^ 64) : spOK a b ∧ gam (spV a b) (freeZ a b) z ∧ 0 ≤ spV a b ∧ 0 ≤ freeZ a b := by
 have hx0 : 0 ≤ Builtin.bitXor a b := xor_nonneg h0 (by lia)
 have hx1 : Builtin.bitXor a b < 2 ^ 64 := lt_of_tb hx0 fun i hi => by rw [tb_xor, tb_high h0 (by lia) hi, tb_high (by lia) h3 hi]; rfl
 have h69 : (2 : Int) ^ 69 = 32 * 2 ^ 64 := by decide
 obtain ⟨c1, c2⟩ := bcW_lt 69 (Builtin.bitXor a b) 0 hx0 (by lia)
 rw [Int.sub_zero] at c2
 have hf : freeZ a b = 2 ^ (bcW 69 (Builtin.bitXor a b) 0).toNat - 1 := rfl
 generalize (bcW 69 (Builtin.bitXor a b) 0).toNat = n at c2 hf
 have hn := p2 n
 have hs : spV a b = a - a % 2 ^ n := by unfold spV; rw [hf, and_ones]
 have hu : a / 2 ^ n = b / 2 ^ n := by
  have e : ∀ i, n ≤ i → tb a i = tb b i := fun i hi => by
   have := tb_high hx0 c2 hi
   rw [tb_xor] at this
   revert this; cases tb a i <;> cases tb b i <;> simp
  have ea := Int.mul_ediv_add_emod a (2 ^ n)
  have eb := Int.mul_ediv_add_emod b (2 ^ n)
  refine eq_of_tb (Int.ediv_nonneg h0 (by solve_by_elim (maxDepth := 3) [Int.le_trans, Int.lt_of_le_of_lt, Int.lt_of_lt_of_le, Int.lt_trans, Int.le_of_lt, Int.not_le_of_gt, Int.not_lt_of_ge])) (Int.ediv_nonneg (by lia) (by solve_by_elim (maxDepth := 3) [Int.le_trans, Int.lt_of_le_of_lt, Int.lt_of_lt_of_le, Int.lt_trans, Int.le_of_lt, Int.not_le_of_gt, Int.not_lt_of_ge])) fun i => ?_
  have q : ∀ x : Int, tb (x / 2 ^ n) i = tb x (n + i) := fun x => by
   unfold tb; rw [Int.pow_add, Int.ediv_ediv_of_nonneg (by solve_by_elim (maxDepth := 3) [Int.le_trans, Int.lt_of_le_of_lt, Int.lt_of_lt_of_le, Int.lt_trans, Int.le_of_lt, Int.not_le_of_gt, Int.not_lt_of_ge])]
  rw [q, q]; exact e _ (by simp_all)
 have hz : z / 2 ^ n = a / 2 ^ n := by
  have l := Int.ediv_le_ediv hn h1
  have u := Int.ediv_le_ediv hn h2
  lia
 refine ⟨⟨hx0, hx1⟩, fun i => ?_, ?_, ?_⟩
 ·have hd : tb (a - a % 2 ^ n) i = (tb a i && !decide (i < n)) := by
   rw [tb_diff (fun j q => by rw [tb_mod] at q; simp at q; exact q.2), tb_mod]
   cases tb a i <;> cases decide (i < n) <;> rfl
  rw [hs, hf, hd, tb_ones]
  by_cases q : i < n
  ·rw [decide_eq_true q]; simp
  ·have : tb a i = tb z i := by
    obtain ⟨k, rfl⟩ : ∃ k, i = n + k := ⟨i - n, by simp_all⟩
    unfold tb
    rw [Int.pow_add, ← Int.ediv_ediv_of_nonneg (by solve_by_elim (maxDepth := 3) [Int.le_trans, Int.lt_of_le_of_lt, Int.lt_of_lt_of_le, Int.lt_trans, Int.le_of_lt, Int.not_le_of_gt, Int.not_lt_of_ge]), ← Int.ediv_ediv_of_nonneg (by solve_by_elim (maxDepth := 3) [Int.le_trans, Int.lt_of_le_of_lt, Int.lt_of_lt_of_le, Int.lt_trans, Int.le_of_lt, Int.not_le_of_gt, Int.not_lt_of_ge]), hz]
   rw [this]
 ·rw [hs]; have := Int.mul_ediv_add_emod a (2 ^ n); have := Int.ediv_nonneg h0 (Int.le_of_lt hn); have := Int.mul_nonneg (Int.le_of_lt hn) this; lia
 ·rw [hf]; lia
end
section
open PySem
theorem sgn_split (k : Nat) (u : Int) : sgnZ ((k + 1 : Nat) : Int) u = u % 2 ^ k - (if tb u k then 2 ^ k else 0) := by
 unfold sgnZ
 rw [wrap_eq, show (((k + 1 : Nat) : Int) - 1).toNat = k by simp_all, Int.toNat_natCast]
 have hk := p2 k
 have hk1 := p2 (k + 1)
 rw [Int.fdiv_eq_ediv_of_nonneg _ (by solve_by_elim (maxDepth := 3) [Int.le_trans, Int.lt_of_le_of_lt, Int.lt_of_lt_of_le, Int.lt_trans, Int.le_of_lt, Int.not_le_of_gt, Int.not_lt_of_ge])]
 have e2 : (2 : Int) ^ (k + 1) = 2 * 2 ^ k := by rw [Int.pow_succ, Int.mul_comm]
 have hm : u % 2 ^ (k + 1) % 2 ^ k = u % 2 ^ k := by rw [e2]; exact Int.emod_emod_of_dvd u ⟨2, by rw [Int.mul_comm]⟩
 have hb : tb u k = tb (u % 2 ^ (k + 1)) k := by rw [tb_mod, decide_eq_true (by simp_all), Bool.true_and]
 have h0 := mod_nonneg u (k + 1)
 have h1 := mod_lt u (k + 1)
 rw [hb, ← hm]
 generalize u % 2 ^ (k + 1) = y at h0 h1 ⊢
 unfold tb
 rw [e2] at h1 ⊢
 generalize (2 : Int) ^ k = B at hk h1 ⊢
 by_cases q : y < B
 ·rw [Int.ediv_eq_zero_of_lt h0 q, Int.emod_eq_of_lt h0 q]; simp
 ·have e : y / B = 1 := ediv_split hk (by simp_all) (by lia)
  have e3 : y % B = y - B := by
   have := Int.mul_ediv_add_emod y B
   rw [e] at this; lia
  rw [e, e3]; simp; lia
theorem sgn64_split (u : Int) : sgnZ 64 u = u % 2 ^ 63 - (if tb u 63 then 2 ^ 63 else 0) := sgn_split 63 u
theorem sgn32_split (u : Int) : sgnZ 32 u = u % 2 ^ 31 - (if tb u 31 then 2 ^ 31 else 0) := sgn_split 31 u
theorem sgn64_num (u : Int) : sgnZ 64 u = if 9223372036854775808 ≤ u % 18446744073709551616 then u % 18446744073709551616 - 18446744073709551616 else u % 18446744073709551616 := by
 rw [sgn64_split]
 unfold tb
 rw [show (2 : Int) ^ 63 = 9223372036854775808 by decide]
 by_cases h : u / 9223372036854775808 % 2 = 1
 ·rw [decide_eq_true h, if_pos rfl, if_pos (by lia)]; lia
 ·rw [decide_eq_false h, if_neg (by decide), if_neg (by lia)]; lia
theorem sgn32_num (u : Int) : sgnZ 32 u = if 2147483648 ≤ u % 4294967296 then u % 4294967296 - 4294967296 else u % 4294967296 := by
 rw [sgn32_split]
 unfold tb
 rw [show (2 : Int) ^ 31 = 2147483648 by decide]
 by_cases h : u / 2147483648 % 2 = 1
 ·rw [decide_eq_true h, if_pos rfl, if_pos (by lia)]; lia
 ·rw [decide_eq_false h, if_neg (by decide), if_neg (by lia)]; lia
theorem wrap64_num (x : Int) : wrapZ 64 x = x % 18446744073709551616 := wrap64 x
theorem wrap32_num (x : Int) : wrapZ 32 x = x % 4294967296 := wrap32 x
theorem sgn32_wrap (z : Int) : sgnZ 32 (wrapZ 32 z) = sgnZ 32 z := by
 have e : z % 4294967296 % 4294967296 = z % 4294967296 := by simp_all
 rw [sgn32_num, sgn32_num, wrap32_num, e]
section
variable {v w z : Int}
theorem sgn_least (g : gam v w z) (k : Nat) : sgnZ ((k + 1 : Nat) : Int) (Builtin.bitOr v (Builtin.bitAnd w (2 ^ k))) ≤ sgnZ ((k + 1 : Nat) : Int) z := by
 rw [sgn_split, sgn_split]
 have hL : ∀ j, tb (Builtin.bitOr v (Builtin.bitAnd w (2 ^ k))) j = (tb v j || (tb w j && decide (j = k))) := fun j => by rw [tb_or, tb_and, tb_pow]
 have h1 : Builtin.bitOr v (Builtin.bitAnd w (2 ^ k)) % 2 ^ k ≤ z % 2 ^ k := mod_le fun j hj q => by
  rw [hL, decide_eq_false (by lia), Bool.and_false, Bool.or_false] at q
  exact (gam_sub g q).1
 have hk := p2 k
 have h2 : tb z k = true → tb (Builtin.bitOr v (Builtin.bitAnd w (2 ^ k))) k = true := fun q => by
  rw [hL, decide_eq_true rfl, Bool.and_true]
  rcases gam_up g q with h | h <;> simp [h]
 cases hz : tb z k with
 | true => rw [h2 hz]; simp; omega
 | false => cases tb (Builtin.bitOr v (Builtin.bitAnd w (2 ^ k))) k <;> simp <;> omega
theorem sgn_most (g : gam v w z) (k : Nat) : sgnZ ((k + 1 : Nat) : Int) z ≤ sgnZ ((k + 1 : Nat) : Int) (Builtin.bitOr v (Builtin.bitAnd w (2 ^ k - 1))) := by
 rw [sgn_split, sgn_split]
 have hL : ∀ j, tb (Builtin.bitOr v (Builtin.bitAnd w (2 ^ k - 1))) j = (tb v j || (tb w j && decide (j < k))) := fun j => by rw [tb_or, tb_and, tb_ones]
 have h1 : z % 2 ^ k ≤ Builtin.bitOr v (Builtin.bitAnd w (2 ^ k - 1)) % 2 ^ k := mod_le fun j hj q => by
  rw [hL, decide_eq_true hj, Bool.and_true]
  rcases gam_up g q with h | h <;> simp [h]
 have hk := p2 k
 have h2 : tb (Builtin.bitOr v (Builtin.bitAnd w (2 ^ k - 1))) k = true → tb z k = true := fun q => by
  rw [hL, decide_eq_false (by simp_all), Bool.and_false, Bool.or_false] at q
  exact (gam_sub g q).1
 cases hz : tb (Builtin.bitOr v (Builtin.bitAnd w (2 ^ k - 1))) k with
 | true => rw [h2 hz]; simp; omega
 | false => cases tb z k <;> simp <;> omega
end
structure InM (v w : Int) (x : En) (z : Int) : Prop where
 z0 : 0 ≤ z
 z1 : z < 18446744073709551616
 g : gam v w z
 a : x.a ≤ z
 b : z ≤ x.b
 d : x.d ≤ sgnZ 64 z
 e : sgnZ 64 z ≤ x.e
 f : x.f ≤ z % 4294967296
 g' : z % 4294967296 ≤ x.g
 h : x.h ≤ sgnZ 32 z
 i : sgnZ 32 z ≤ x.i
structure EnOK (x : En) : Prop where
 a : 0 ≤ x.a
 b : x.b < 18446744073709551616
 d : -9223372036854775808 ≤ x.d
 e : x.e < 9223372036854775808
 f : 0 ≤ x.f
 g : x.g < 4294967296
 h : -2147483648 ≤ x.h
 i : x.i < 2147483648
structure Shr (x y : En) : Prop where
 d : x.d ≤ y.d
 e : y.e ≤ x.e
theorem Shr.refl (x : En) : Shr x x := ⟨Int.le_refl _, Int.le_refl _⟩
theorem Shr.trans {x y z : En} (p : Shr x y) (q : Shr y z) : Shr x z := ⟨Int.le_trans p.d q.d, Int.le_trans q.e p.e⟩
structure Good (Z : Int → Prop) (v w : Int) (x : En) : Prop where
 v0 : 0 ≤ v
 w0 : 0 ≤ w
 ok : EnOK x
 mem : ∀ z, Z z → InM v w x z
noncomputable def Step (Z : Int → Prop) (v w : Int) (F : En → En) : Prop := ∀ x, Good Z v w x → Good Z v w (F x) ∧ Shr x (F x)
theorem mxL {a x y : Int} (h : a ≤ x) : a ≤ max x y := Int.le_trans h (Int.le_max_left _ _)
theorem mnL {b x y : Int} (h : x < b) : min x y < b := Int.lt_of_le_of_lt (Int.min_le_left _ _) h
theorem mxB {z x y : Int} (h : x ≤ z) (h2 : y ≤ z) : max x y ≤ z := Int.max_le.mpr ⟨h, h2⟩
theorem mnB {z x y : Int} (h : z ≤ x) (h2 : z ≤ y) : z ≤ min x y := Int.le_min.mpr ⟨h, h2⟩
theorem bits_step (Z : Int → Prop) (hZ : ∃ z, Z z) (v w : Int) : Step Z v w (bitsE v w) := fun x G => by
 have low : ∀ u : Int, Builtin.bitAnd u 4294967295 = u % 4294967296 := fun u => low32_eq u
 obtain ⟨o1, o2, o3, o4, o5, o6, o7, o8⟩ := G.ok
 refine ⟨⟨G.v0, G.w0, ⟨mxL o1, mnL o2, mxL o3, mnL o4, mxL o5, mnL o6, mxL o7, mnL o8⟩, fun z hz => ?_⟩, ⟨mxL (Int.le_refl _), Int.min_le_left _ _⟩⟩
 obtain ⟨m1, m2, m3, m4, m5, m6, m7, m8, m9, m10, m11⟩ := G.mem z hz
 have l1 : v ≤ z := le_of_tb G.v0 m1 fun i q => (gam_sub m3 q).1
 have l2 : z ≤ Builtin.bitOr v w := le_of_tb m1 (or_nonneg G.v0 G.w0) fun i q => by rw [tb_or]; rcases gam_up m3 q with h | h <;> simp [h]
 have l7 : Builtin.bitAnd v 4294967295 ≤ z % 4294967296 := by rw [low]; exact mod_lo m3 32
 have l8 : z % 4294967296 ≤ Builtin.bitAnd (Builtin.bitOr v w) 4294967295 := by
  rw [low]; exact mod_le (i := 32) fun j _ q => by rw [tb_or]; rcases gam_up m3 q with h | h <;> simp [h]
 exact ⟨m1, m2, m3, mxB m4 l1, mnB m5 l2, mxB m6 (sgn_least m3 63), mnB m7 (sgn_most m3 63), mxB m8 l7, mnB m9 l8, mxB m10 (sgn_least m3 31), mnB m11 (sgn_most m3 31)⟩
end
section
open PySem
section
variable {Z : Int → Prop} {v w : Int}
noncomputable def Sg (H u t : Int) : Prop := (H ≤ u ∧ t = u - 2 * H) ∨ (u < H ∧ t = u)
noncomputable def Wr (H t u : Int) : Prop := (t < 0 ∧ u = t + 2 * H) ∨ (0 ≤ t ∧ u = t)
section
variable {H a b u t p q : Int}
theorem sg_lo (ht : Sg H u t) (hp : Sg H a p) (ha : a ≤ u) (hb : u ≤ b) (k : b < H ∨ H ≤ a) : p ≤ t := by unfold Sg at ht hp; lia
theorem sg_hi (ht : Sg H u t) (hp : Sg H b p) (ha : a ≤ u) (hb : u ≤ b) (k : b < H ∨ H ≤ a) : t ≤ p := by unfold Sg at ht hp; lia
theorem wr_lo (ht : Sg H u t) (hp : Wr H a p) (ha : a ≤ t) (hb : t ≤ b) (h0 : 0 ≤ u) (h1 : u < 2 * H) (k : 0 ≤ a ∨ b < 0) : p ≤ u := by unfold Sg at ht; unfold Wr at hp; lia
theorem wr_hi (ht : Sg H u t) (hp : Wr H b p) (ha : a ≤ t) (hb : t ≤ b) (h0 : 0 ≤ u) (h1 : u < 2 * H) (k : 0 ≤ a ∨ b < 0) : u ≤ p := by unfold Sg at ht; unfold Wr at hp; omega
theorem sg_pos (ht : Sg H u t) (hp : Wr H a p) (ha : a ≤ t) (hb : u ≤ b) (hn : a < 0) (h0 : 0 ≤ u) (h1 : u < 2 * H) (k : b < p) : 0 ≤ t ∧ u = t := by unfold Sg at ht; unfold Wr at hp; omega
theorem sg_neg (ht : Sg H u t) (hp : Wr H q p) (ha : a ≤ u) (hd : q ≤ t) (hb : t ≤ b) (hn : q < 0) (h0 : 0 ≤ u) (h1 : u < 2 * H) (k : b < a) : t ≤ -1 ∧ p ≤ u := by unfold Sg at ht; unfold Wr at hp; lia
theorem sg_bnd (ht : Sg H u t) (h0 : 0 ≤ u) (h1 : u < 2 * H) : -H ≤ t ∧ t < H := by unfold Sg at ht; lia
end
theorem sign_num {s H : Int} {x : En} {u t : Int} (hp : (2 : Int) ^ (s - 1).toNat = H) (hH : 0 < H) (hs : ∀ y, 0 ≤ y → y < 2 * H → Sg H y (sgnZ s y)) (hw : ∀ y, -H ≤ y → y < H → Wr H y (wrapZ s y))
  (ha : x.a ≤ u) (hb : u ≤ x.b) (hd : x.d ≤ t) (he : t ≤ x.e) (h0 : 0 ≤ u) (h1 : u < 2 * H) (ht : Sg H u t) (oa : 0 ≤ x.a) (ob : x.b < 2 * H) (od : -H ≤ x.d) (oe : x.e < H) :
  ((signE s x).a ≤ u ∧ u ≤ (signE s x).b ∧ (signE s x).d ≤ t ∧ t ≤ (signE s x).e) ∧ (0 ≤ (signE s x).a ∧ (signE s x).b < 2 * H ∧ -H ≤ (signE s x).d ∧ (signE s x).e < H) ∧ x.d ≤ (signE s x).d ∧ (signE s x).e ≤ x.e := by
 have s1 : ∀ y, y = (if decide (x.b < 2 ^ (s - 1).toNat) || decide (2 ^ (s - 1).toNat ≤ x.a) then sg1 s x else x) → (y.a = x.a ∧ y.b = x.b ∧ x.d ≤ y.d ∧ y.e ≤ x.e ∧ y.d ≤ t ∧ t ≤ y.e) := fun y hy => by
  rw [hp] at hy
  by_cases q : (decide (x.b < H) || decide (H ≤ x.a)) = true
  ·rw [if_pos q] at hy
   subst hy
   simp only [Bool.or_eq_true, decide_eq_true_eq] at q
   exact ⟨rfl, rfl, Int.le_max_left _ _, Int.min_le_left _ _, mxB hd (sg_lo ht (hs x.a oa (Int.lt_of_le_of_lt ha h1)) ha hb q), mnB he (sg_hi ht (hs x.b (Int.le_trans h0 hb) ob) ha hb q)⟩
  ·rw [if_neg q] at hy; subst hy; exact ⟨rfl, rfl, Int.le_refl _, Int.le_refl _, hd, he⟩
 unfold signE
 generalize hy : (if decide (x.b < 2 ^ (s - 1).toNat) || decide (2 ^ (s - 1).toNat ≤ x.a) then sg1 s x else x) = y
 obtain ⟨y1, y2, y3, y4, y5, y6⟩ := s1 y hy.symm
 obtain ⟨t1, t2⟩ := sg_bnd ht h0 h1
 have od' : -H ≤ y.d := Int.le_trans od y3
 have oe' : y.e < H := Int.lt_of_le_of_lt y4 oe
 have e1 := hw y.d od' (Int.lt_of_le_of_lt y5 t2)
 have e2 := hw y.e (Int.le_trans t1 y6) oe'
 have a1 : y.a ≤ u := y1 ▸ ha
 have b1 : u ≤ y.b := y2 ▸ hb
 have oa' : 0 ≤ y.a := y1 ▸ oa
 have ob' : y.b < 2 * H := y2 ▸ ob
 unfold sg2
 split
 ·rename_i q
  simp only [Bool.or_eq_true, decide_eq_true_eq] at q
  exact ⟨⟨mxB a1 (wr_lo ht e1 y5 y6 h0 h1 q), mnB b1 (wr_hi ht e2 y5 y6 h0 h1 q), y5, y6⟩, ⟨mxL oa', mnL ob', od', oe'⟩, y3, y4⟩
 ·rename_i q
  simp only [Bool.or_eq_true, decide_eq_true_eq, not_or, Int.not_le] at q
  split
  ·rename_i q2
   simp only [decide_eq_true_eq] at q2
   have k := sg_pos ht e1 y5 b1 q.1 h0 h1 q2
   exact ⟨⟨a1, mnB b1 (k.2 ▸ y6), k.1, y6⟩, ⟨oa', mnL ob', Int.le_trans (Int.le_of_lt (Int.neg_neg_of_pos hH)) (Int.le_refl 0), oe'⟩, Int.le_trans y3 (Int.le_of_lt q.1), y4⟩
  ·rename_i q2
   split
   ·rename_i q3
    simp only [decide_eq_true_eq] at q3
    have k := sg_neg ht e1 a1 y5 y6 q.1 h0 h1 q3
    exact ⟨⟨mxB a1 k.2, b1, y5, k.1⟩, ⟨mxL oa', ob', od', Int.lt_trans (by decide : (-1 : Int) < 0) hH⟩, y3, Int.le_trans (by decide : (-1 : Int) ≤ 0) (Int.le_trans (Int.not_lt.mp q.2) y4)⟩
   ·exact ⟨⟨a1, b1, y5, y6⟩, ⟨oa', ob', od', oe'⟩, y3, y4⟩
theorem if_sg {H u t : Int} (ht : t = if H ≤ u then u - 2 * H else u) : Sg H u t := by
 by_cases h : H ≤ u
 ·rw [if_pos h] at ht; exact .inl ⟨h, ht⟩
 ·rw [if_neg h] at ht; exact .inr ⟨Int.not_le.mp h, ht⟩
theorem sgn64_c {y : Int} (h0 : 0 ≤ y) (h1 : y < 2 * 9223372036854775808) : Sg 9223372036854775808 y (sgnZ 64 y) := by
 have e : y % 18446744073709551616 = y := Int.emod_eq_of_lt h0 h1
 rw [sgn64_num, e]; exact if_sg rfl
theorem sgn32_c {y : Int} (h0 : 0 ≤ y) (h1 : y < 2 * 2147483648) : Sg 2147483648 y (sgnZ 32 y) := by
 have e : y % 4294967296 = y := Int.emod_eq_of_lt h0 h1
 rw [sgn32_num, e]; exact if_sg rfl
theorem wrap64_c {y : Int} (h0 : -9223372036854775808 ≤ y) (h1 : y < 9223372036854775808) : Wr 9223372036854775808 y (wrapZ 64 y) := by rw [wrap64_num]; unfold Wr; lia
theorem wrap32_c {y : Int} (h0 : -2147483648 ≤ y) (h1 : y < 2147483648) : Wr 2147483648 y (wrapZ 32 y) := by rw [wrap32_num]; unfold Wr; lia
theorem sign64_num {x : En} {u t : Int} (ha : x.a ≤ u) (hb : u ≤ x.b) (hd : x.d ≤ t) (he : t ≤ x.e) (h0 : 0 ≤ u) (h1 : u < 18446744073709551616) (ht : t = if 9223372036854775808 ≤ u then u - 18446744073709551616 else u)
  (oa : 0 ≤ x.a) (ob : x.b < 18446744073709551616) (od : -9223372036854775808 ≤ x.d) (oe : x.e < 9223372036854775808) :
  ((signE 64 x).a ≤ u ∧ u ≤ (signE 64 x).b ∧ (signE 64 x).d ≤ t ∧ t ≤ (signE 64 x).e) ∧ (0 ≤ (signE 64 x).a ∧ (signE 64 x).b < 18446744073709551616 ∧ -9223372036854775808 ≤ (signE 64 x).d ∧ (signE 64 x).e < 9223372036854775808) ∧ x.d ≤ (signE 64 x).d ∧ (signE 64 x).e ≤ x.e :=
 sign_num (H := 9223372036854775808) (by decide) (by decide) (fun y => sgn64_c) (fun y => wrap64_c) ha hb hd he h0 h1 (if_sg ht) oa ob od oe
theorem sign32_num {x : En} {u t : Int} (ha : x.a ≤ u) (hb : u ≤ x.b) (hd : x.d ≤ t) (he : t ≤ x.e) (h0 : 0 ≤ u) (h1 : u < 4294967296) (ht : t = if 2147483648 ≤ u then u - 4294967296 else u)
  (oa : 0 ≤ x.a) (ob : x.b < 4294967296) (od : -2147483648 ≤ x.d) (oe : x.e < 2147483648) :
  ((signE 32 x).a ≤ u ∧ u ≤ (signE 32 x).b ∧ (signE 32 x).d ≤ t ∧ t ≤ (signE 32 x).e) ∧ (0 ≤ (signE 32 x).a ∧ (signE 32 x).b < 4294967296 ∧ -2147483648 ≤ (signE 32 x).d ∧ (signE 32 x).e < 2147483648) := by
 have h := sign_num (H := 2147483648) (s := 32) (x := x) (u := u) (t := t) (by decide) (by decide) (fun y => sgn32_c) (fun y => wrap32_c) ha hb hd he h0 h1 (if_sg ht) oa ob od oe
 exact ⟨h.1, h.2.1⟩
theorem sign_keep (s : Int) (x : En) : (signE s x).f = x.f ∧ (signE s x).g = x.g ∧ (signE s x).h = x.h ∧ (signE s x).i = x.i := by
 have h2 : ∀ y : En, (sg2 s y).f = y.f ∧ (sg2 s y).g = y.g ∧ (sg2 s y).h = y.h ∧ (sg2 s y).i = y.i := fun y => by
  unfold sg2
  split
  ·exact ⟨rfl, rfl, rfl, rfl⟩
  ·split
   ·exact ⟨rfl, rfl, rfl, rfl⟩
   ·split <;> exact ⟨rfl, rfl, rfl, rfl⟩
 unfold signE
 obtain ⟨a, b, c, d⟩ := h2 (if decide (x.b < 2 ^ (s - 1).toNat) || decide (2 ^ (s - 1).toNat ≤ x.a) then sg1 s x else x)
 rw [a, b, c, d]
 split <;> exact ⟨rfl, rfl, rfl, rfl⟩
theorem sgn64_of {z : Int} (h0 : 0 ≤ z) (h1 : z < 18446744073709551616) : sgnZ 64 z = if 9223372036854775808 ≤ z then z - 18446744073709551616 else z := by
 rw [sgn64_num, Int.emod_eq_of_lt h0 h1]
theorem s64_step (hZ : ∃ z, Z z) : Step Z v w s64 := fun x G => by
 obtain ⟨o1, o2, o3, o4, o5, o6, o7, o8⟩ := G.ok
 have one : ∀ z, Z z → _ := fun z hz => (let M := G.mem z hz; sign64_num M.a M.b M.d M.e M.z0 M.z1 (sgn64_of M.z0 M.z1) o1 o2 o3 o4)
 obtain ⟨k1, k2, k3, k4⟩ := sign_keep 64 x
 obtain ⟨z0, hz0⟩ := hZ
 obtain ⟨_, ⟨q1, q2, q3, q4⟩, q5, q6⟩ := one z0 hz0
 refine ⟨⟨G.v0, G.w0, ⟨q1, q2, q3, q4, by show 0 ≤ (signE 64 x).f; simp_all, by show (signE 64 x).g < _; simp_all, by show _ ≤ (signE 64 x).h; simp_all, by show (signE 64 x).i < _; simp_all⟩, fun z hz => ?_⟩, ⟨q5, q6⟩⟩
 obtain ⟨⟨p1, p2, p3, p4⟩, _⟩ := one z hz
 have M := G.mem z hz
 exact ⟨M.z0, M.z1, M.g, p1, p2, p3, p4, by show (signE 64 x).f ≤ _; rw [k1]; exact M.f, by show _ ≤ (signE 64 x).g; rw [k2]; exact M.g', by show (signE 64 x).h ≤ _; rw [k3]; exact M.h, by show _ ≤ (signE 64 x).i; rw [k4]; exact M.i⟩
theorem s32_step (hZ : ∃ z, Z z) : Step Z v w s32 := fun x G => by
 obtain ⟨o1, o2, o3, o4, o5, o6, o7, o8⟩ := G.ok
 have one : ∀ z, Z z → _ := fun z hz => (let M := G.mem z hz; sign32_num (x := x.lo) (u := z % 4294967296) (t := sgnZ 32 z) M.f M.g' M.h M.i (by lia) (by lia) (sgn32_num z) o5 o6 o7 o8)
 obtain ⟨k1, k2, k3, k4⟩ := sign_keep 32 x.lo
 obtain ⟨z0, hz0⟩ := hZ
 obtain ⟨_, ⟨q1, q2, q3, q4⟩⟩ := one z0 hz0
 have e1 : (s32 x).a = x.a := k1
 have e2 : (s32 x).b = x.b := k2
 have e3 : (s32 x).d = x.d := k3
 have e4 : (s32 x).e = x.e := k4
 refine ⟨⟨G.v0, G.w0, ⟨by simp_all, by simp_all, by simp_all, by simp_all, q1, q2, q3, q4⟩, fun z hz => ?_⟩, ⟨by simp_all, by simp_all⟩⟩
 obtain ⟨⟨p1, p2, p3, p4⟩, _⟩ := one z hz
 have M := G.mem z hz
 exact ⟨M.z0, M.z1, M.g, e1 ▸ M.a, e2 ▸ M.b, e3 ▸ M.d, e4 ▸ M.e, p1, p2, p3, p4⟩
theorem shr_num (x : Int) : shr32 x = x / 4294967296 := by unfold shr32; rw [Int.fdiv_eq_ediv_of_nonneg _ (by decide)]; rfl
theorem low_num (x : Int) : low32 x = x % 4294967296 := low32_eq x
theorem low_between {a b z : Int} (h1 : a ≤ z) (h2 : z ≤ b) (e : a / 4294967296 = b / 4294967296) : a % 4294967296 ≤ z % 4294967296 ∧ z % 4294967296 ≤ b % 4294967296 := by lia
theorem sgn_low {z : Int} (h0 : 0 ≤ z) (h1 : z < 18446744073709551616) : sgnZ 64 z % 4294967296 = z % 4294967296 := by rw [sgn64_of h0 h1]; split <;> lia
theorem sgn_same {z : Int} (h0 : 0 ≤ z) (h1 : z < 18446744073709551616) (a : -2147483648 ≤ sgnZ 64 z) (b : sgnZ 64 z ≤ 2147483647) : sgnZ 32 z = sgnZ 64 z := by
 rw [sgn64_of h0 h1] at a b ⊢
 rw [sgn32_num]
 split at a <;> split <;> lia
theorem hw_step (hZ : ∃ z, Z z) : Step Z v w hwE := fun x G => by
 have A : Step Z v w hwA := fun x G => by
  obtain ⟨o1, o2, o3, o4, o5, o6, o7, o8⟩ := G.ok
  unfold hwA
  split
  ·rename_i q
   have q := beq_iff_eq.mp q
   rw [shr_num, shr_num] at q
   rw [low_num, low_num]
   refine ⟨⟨G.v0, G.w0, ⟨o1, o2, o3, o4, mxL o5, mnL o6, o7, o8⟩, fun z hz => ?_⟩, ⟨Int.le_refl _, Int.le_refl _⟩⟩
   obtain ⟨m1, m2, m3, m4, m5, m6, m7, m8, m9, m10, m11⟩ := G.mem z hz
   have k := low_between m4 m5 q
   exact ⟨m1, m2, m3, m4, m5, m6, m7, mxB m8 k.1, mnB m9 k.2, m10, m11⟩
  ·exact ⟨G, .refl _⟩
 have Bs : Step Z v w hwB := fun x G => by
  obtain ⟨o1, o2, o3, o4, o5, o6, o7, o8⟩ := G.ok
  unfold hwB
  split
  ·rename_i q
   have q := beq_iff_eq.mp q
   rw [shr_num, shr_num] at q
   rw [low_num, low_num]
   refine ⟨⟨G.v0, G.w0, ⟨o1, o2, o3, o4, mxL o5, mnL o6, o7, o8⟩, fun z hz => ?_⟩, ⟨Int.le_refl _, Int.le_refl _⟩⟩
   obtain ⟨m1, m2, m3, m4, m5, m6, m7, m8, m9, m10, m11⟩ := G.mem z hz
   have k := low_between m6 m7 q
   rw [sgn_low m1 m2] at k
   exact ⟨m1, m2, m3, m4, m5, m6, m7, mxB m8 k.1, mnB m9 k.2, m10, m11⟩
  ·exact ⟨G, .refl _⟩
 have Cs : Step Z v w hwC := fun x G => by
  obtain ⟨o1, o2, o3, o4, o5, o6, o7, o8⟩ := G.ok
  unfold hwC
  split
  ·rename_i q
   simp only [Bool.and_eq_true, decide_eq_true_eq] at q
   refine ⟨⟨G.v0, G.w0, ⟨o1, o2, o3, o4, o5, o6, mxL o7, mnL o8⟩, fun z hz => ?_⟩, ⟨Int.le_refl _, Int.le_refl _⟩⟩
   obtain ⟨m1, m2, m3, m4, m5, m6, m7, m8, m9, m10, m11⟩ := G.mem z hz
   have e := sgn_same m1 m2 (Int.le_trans q.1 m6) (Int.le_trans m7 q.2)
   exact ⟨m1, m2, m3, m4, m5, m6, m7, m8, m9, mxB m10 (e.symm ▸ m6), mnB m11 (e.symm ▸ m7)⟩
  ·exact ⟨G, .refl _⟩
 obtain ⟨g1, r1⟩ := A x G
 obtain ⟨g2, r2⟩ := Bs _ g1
 obtain ⟨g3, r3⟩ := Cs _ g2
 exact ⟨g3, (r1.trans r2).trans r3⟩
theorem lw_num {x low top u : Int} (h : x ≤ u) (h1 : low ≤ u % 4294967296) (h2 : u % 4294967296 ≤ top) : lwZ x low top ≤ u := by
 unfold lwZ
 rw [low_num, shr_num, show (2 : Int) ^ (32 : Int).toNat = 4294967296 by decide]
 split
 ·rename_i q; simp only [decide_eq_true_eq] at q; lia
 ·rename_i q; simp only [decide_eq_true_eq] at q; lia
theorem lw_ge {x low top : Int} (h : 0 ≤ low) : x ≤ lwZ x low top := by
 unfold lwZ
 rw [low_num, shr_num, show (2 : Int) ^ (32 : Int).toNat = 4294967296 by decide]
 split <;> lia
theorem mw_num {x low top u : Int} (h : u ≤ x) (h1 : low ≤ u % 4294967296) (h2 : u % 4294967296 ≤ top) : u ≤ mwZ x low top := by
 unfold mwZ
 rw [low_num, shr_num, show (2 : Int) ^ (32 : Int).toNat = 4294967296 by decide]
 split
 ·rename_i q; simp only [decide_eq_true_eq] at q; lia
 ·rename_i q; simp only [decide_eq_true_eq] at q; lia
theorem mw_le {x low top : Int} (h : top < 4294967296) : mwZ x low top ≤ x := by
 unfold mwZ
 rw [low_num, shr_num, show (2 : Int) ^ (32 : Int).toNat = 4294967296 by decide]
 split <;> lia
theorem wh_step (hZ : ∃ z, Z z) : Step Z v w (fun x => wholeB (whA x)) := fun x G => by
 have A : Step Z v w whA := fun x G => by
  obtain ⟨o1, o2, o3, o4, o5, o6, o7, o8⟩ := G.ok
  have l1 := lw_ge (x := x.a) (top := x.g) o5
  have l2 := mw_le (x := x.b) (low := x.f) o6
  have l3 := lw_ge (x := x.d) (top := x.g) o5
  have l4 := mw_le (x := x.e) (low := x.f) o6
  refine ⟨⟨G.v0, G.w0, ⟨Int.le_trans o1 l1, Int.lt_of_le_of_lt l2 o2, Int.le_trans o3 l3, Int.lt_of_le_of_lt l4 o4, o5, o6, o7, o8⟩, fun z hz => ?_⟩, ⟨l3, l4⟩⟩
  obtain ⟨m1, m2, m3, m4, m5, m6, m7, m8, m9, m10, m11⟩ := G.mem z hz
  have e := sgn_low m1 m2
  exact ⟨m1, m2, m3, lw_num m4 m8 m9, mw_num m5 m8 m9, lw_num m6 (e ▸ m8) (e ▸ m9), mw_num m7 (e ▸ m8) (e ▸ m9), m8, m9, m10, m11⟩
 have Bs : Step Z v w wholeB := fun x G => by
  obtain ⟨o1, o2, o3, o4, o5, o6, o7, o8⟩ := G.ok
  unfold wholeB
  split
  ·rename_i q
   simp only [Bool.and_eq_true, decide_eq_true_eq] at q
   refine ⟨⟨G.v0, G.w0, ⟨o1, o2, mxL o3, mnL o4, o5, o6, o7, o8⟩, fun z hz => ?_⟩, ⟨mxL (Int.le_refl _), Int.min_le_left _ _⟩⟩
   obtain ⟨m1, m2, m3, m4, m5, m6, m7, m8, m9, m10, m11⟩ := G.mem z hz
   have e := sgn_same m1 m2 (Int.le_trans q.1 m6) (Int.le_trans m7 q.2)
   exact ⟨m1, m2, m3, m4, m5, mxB m6 (e ▸ m10), mnB m7 (e ▸ m11), m8, m9, m10, m11⟩
  ·exact ⟨G, .refl _⟩
 obtain ⟨g1, r1⟩ := A x G
 obtain ⟨g2, r2⟩ := Bs _ g1
 exact ⟨g2, r1.trans r2⟩
end
end
section
open PySem PySem.W PyProof.Rows PySem.Calls
noncomputable def notIn {β : Type} (p q : Bool) (RET REST : T β) : T β := .ite p (.ite (!q) (.ite true RET REST) (.ite false RET REST)) (.ite (!false) (.ite true RET REST) (.ite false RET REST))
theorem notIn_all {β : Type} {A B : T β} {K : β → Prop} {KX : AV → Mem → Prop} : ∀ {p q : Bool}, ((p && q) = false → A.All K KX) → ((p && q) = true → B.All K KX) → (notIn p q A B).All K KX
 | true, true, _, h => .yes (.no (.no (h rfl)))
 | true, false, h, _ => .yes (.yes (.yes (h rfl)))
 | false, _, h, _ => .no (.yes (.yes (h rfl)))
noncomputable def orNot {β : Type} (p : Bool) (A X B : T β) : T β := .ite (!p) (.ite true A X) B
theorem orNot_all {β : Type} {A X B : T β} {K : β → Prop} {KX : AV → Mem → Prop} : ∀ {p : Bool}, (p = false → A.All K KX) → (p = true → B.All K KX) → (orNot p A X B).All K KX
 | true, _, h => .no (h rfl)
 | false, h, _ => .yes (.yes (h rfl))
noncomputable def orNot2 {β : Type} (p q : Bool) (A X B : T β) : T β := .ite p (orNot q A X B) (orNot false A X B)
theorem orNot2_all {β : Type} {A X B : T β} {K : β → Prop} {KX : AV → Mem → Prop} : ∀ {p q : Bool}, ((p && q) = false → A.All K KX) → ((p && q) = true → B.All K KX) → (orNot2 p q A X B).All K KX
 | true, _, h, h2 => .yes (orNot_all h h2)
 | false, _, h, h2 => .no (orNot_all h h2)
section
variable {c : Cx} {n : Nat}
noncomputable def containsB (v w : Int) (x : En) (z : Int) : Bool := (z - Builtin.bitAnd z w == v) && (decide (x.a ≤ z) && decide (z ≤ x.b)) && (decide (x.d ≤ sgnZ 64 z) && decide (sgnZ 64 z ≤ x.e)) && (decide (x.f ≤ wrapZ 32 z) && decide (wrapZ 32 z ≤ x.g)) && (decide (x.h ≤ sgnZ 32 (wrapZ 32 z)) && decide (sgnZ 32 (wrapZ 32 z) ≤ x.i))
noncomputable def scontS : FSem := orSh (shSc (.int .nil)) (fun t m => .leaf (.bool (containsB t.1.1.1 t.1.1.2.1 (toEn t.1.2) t.2.1), m)) offS
noncomputable def scT (p b1 b2 c1 c2 d1 d2 e1 e2 : Bool) (m : Mem) : T (AV × Mem) :=
 let F : T (AV × Mem) := .leaf (.bool false, m)
 let t3 : T (AV × Mem) := .ite e1 (.leaf (.bool e2, m)) (.leaf (.bool e1, m))
 let t2 := orNot2 c1 c2 F t3 (notIn d1 d2 F t3)
 orNot p F t2 (notIn b1 b2 F t2)
theorem scT_imp (p b1 b2 c1 c2 d1 d2 e1 e2 : Bool) (m : Mem) : Imp (.leaf (AV.bool (p && (b1 && b2) && (c1 && c2) && (d1 && d2) && (e1 && e2)), m)) (scT p b1 b2 c1 c2 d1 d2 e1 e2 m) := by
 generalize hb : (b1 && b2) = b
 generalize hc : (c1 && c2) = c
 generalize hd : (d1 && d2) = d
 intro K KX h
 have h : K (.bool (p && b && c && d && (e1 && e2)), m) := h
 refine orNot_all (fun q => ?_) fun q => notIn_all (fun q1 => ?_) fun q1 => orNot2_all (fun q2 => ?_) fun q2 => notIn_all (fun q3 => ?_) fun q3 => ⟨fun q4 => ?_, fun q4 => ?_⟩
 ·rw [q] at h; exact h
 ·rw [hb] at q1; rw [q, q1] at h; exact h
 ·rw [hb] at q1; rw [hc] at q2; rw [q, q1, q2] at h; exact h
 ·rw [hb] at q1; rw [hc] at q2; rw [hd] at q3; rw [q, q1, q2, q3] at h; exact h
 ·rw [hb] at q1; rw [hc] at q2; rw [hd] at q3; rw [q, q1, q2, q3, q4] at h; exact h
 ·rw [hb] at q1; rw [hc] at q2; rw [hd] at q3; rw [q, q1, q2, q3, q4] at h; rw [q4]; exact h
noncomputable def scTz (v w : Int) (x : En) (z : Int) (m : Mem) : T (AV × Mem) := scT (z - Builtin.bitAnd z w == v) (decide (x.a ≤ z)) (decide (z ≤ x.b)) (decide (x.d ≤ sgnZ 64 z)) (decide (sgnZ 64 z ≤ x.e)) (decide (x.f ≤ wrapZ 32 z)) (decide (wrapZ 32 z ≤ x.g)) (decide (x.h ≤ sgnZ 32 (wrapZ 32 z))) (decide (sgnZ 32 (wrapZ 32 z) ≤ x.i)) m
theorem scont_ok (O : ObjInt c) : FnOK c 2 (.ref 328) scontS := PureK.ok (d := dScalar_contains) (fs := [wrapF, signedF, tcontF]) (fuel := 16)
 (.alt (fun t => dScalar_contains_as c _ _) (g := fun t m => scTz t.1.1.1 t.1.1.2.1 (toEn t.1.2) t.2.1 m) (fun t m => scT_imp _ _ _ _ _ _ _ _ _ m) .off) dScalar_contains_ok O (mem1 (wrap_ok (n := 0) O) (mem1 (signed_ok (n := 0) O) (mem1 (tcont_ok O) mem0)))
noncomputable def ofbS : FSem := orSh (shTn .nil) (fun t m => madeC t.1.1 t.1.2.1 (topEn (-9223372036854775808) 9223372036854775807) m) offS
theorem ofb_ok (O : ObjInt c) : FnOK c 7 (.ref 318) ofbS := pureSh dScalar_of_bits dScalar_of_bits_ok O [madeF] (mem1 (made_ok O) mem0) fun t => dScalar_of_bits_as c _
end
structure Sc where
 v : Int
 w : Int
 x : En
noncomputable def Sc.av (s : Sc) : AV := s.x.sc s.v s.w
noncomputable def toSc (t : (shTn sI8).ty) : Sc := ⟨t.1.1, t.1.2.1, toEn t.2⟩
noncomputable def scOf (x : AV) : Option Sc := ((shSc .nil).dec [x]).map fun t => toSc t.1
theorem scOf_some {x : AV} {s : Sc} (h : scOf x = some s) : x = s.av := by
 obtain ⟨t, h1, rfl⟩ := Option.map_eq_some_iff.mp h
 exact (List.cons.inj (Sh.dec_s _ h1)).1
structure Rg where
 k : Str
 o : Int
 s : Sc
 nu : Int
 mn : Int
 re : Int
 ro : Int
 fr : Int
noncomputable def Rg.av (r : Rg) : AV := .obj 486 [.str r.k, .int r.o, r.s.av, .int r.nu, .int r.mn, .int r.re, .int r.ro, .int r.fr]
noncomputable abbrev shR : Sh := .str (.int (shSc (.int (.int (.int (.int (.int .nil)))))))
noncomputable abbrev shRg (r : Sh) : Sh := .obj 486 shR r
noncomputable def toRg (t : shR.ty) : Rg := ⟨t.1, t.2.1, toSc t.2.2.1, t.2.2.2.1, t.2.2.2.2.1, t.2.2.2.2.2.1, t.2.2.2.2.2.2.1, t.2.2.2.2.2.2.2.1⟩
noncomputable def rgOf (x : AV) : Option Rg := ((shRg .nil).dec [x]).map fun t => toRg t.1
theorem rgOf_some {x : AV} {r : Rg} (h : rgOf x = some r) : x = r.av := by
 obtain ⟨t, h1, rfl⟩ := Option.map_eq_some_iff.mp h
 exact (List.cons.inj (Sh.dec_s _ h1)).1
noncomputable def Sc.const (a : Int) : Sc := ⟨wrapZ 64 a, 0, ⟨wrapZ 64 a, wrapZ 64 a, sgnZ 64 (wrapZ 64 a), sgnZ 64 (wrapZ 64 a), wrapZ 32 a, wrapZ 32 a, sgnZ 32 (wrapZ 32 a), sgnZ 32 (wrapZ 32 a)⟩⟩
noncomputable def sconstF : FK × FSem := (.ref 288, sconstS)
section
variable {c : Cx} {n : Nat}
noncomputable def regS : FSem := orSh (.str .nil) (fun t m => .leaf (Rg.av ⟨t.1, 0, .const 0, 0, -1, 0, 0, 0⟩, m)) <|
 orSh (.str (.int .nil)) (fun t m => .leaf (Rg.av ⟨t.1, t.2.1, .const 0, 0, -1, 0, 0, 0⟩, m)) <|
 orSh (.str (.int (shSc .nil))) (fun t m => .leaf (Rg.av ⟨t.1, t.2.1, toSc t.2.2.1, 0, -1, 0, 0, 0⟩, m)) <|
 orSh (.str (.int (shSc (.int .nil)))) (fun t m => .leaf (Rg.av ⟨t.1, t.2.1, toSc t.2.2.1, t.2.2.2.1, -1, 0, 0, 0⟩, m)) <|
 orSh (.str (.int (.none (.int (.int (.int (.int (.int .nil)))))))) (fun t m => .leaf (Rg.av ⟨t.1, t.2.1, .const 0, t.2.2.1, t.2.2.2.1, t.2.2.2.2.1, t.2.2.2.2.2.1, t.2.2.2.2.2.2.1⟩, m)) <|
 orSh shR (fun t m => .leaf ((toRg t).av, m)) offS
noncomputable def regN (r : Rg) (m : Mem) : T (AV × Mem) := .ite false (.leaf (.obj 486 [.str r.k, .int r.o, .none, .int r.nu, .int r.mn, .int r.re, .int r.ro, .int r.fr], m)) (.leaf (r.av, m))
noncomputable def regT (r : Rg) (m : Mem) : T (AV × Mem) := .ite true (.leaf (r.av, m)) (.leaf (Rg.av { r with s := .const 0 }, m))
theorem regN_imp (r : Rg) (m : Mem) : Imp (.leaf (r.av, m)) (regN r m) := imp_false
theorem regT_imp (r : Rg) (m : Mem) : Imp (.leaf (r.av, m)) (regT r m) := imp_true
theorem reg_ok (O : ObjInt c) : FnOK c 5 (.ref 486) regS := ClsK.ok (d := dReg___init__) (fs := [sconstF, scClsF])
 (.alt (fun t => dReg___init___as2 c _ _) (fun t m => regN_imp _ m) <| .alt (fun t => dReg___init___as3 c _ _ _) (fun t m => regN_imp _ m) <|
  .alt (fun t => dReg___init___as4 c _ _ _ _) (fun t m => regT_imp _ m) <| .alt (fun t => dReg___init___as5 c _ _ _ _ _) (fun t m => regT_imp _ m) <|
  .alt (fun t => dReg___init___as9 c _ _ _ _ _ _ _ _ _) (fun t m => regN_imp _ m) <| .alt (fun t => dReg___init___as9 c _ _ _ _ _ _ _ _ _) (fun t m => regT_imp _ m) .off) dReg___init___ok O
 (mem1 (sconst_ok O) (mem1 ((scCls_ok O).le (by decide)) mem0))
noncomputable def regF : FK × FSem := (.ref 486, regS)
end
section
variable {c : Cx} {n : Nat}
noncomputable def rnone : Rg := ⟨S "none", 0, .const 0, 0, -1, 0, 0, 0⟩
noncomputable def noneS : FSem := orSh .nil (fun _ m => .leaf (rnone.av, m)) offS
theorem none_ok (O : ObjInt c) : FnOK c 6 (.ref 497) noneS := pureSh dnone dnone_ok O [regF] (mem1 (reg_ok O) mem0) fun t => dnone_as c
noncomputable def rnum (s : Sc) (nu : Int) : Rg := ⟨S "scalar", 0, s, nu, -1, 0, 0, 0⟩
noncomputable def numS : FSem := orSh (shSc .nil) (fun t m => .leaf ((rnum (toSc t.1) 0).av, m)) offS
theorem num_ok (O : ObjInt c) : FnOK c 6 (.ref 505) numS := pureSh dnumber_reg dnumber_reg_ok O [regF] (mem1 (reg_ok O) mem0) (fun t => dnumber_reg_as1 c _)
noncomputable def cregS : FSem := orSh (.int .nil) (fun (a, _) m => .leaf ((rnum (.const a) 0).av, m)) offS
theorem creg_ok (O : ObjInt c) : FnOK c 6 (.ref 512) cregS := pureSh dconst_reg dconst_reg_ok O [regF, sconstF] (mem1 (reg_ok O) (mem1 ((sconst_ok O).le (by decide)) mem0)) (fun t => dconst_reg_as c _)
noncomputable def Sc.top : Sc := ⟨0, 18446744073709551615, topEn (-9223372036854775808) 9223372036854775807⟩
noncomputable def anyS : FSem := orSh .nil (fun _ m => .leaf ((rnum .top 0).av, m)) offS
theorem any_ok (O : ObjInt c) : FnOK c 6 (.ref 519) anyS := pureSh dany_number dany_number_ok O [regF, sunkF] (mem1 (reg_ok O) (mem1 ((sunk_ok O).le (by decide)) mem0)) fun t => dany_number_as c
noncomputable def rctx : Rg := ⟨S "context", 0, .const 0, 0, -1, 0, 0, 0⟩
noncomputable def ctxS : FSem := orSh .nil (fun _ m => .leaf (rctx.av, m)) offS
theorem ctx_ok (O : ObjInt c) : FnOK c 6 (.ref 526) ctxS := pureSh dcontext_reg dcontext_reg_ok O [regF] (mem1 (reg_ok O) mem0) fun t => dcontext_reg_as c
noncomputable def rstk (o fr : Int) : Rg := ⟨S "stack", o, .const 0, 0, -1, 0, 0, fr⟩
noncomputable def stkS : FSem := orSh (.int (.int .nil)) (fun (o, fr, _) m => .leaf ((rstk o fr).av, m)) offS
theorem stk_ok (O : ObjInt c) : FnOK c 6 (.ref 533) stkS := pureSh dstack_reg dstack_reg_ok O [regF] (mem1 (reg_ok O) mem0) (fun t => dstack_reg_as c _ _)
noncomputable def inSB (k : Str) : List String → Bool
 | [] => false
 | x :: r => (S x == k) || inSB k r
noncomputable def isptrS : FSem := orSh (shRg .nil) (fun t m => .leaf (.bool (!(inSB (toRg t.1).k ["none", "scalar"])), m)) offS
theorem isptr_ok (O : ObjInt c) : FnOK c 1 (.ref 540) isptrS := pureSh dis_pointer dis_pointer_ok O [] mem0 (fun t => dis_pointer_as c _)
noncomputable def sisF : FK × FSem := (.ref 335, sisS)
noncomputable def iscB (r : Rg) : Bool := (r.k == S "scalar") && (r.s.w == 0)
theorem iscB_imp (r : Rg) (m : Mem) : Imp (T.leaf (AV.bool (iscB r), m)) (.ite (r.k == S "scalar") (.leaf (.bool (r.s.w == 0), m)) (.leaf (.bool (r.k == S "scalar"), m))) :=
 Imp.leaf_ite (by unfold iscB; cases hk : (r.k == S "scalar") <;> rfl)
noncomputable def iscS : FSem := orSh (shRg .nil) (fun t m => .leaf (.bool (iscB (toRg t.1)), m)) offS
theorem isc_ok (O : ObjInt c) : FnOK c 2 (.ref 554) iscS := pureSh2 dis_const dis_const_ok O [sisF] (mem1 (sis_ok O) mem0) (fun t => dis_const_as c _) (fun t m => iscB_imp (toRg t.1) m)
noncomputable def rebS : FSem := orSh (shRg (.int (shSc (.int (.int .nil))))) (fun t m => .leaf (Rg.av ⟨(toRg t.1).k, t.2.1, toSc t.2.2.1, t.2.2.2.1, (toRg t.1).mn, t.2.2.2.2.1, (toRg t.1).ro, (toRg t.1).fr⟩, m)) offS
theorem reb_ok (O : ObjInt c) : FnOK c 6 (.ref 561) rebS := pureSh drebuilt drebuilt_ok O [regF] (mem1 (reg_ok O) mem0) (fun t => drebuilt_as c _ _ _ _ _)
noncomputable def rebF : FK × FSem := (.ref 561, rebS)
end
section
variable {c : Cx} {n : Nat}
noncomputable def woffS : FSem := orSh (shRg (.int .nil)) (fun t m => .leaf (Rg.av ⟨(toRg t.1).k, t.2.1, (toRg t.1).s, (toRg t.1).nu, (toRg t.1).mn, (toRg t.1).re, (toRg t.1).ro, (toRg t.1).fr⟩, m)) offS
theorem woff_ok (O : ObjInt c) : FnOK c 7 (.ref 568) woffS := pureSh dwith_off dwith_off_ok O [rebF] (mem1 (reb_ok O) mem0) (fun t => dwith_off_as c _ _)
noncomputable def woffF : FK × FSem := (.ref 568, woffS)
noncomputable def wnumS : FSem := orSh (shRg (.int .nil)) (fun t m => .leaf (Rg.av ⟨(toRg t.1).k, (toRg t.1).o, (toRg t.1).s, t.2.1, (toRg t.1).mn, (toRg t.1).re, (toRg t.1).ro, (toRg t.1).fr⟩, m)) offS
theorem wnum_ok (O : ObjInt c) : FnOK c 7 (.ref 582) wnumS := pureSh dwith_number dwith_number_ok O [rebF] (mem1 (reb_ok O) mem0) (fun t => dwith_number_as c _ _)
noncomputable def wnumF : FK × FSem := (.ref 582, wnumS)
noncomputable def wrchS : FSem := orSh (shRg (.int .nil)) (fun t m => .leaf (Rg.av ⟨(toRg t.1).k, (toRg t.1).o, (toRg t.1).s, (toRg t.1).nu, (toRg t.1).mn, t.2.1, (toRg t.1).ro, (toRg t.1).fr⟩, m)) offS
theorem wrch_ok (O : ObjInt c) : FnOK c 7 (.ref 589) wrchS := pureSh dwith_reach dwith_reach_ok O [rebF] (mem1 (reb_ok O) mem0) (fun t => dwith_reach_as c _ _)
noncomputable def wrchF : FK × FSem := (.ref 589, wrchS)
noncomputable def wscS : FSem := orSh (shRg (shSc .nil)) (fun t m => .leaf (Rg.av ⟨(toRg t.1).k, (toRg t.1).o, toSc t.2.1, (toRg t.1).nu, (toRg t.1).mn, (toRg t.1).re, (toRg t.1).ro, (toRg t.1).fr⟩, m)) offS
theorem wsc_ok (O : ObjInt c) : FnOK c 7 (.ref 575) wscS := pureSh dwith_scalar dwith_scalar_ok O [rebF] (mem1 (reb_ok O) mem0) (fun t => dwith_scalar_as c _ _)
noncomputable def wscF : FK × FSem := (.ref 575, wscS)
end
section
variable {c : Cx} {n : Nat}
noncomputable def farB (x : Int) : Bool := !(decide (-536870912 < x) && decide (x < 536870912))
noncomputable def farS : FSem := orSh (.int .nil) (fun (x, _) m => .leaf (.bool (farB x), m)) offS
theorem orB_imp (p q : Bool) (m : Mem) : Imp (T.leaf (AV.bool (p || q), m)) (.ite p (.leaf (.bool p, m)) (.leaf (.bool q, m))) := Imp.leaf_ite (by cases p <;> rfl)
theorem farB_imp (x : Int) (m : Mem) : Imp (T.leaf (AV.bool (farB x), m)) (.ite (decide ((-536870912 : Int) < x)) (.leaf (.bool (!(decide (x < 536870912))), m)) (.leaf (.bool (!(decide ((-536870912 : Int) < x))), m))) :=
 Imp.leaf_ite (by unfold farB; cases (decide ((-536870912 : Int) < x)) <;> rfl)
theorem far_ok (O : ObjInt c) : FnOK c 1 (.ref 661) farS := pureSh2 dis_far dis_far_ok O [] mem0 (fun t => dis_far_as c _) (fun t m => farB_imp t.1 m)
noncomputable def farF : FK × FSem := (.ref 661, farS)
noncomputable def variesB (s : Sc) : Bool := decide (s.x.d < -536870912) || decide (s.x.e > 536870912)
noncomputable def variesS : FSem := orSh (shSc .nil) (fun t m => .leaf (.bool (variesB (toSc t.1)), m)) offS
theorem varies_ok (O : ObjInt c) : FnOK c 1 (.ref 668) variesS := pureSh2 dvaries_far dvaries_far_ok O [] mem0 (fun t => dvaries_far_as c _) (fun t m => orB_imp (decide ((toSc t.1).x.d < -536870912)) (decide ((toSc t.1).x.e > 536870912)) m)
noncomputable def variesF : FK × FSem := (.ref 668, variesS)
end
section
variable {c : Cx} {n : Nat}
noncomputable def madeO (v w : Int) (x : En) (m : Mem) : T (AV × Mem) := (madeC v w x m).bind fun z => orunkS [z.1] z.2
noncomputable def plusT (p q : Sc) (m : Mem) : T (AV × Mem) :=
 madeO (without1 (p.v + q.v) (taddM p.v p.w q.v q.w)) (wrapZ 64 (taddM p.v p.w q.v q.w)) (topEn (p.x.d + q.x.d) (p.x.e + q.x.e)) m
noncomputable def minusT (p q : Sc) (m : Mem) : T (AV × Mem) :=
 madeO (without1 (p.v - q.v) (tsubM p.v p.w q.v q.w)) (wrapZ 64 (tsubM p.v p.w q.v q.w)) (topEn (p.x.d - q.x.e) (p.x.e - q.x.d)) m
noncomputable def sumS : FSem := orSh (shSc (shSc (.bool .nil))) (fun t m => .ite t.2.2.1 (minusT (toSc t.1) (toSc t.2.1) m) (plusT (toSc t.1) (toSc t.2.1) m)) offS
noncomputable def taddF : FK × FSem := (.ref 229, taddS)
noncomputable def tsubF : FK × FSem := (.ref 236, tsubS)
noncomputable def orunkF : FK × FSem := (.ref 461, orunkS)
theorem sum_ok (O : ObjInt c) : FnOK c 7 (.ref 682) sumS := pureSh dscalar_sum dscalar_sum_ok O [taddF, tsubF, madeF, orunkF]
  (mem1 ((tadd_ok O).le (by decide)) (mem1 ((tsub_ok O).le (by decide)) (mem1 (made_ok O) (mem1 ((orunk_ok O).le (by decide)) mem0)))) (fun t => dscalar_sum_as c _ _ _) (fun t => by kernel_rfl) (fun t m => by kernel_rfl)
noncomputable def sumF : FK × FSem := (.ref 682, sumS)
end
section
variable {c : Cx} {n : Nat}
noncomputable abbrev ordA (x1 x2 x3 x4 x5 x6 : Int) : AV := .obj 614 [.int x1, .int x2, .int x3, .int x4, .int x5, .int x6]
noncomputable abbrev sh6 : Sh := .int (.int (.int (.int (.int (.int .nil)))))
noncomputable abbrev shO (r : Sh) : Sh := .obj 614 sh6 r
noncomputable def orderS : FSem := orSh (.int (.int (.int (.int (.int .nil))))) (fun t m => .leaf (ordA t.1 t.2.1 t.2.2.1 t.2.2.2.1 t.2.2.2.2.1 0, m)) <| orSh sh6 (fun t m => .leaf (ordA t.1 t.2.1 t.2.2.1 t.2.2.2.1 t.2.2.2.2.1 t.2.2.2.2.2.1, m)) offS
theorem order_ok (O : ObjInt c) : FnOK c 2 (.ref 614) orderS := ClsK.ok (d := dOrder___init__) (fs := []) (.alt (fun t => dOrder___init___as6 c _ _ _ _ _ _) (fun _ _ => .refl _) <| .alt (fun t => dOrder___init___as7 c _ _ _ _ _ _ _) (fun _ _ => .refl _) .off) dOrder___init___ok O mem0
noncomputable def orderF : FK × FSem := (.ref 614, orderS)
noncomputable def aluB (x : Int) : Bool := (Builtin.bitAnd x 7 == 4) || (Builtin.bitAnd x 7 == 7)
noncomputable def aluS : FSem := orSh (shO .nil) (fun t m => .leaf (.bool (aluB t.1.1), m)) offS
theorem alu_ok (O : ObjInt c) : FnOK c 1 (.ref 632) aluS := pureSh2 dis_alu dis_alu_ok O [] mem0 (fun t => dis_alu_as c _) (fun t m => orB_imp (Builtin.bitAnd t.1.1 7 == 4) (Builtin.bitAnd t.1.1 7 == 7) m)
noncomputable def aluF : FK × FSem := (.ref 632, aluS)
noncomputable def jmpB (x : Int) : Bool := (Builtin.bitAnd x 7 == 5) || (Builtin.bitAnd x 7 == 6)
noncomputable def jmpS : FSem := orSh (shO .nil) (fun t m => .leaf (.bool (jmpB t.1.1), m)) offS
theorem jmp_ok (O : ObjInt c) : FnOK c 1 (.ref 639) jmpS := pureSh2 dis_jumping dis_jumping_ok O [] mem0 (fun t => dis_jumping_as c _) (fun t m => orB_imp (Builtin.bitAnd t.1.1 7 == 5) (Builtin.bitAnd t.1.1 7 == 6) m)
noncomputable def jmpF : FK × FSem := (.ref 639, jmpS)
noncomputable def byregS : FSem := orSh (shO .nil) (fun t m => .leaf (.bool (!(Builtin.bitAnd t.1.1 8 == 0)), m)) offS
theorem byreg_ok (O : ObjInt c) : FnOK c 1 (.ref 653) byregS := pureSh dis_register dis_register_ok O [] mem0 (fun t => dis_register_as c _)
noncomputable def byregF : FK × FSem := (.ref 653, byregS)
noncomputable def iscF : FK × FSem := (.ref 554, iscS)
noncomputable def needsB (p q : Rg) : Bool := (p.k == S "packet") && ((q.k == S "scalar") && !((q.k == S "scalar") && (q.s.w == 0)))
noncomputable def needsT (p q r : Bool) (m : Mem) : T (AV × Mem) := .ite p (.ite q (.leaf (.bool (!(q && r)), m)) (.leaf (.bool q, m))) (.leaf (.bool p, m))
theorem needs_imp (p q r : Bool) (m : Mem) : Imp (T.leaf (AV.bool (p && (q && !(q && r))), m)) (needsT p q r m) := .iteT (x := (.bool (q && !(q && r)), m)) (by cases p <;> rfl) (.iteT (by cases q <;> rfl) (.refl _) (.refl _)) (.refl _)
noncomputable def needsS : FSem := orSh (shRg (shRg .nil)) (fun t m => .leaf (.bool (needsB (toRg t.1) (toRg t.2.1)), m)) offS
theorem needs_ok (O : ObjInt c) : FnOK c 3 (.ref 711) needsS := pureSh2 dneeds_id dneeds_id_ok O [iscF] (mem1 (isc_ok O) mem0) (fun t => dneeds_id_as c _ _) fun t m => needs_imp ((toRg t.1).k == S "packet") ((toRg t.2.1).k == S "scalar") ((toRg t.2.1).s.w == 0) m
noncomputable def needsF : FK × FSem := (.ref 711, needsS)
end
section
variable {c : Cx} {n : Nat}
noncomputable def stripS : FSem := biS (.str .nil) fun t m => .req (t.1.length ≤ 1000) (.leaf (.str (Txt.strip t.1), m))
theorem strip_ok : FnOK c n (.builtin "str.strip") stripS := bi_ok (keep_builtin _ _) fun t vs hh I r => by
 obtain ⟨v, rfl, r1⟩ := reps1 r
 obtain ⟨u, rfl⟩ := r1.inv
 exact Tri.req fun hz => Tri.val I fun Q E hQ => SCL.strip (fun t' k hl => hQ _ _ (.str _ _)) (Nat.le_trans hz (by decide))
noncomputable def stripF : FK × FSem := (.bi "str.strip", stripS)
end
noncomputable def tabOf {α : Type} : List (Int × α) → Int → Option α
 | [], _ => none
 | p :: r, x => if p.1 = x then some p.2 else tabOf r x
theorem tabOf_mem {α : Type} {x : Int} {s : α} : ∀ {l : List (Int × α)}, tabOf l x = some s → (x, s) ∈ l
 | [], h => nomatch h
 | p :: r, h => by
  by_cases e : p.1 = x
  ·have h : (if p.1 = x then some p.2 else tabOf r x) = some s := h
   rw [if_pos e] at h; cases h; subst e; exact .head _
  ·have h : (if p.1 = x then some p.2 else tabOf r x) = some s := h
   rw [if_neg e] at h; exact .tail _ (tabOf_mem h)
theorem tab_imp {α : Type} {tab : List (Int × α)} {w : String} {B : Int → T (AV × Mem)} {z G : α → T (AV × Mem)} (h : tab.map (fun p => B p.1) = tab.map fun p => G p.2) (i : ∀ a, Imp (z a) (G a)) (x : Int) : Imp (optT (tabOf tab x) w z) (B x) := fun K KX k => by
 obtain ⟨a, ha, hk⟩ := optT_all k
 exact List.map_inj_left.mp h _ (tabOf_mem ha) ▸ i a K KX hk
noncomputable def clsTab : List (Int × Str) := [(7, S "alu64"), (15, S "alu64"), (23, S "alu64"), (31, S "alu64"), (191, S "alu64"), (12, S "alu"), (28, S "alu"), (188, S "alu"), (47, S "alu64"), (63, S "alu64"), (79, S "alu64"), (87, S "alu64"), (111, S "alu64"), (135, S "alu64"), (167, S "alu64"), (220, S "alu")]
section
variable {c : Cx} {n : Nat}
noncomputable def clsS : FSem := orSh (shO .nil) (fun t m => optT (tabOf clsTab t.1.1) "class_of" fun s => .leaf (.str s, m)) offS
noncomputable abbrev clsB (t : (shO .nil).ty) (m : Mem) (x : Int) : T (AV × Mem) := bareT dclass_of [stripF] 14 [(S "order", ordA x t.1.2.1 t.1.2.2.1 t.1.2.2.2.1 t.1.2.2.2.2.1 t.1.2.2.2.2.2.1)] m
noncomputable def clsG (m : Mem) (s : Str) : T (AV × Mem) := .req (Builtin.Int.intBits 5 ≤ 64 ∨ Builtin.Int.intBits (if s.length = 5 then 7 else 4) ≤ 64) (.req ((5 : Nat) ≤ 1000) (.leaf (.str s, m)))
theorem cls_eq (t : (shO .nil).ty) (m : Mem) : clsTab.map (fun p => clsB t m p.1) = clsTab.map fun p => clsG m p.2 := by kernel_rfl
theorem cls_ok (O : ObjInt c) : FnOK c 2 (.ref 625) clsS := pureSh2 dclass_of dclass_of_ok O [stripF] (mem1 strip_ok mem0) (fun t => dclass_of_as c _) (fun t m => tab_imp (cls_eq t m) (fun s => .req2 (.inl (by decide)) (by decide)) t.1.1) (he := fun _ _ => rfl)
noncomputable def clsF : FK × FSem := (.ref 625, clsS)
end
noncomputable def opTab : List (Int × Int × Str × Str) := [(7, 0, S "add", S "ja"), (15, 0, S "add", S "ja"), (23, 1, S "sub", S "eq"), (31, 1, S "sub", S "eq"), (191, 11, S "mov", S "le"), (12, 0, S "add", S "ja"), (28, 1, S "sub", S "eq"), (188, 11, S "mov", S "le"), (47, 2, S "mul", S "gt"), (63, 3, S "div", S "ge"), (79, 4, S "or", S "set"), (87, 5, S "and", S "ne"), (111, 6, S "lsh", S "sgt"), (135, 8, S "neg", S "call"), (167, 10, S "xor", S "lt"), (220, 13, S "end", S "sle")]
section
variable {c : Cx} {n : Nat}
noncomputable def op3 (a : Int) (x : Str) (m : Mem) : T (AV × Mem) := .req (Builtin.Int.intBits 4 ≤ 64 ∨ Builtin.Int.intBits a ≤ 64) (.req (Builtin.Int.intBits 4 ≤ 64 ∨ Builtin.Int.intBits a ≤ 64) (.req ((4 : Nat) ≤ 1000) (.leaf (.str x, m))))
noncomputable def opS : FSem := orSh (shO .nil) (fun t m => optT (tabOf opTab t.1.1) "operation" fun p => .leaf (.str p.2.1, m)) offS
noncomputable abbrev opB (t : (shO .nil).ty) (m : Mem) (x : Int) : T (AV × Mem) := bareT doperation [stripF, aluF, jmpF] 14 [(S "order", ordA x t.1.2.1 t.1.2.2.1 t.1.2.2.2.1 t.1.2.2.2.2.1 t.1.2.2.2.2.2.1)] m
noncomputable def opG (m : Mem) (p : Int × Str × Str) : T (AV × Mem) := .req ((0 : Int) ≤ 4) (.ite false (.leaf (.str (S ""), m)) (.ite true (op3 p.1 p.2.1 m) (.ite false (op3 p.1 p.2.2 m) (.leaf (.str (S ""), m)))))
theorem opG_imp (m : Mem) (p : Int × Str × Str) : Imp (.leaf (.str p.2.1, m)) (opG m p) := fun K KX q => ⟨by decide, .no (.yes ⟨.inl (by decide), .inl (by decide), by decide, q⟩)⟩
theorem op_eq (t : (shO .nil).ty) (m : Mem) : opTab.map (fun p => opB t m p.1) = opTab.map fun p => opG m p.2 := by kernel_rfl
theorem op_ok (O : ObjInt c) : FnOK c 2 (.ref 646) opS := pureSh2 doperation doperation_ok O [stripF, aluF, jmpF] (mem1 strip_ok (mem1 ((alu_ok O).le (by decide)) (mem1 ((jmp_ok O).le (by decide)) mem0))) (fun t => doperation_as c _) (fun t m => tab_imp (op_eq t m) (opG_imp m) t.1.1) (he := fun _ _ => rfl)
noncomputable def opF : FK × FSem := (.ref 646, opS)
end
end
section
open PySem PySem.W PyProof.Rows PySem.Calls Builtin Builtin.Str
section
variable {c : Cx} {n : Nat}
noncomputable abbrev movX : Str := S "stack value packet room"
noncomputable abbrev movY : Str := S " "
noncomputable def movedL : List AV := [.str (S "stack"), .str (S "value"), .str (S "packet"), .str (S "room")]
noncomputable def splitS : FSem := biS (.str (.str .nil)) fun t m => .req (t.1 = movX ∧ t.2.1 = movY) (.leaf (.lst movedL, m))
noncomputable def movParts : List Str := [S "stack", S "value", S "packet", S "room"]
theorem mov_len : (partsBetween movX (occurrences movX movY 0 movX.length (movX.length + 1)) movY.length).length = 4 := by kernel_rfl
theorem mov_strs (k : Nat) : strsFrom k (partsBetween movX (occurrences movX movY 0 movX.length (movX.length + 1)) movY.length) = [.str (S "stack") k, .str (S "value") (k + 1), .str (S "packet") (k + 2), .str (S "room") (k + 3)] := by kernel_rfl
theorem split_ok : FnOK c n (.builtin "str.split") splitS := bi_ok (keep_builtin _ _) fun {A s g m} t vs hr I r => by
 obtain ⟨v, w, rfl, r1, r2⟩ := reps2 r
 obtain ⟨j, rfl⟩ := r1.inv
 obtain ⟨k, rfl⟩ := r2.inv
 refine Tri.req fun hz => ?_
 rw [hz.1, hz.2]
 refine Tri.of (R := RepR c) fun Q E hQ => ?_
 refine call_meets F.slot_str_split (typeIs_str _ _ _) F.entry_str_split (F.args_str_split_2 _ _) (meets_str_split_sep movX movY j k (by kernel_rfl) (by kernel_rfl) (by kernel_rfl) (by decide) (by rw [mov_len]; decide)) ?_
 rw [mov_len, mov_strs]
 exact hQ _ _ _ ((Ext.pushF I noX _).then (.toks _ _ _ _ _ (s.toks + 4))) ((I.pushF _ rfl).toks (s.toks + 4)) (.lst (a := s.heap.objs.size) Gh.put_self (.cons (.str _ _) (.cons (.str _ _) (.cons (.str _ _) (.cons (.str _ _) .nil)))))
noncomputable def splitF : FK × FSem := (.bi "str.split", splitS)
end
end
section
open PySem PySem.W PyProof.Rows PySem.Calls
section
variable {c : Cx} {n : Nat}
noncomputable def movB (k : Str) : Bool := inSB k ["stack", "value", "packet", "room"]
noncomputable def movS : FSem := orSh (shRg .nil) (fun t m => .leaf (.bool (movB (toRg t.1).k), m)) offS
theorem mov_ok (O : ObjInt c) : FnOK c 1 (.ref 547) movS := pureSh2 dis_movable dis_movable_ok O [splitF] (mem1 split_ok mem0) (fun t => dis_movable_as c _) (g := fun t m => .req (movX = movX ∧ movY = movY) (.leaf (.bool (movB (toRg t.1).k), m))) (fun t m => .req1 ⟨rfl, rfl⟩)
noncomputable def movF : FK × FSem := (.ref 547, movS)
end
section
variable {c : Cx} {n : Nat}
noncomputable def pktB (k : Str) : Bool := inSB k ["packet", "packet_end"]
noncomputable def diffB (p q : Rg) : Bool := (pktB p.k && pktB q.k) || ((p.k == q.k) && movB p.k)
noncomputable def diffT (p q r s : Bool) (m : Mem) : T (AV × Mem) := iteAnd p q (.leaf (.bool true, m)) (.ite r (.leaf (.bool s, m)) (.leaf (.bool r, m)))
theorem diff_imp (p q r s : Bool) (m : Mem) : Imp (T.leaf (AV.bool ((p && q) || (r && s)), m)) (diffT p q r s m) := .andT (y := (.bool (r && s), m)) (by cases (p && q) <;> rfl) (.refl _) (.iteT (by cases r <;> rfl) (.refl _) (.refl _))
noncomputable def diffS : FSem := orSh (shRg (shRg .nil)) (fun t m => .leaf (.bool (diffB (toRg t.1) (toRg t.2.1)), m)) offS
theorem diff_ok (O : ObjInt c) : FnOK c 2 (.ref 704) diffS := pureSh2 dis_difference dis_difference_ok O [movF] (mem1 (mov_ok O) mem0) (fun t => dis_difference_as c _ _) fun t m => diff_imp (pktB (toRg t.1).k) (pktB (toRg t.2.1).k) ((toRg t.1).k == (toRg t.2.1).k) (movB (toRg t.1).k) m
noncomputable def diffF : FK × FSem := (.ref 704, diffS)
end
section
variable {c : Cx} {n : Nat}
noncomputable def Rg.told (r : Rg) : AV := .tup [.str r.k, .int r.o, toldSc r.s.v r.s.w r.s.x, .int r.nu, .int r.mn, .int r.re, .int r.ro, .int r.fr]
noncomputable def rtoldS : FSem := orSh (shRg .nil) (fun t m => .leaf ((toRg t.1).told, m)) offS
noncomputable def stoldF : FK × FSem := (.ref 363, stoldS)
theorem rtold_ok (O : ObjInt c) : FnOK c 4 (.ref 483) rtoldS := pureSh dReg_told dReg_told_ok O [stoldF] (mem1 ((stold_ok O).le (by decide)) mem0) (fun t => dReg_told_as c _)
noncomputable def rtoldF : FK × FSem := (.ref 483, rtoldS)
end
end
section
open PySem PySem.W PyProof.Rows PySem.Calls Builtin Builtin.ObjectAttr
theorem xf_init (P : Params) : findIn (kFrag P) (.ref 59) "__init__" = some (some (.ref 36)) := by kernel_rfl
theorem xf_fn (P : Params) : typeIn (kFrag P) (.ref 36) = some (.type "function") := by kernel_rfl
theorem xf_sa (P : Params) : findIn (kFrag P) (.ref 59) "__setattr__" = some (some (.builtin "object.__setattr__")) := by kernel_rfl
theorem xf_ga (P : Params) : findIn (kFrag P) (.ref 59) "__getattribute__" = some (some (.builtin "BaseException.__getattribute__")) := by kernel_rfl
theorem xf_gh (P : Params) : findIn (kFrag P) (.ref 59) "__getattr__" = some none := by kernel_rfl
theorem xf_call (P : Params) : specialIn (kFrag P) (.ref 59) "__call__" = some (some (.builtin "type.__call__")) := by kernel_rfl
theorem xf_keep (P : Params) : keepIn (kFrag P) (.ref 59) = true := by kernel_rfl
theorem xf_what (P : Params) : takerIn (kFrag P) 59 "what" = some none := by kernel_rfl
theorem xf_at (P : Params) : takerIn (kFrag P) 59 "at" = some none := by kernel_rfl
theorem xf_fat (P : Params) : findIn (kFrag P) (.ref 59) "at" = some none := by kernel_rfl
theorem xf_ein (P : Params) : findCls (kFrag P) (.type "Exception") (.type "type") "__init__" = some (.val (.builtin "Exception.__init__")) := by kernel_rfl
theorem xf_mro (P : Params) : (clsIn (kFrag P) 59).map (·.mro) = some [.ref 59, .ref 46, .type "Exception", .type "BaseException", .type "object"] := by kernel_rfl
theorem xf_dict (P : Params) : hasDictIn (kFrag P) 59 = true := by kernel_rfl
section
variable {prog : Program} {w : World} {A : Around} {E : Value → Shared → Prop} {s : Shared} {K : Frag} {x : Addr}
theorem type_attr {T : String} {name : Str} {v : Value} {pl : Sem Bool} {Q : Value × List Value → Shared → Prop} (X : K.In s.heap) (ht : typeOf (.type T) = pure (.type "type")) (hs : Manifest.isStub T = false)
  (e : findCls K (.type T) (.type "type") name = some (.val v)) (hh : handedIn v = true) (h : Q (v, []) { s with toks := s.toks + 1 }) : wpAny (model prog w) A (getMethod (.type T) name pl) Q E s := by
 have hstub : opaqueClassAbove (.type T) = pure none := by unfold opaqueClassAbove; dsimp only; rw [hs]; rfl
 have L0 : Looks (model prog w) s.heap (typeOf (.type T)) (.type "type") := Looks.of_pure ht
 have hg : findIn K (.type "type") "__getattribute__" = some (some (.builtin "type.__getattribute__")) := type_tga
 unfold getMethod specialOf
 refine wpAny_bind (wpAny_bind (L0.here ((looks_findIn X hg).here ?_)))
 dsimp only
 rw [if_pos canon_tga]
 refine wpAny_bind (wpAny_mono (Q := fun v => Q (v, [])) (E := E) ?_ (fun _ _ z => wpAny_pure z) fun _ _ z => z)
 have LO : Looks (model prog w) s.heap (opaqueClassAbove (.type T)) none := Looks.of_pure hstub
 refine cls_open X LO L0 hg (looks_hook X (r := none) (by rfl)) (by show subIn K _ _ = _; rfl) e
  (wpAny_pure (by show wpAny _ _ (handedOut v) _ _ _; rw [handedOut_of hh]; exact wpAny_pure h))
theorem looks_mro59 {P : Params} {M : Model} {h : Heap} (X : (kFrag P).In h) : Looks M h (mroOf (.ref 59)) [.ref 59, .ref 46, .type "Exception", .type "BaseException", .type "object"] := by
 obtain ⟨cd, hc, hm⟩ := Option.map_eq_some_iff.mp (xf_mro P)
 have := (looks_clsIn (M := M) X hc).andThen (f := fun c => pure c.mro) (.now)
 rw [hm] at this; exact this
theorem looks_sub59 {P : Params} {M : Model} {h : Heap} (X : (kFrag P).In h) {base : Value} {r : Bool} (e : mroIn (kFrag P) 59 base = some r) : Looks M h (isSubtype (.ref 59) base) r := looks_mroIn X e
theorem exc_osa {P : Params} {ox : Obj} {od : Option Obj} {name : Str} {tk : Tok} {v : Value} {R : Result → Shared → Prop} (X : (kFrag P).In s.heap) (I : InstAt s.heap x ox 59 od) (ht : takerIn (kFrag P) 59 name = some none)
  (h : ∀ b, wpAny (model prog w) A.in1 (storeInOwnDict (.ref x) (.ref 59) (.str name tk) name v b)
   (fun fin s' => match fin with | .done f => R (.ok f) s' | .again c' => c'.quiet = true ∧ codeAny (model prog w) A c' R s') (fun e s' => R (.error e) s') s) :
  codeAny (model prog w) A (.call (.builtin "object.__setattr__") ⟨[.ref x, .str name tk, v], []⟩) R s := by
 have SF := PySem.F.store_object
 have SE := PySem.F.store_Exception
 have sub : Looks (model prog w) s.heap (isInstance (.ref x) (.type "object")) true := I.type.andThen (looks_mroIn X (by kernel_rfl))
 refine codeAny_call_builtin SF.slot.plain SF.entry (@check_slot (model prog w) _ _ s "object.__setattr__" "object" "__setattr__" (.ref x) [.str name tk, v] [] _ SF.kind SF.split sub (SF.args (.ref x) (.str name tk) v) ?_)
 obtain ⟨attr, ha, hr⟩ := Option.bind_eq_some_iff.mp ht
 have hm : Looks (model prog w) s.heap (mroOf (.ref 59)) _ := looks_mro59 X
 have L3 : Looks (model prog w) s.heap (storeTaker? attr) none := by
  cases attr with
  | none => exact .now
  | some a =>
   obtain ⟨b, hb, hr⟩ := Option.map_eq_some_iff.mp hr
   refine (looks_takesIn X hb).andThen ?_
   cases b with
   | true => cases hr
   | false => exact .now
 rw [osa_eq, refuse_eq]
 refine wpAny_bind (wpAny_bind (I.type.here (wpAny_bind (hm.here ?_))))
 rw [refuseLoop_ref, refuseLoop_ref, SE.passes]
 refine wpAny_pure (wpAny_bind (I.type.here (wpAny_bind ((looks_findIn X ha).here (wpAny_bind (L3.here ?_))))))
 exact h _
end
end
section
open PySem PySem.W PyProof.Rows PySem.Calls Builtin Builtin.ObjectAttr
section
variable {prog : Program} {w : World} {A : Around} {E : Value → Shared → Prop} {s : Shared} {x : Addr} {P : Params}
theorem exc_set2 {ox : Obj} {dx : Addr} {name : Str} {v : Value} {es : List DictEntry} {n : Nat} {Q : Unit → Shared → Prop} (X : (kFrag w.params).In s.heap) (hx : s.heap.get? x = some ox) (hc : ox.cls = .ref 59) (hn : notCls ox = true) (hdx : ox.dict = some dx)
  (hD : s.heap.get? dx = some (dictOf es n)) (ht : takerIn (kFrag w.params) 59 name = some none) (hr : es.any (·.refKey) = false) (hz : (putL name (PyData.keyHash w.params name) (.str name (s.toks + 1)) v es).length ≤ 1000)
  (h : ∀ h' t, Heap.SameBut dx s.heap h' → h'.get? dx = some (dictOf (putL name (PyData.keyHash w.params name) (.str name (s.toks + 1)) v es) (putN name es n)) → Q () { s with heap := h', toks := t }) :
  wpAny (model prog w) A (setAttr (.ref x) name v) Q E s := by
 have I : InstAt s.heap x ox 59 (some (dictOf es n)) := ⟨hx, hc, hn, by rw [hdx]; exact hD⟩
 obtain ⟨sh, sg, sd, st, so⟩ := s
 refine set_plain X I (xf_sa _) (exc_osa (s := ⟨sh, sg, sd, st + 1, so⟩) X I ht fun b => ?_)
 dsimp only at hz h X I hx hD
 obtain ⟨cd, hcd, hd'⟩ := any_some (xf_dict w.params)
 have pn := putName_dict name (PyData.keyHash w.params name) (.str name (st + 1)) v es n
 have D' := Heap.get?_update_self (Obj.putName name (PyData.keyHash w.params name) (.str name (st + 1)) v) hD (by rw [pn]; rfl)
 rw [pn] at D'
 obtain ⟨oc, odi, oda, osl⟩ := ox
 dsimp only at hc hdx
 subst hc hdx
 refine wpAny_bind (wpAny_pure (wpAny_bind (wpAny_bind (wpAny_loadPart hx (wpAny_bind ((looks_clsIn (h := sh) X hcd).at ?_))))))
 rw [hd']
 refine wpAny_pure (a := some dx) (wpAny_bind (wpAny_pure (wpAny_bind ?_)))
 unfold nsSet
 refine wpAny_bind (wpAny_bind (wpAny_askSetting (wpAny_pure (wpAny_bind (wpAny_mkText (wpAny_bind (wpAny_loadPart hD ?_)))))))
 dsimp only
 have cc : (!es.toArray.any (·.key.isStr name) && es.toArray.any (·.refKey)) = false := by
  rw [← Array.any_toList, ← Array.any_toList]
  show (_ && es.any (·.refKey)) = false
  rw [hr, Bool.and_false]
 rw [aRefKeyMayBeTheName_at, cc]
 refine wpAny_updatePart hD ?_
 refine wpAny_bind (wpAny_lookBehind D' (pastItsLine_dict (by rw [List.size_toArray, sizeLine_eq]; omega)) ?_)
 exact wpAny_pure (h _ _ (Heap.SameBut.update ..) D')
theorem exc_set1 {vs : Array Value} {name : Str} {v : Value} {Q : Unit → Shared → Prop} (X : (kFrag w.params).In s.heap) (hx : s.heap.get? x = some { cls := .ref 59, data := .fields vs }) (ht : takerIn (kFrag w.params) 59 name = some none)
  (h : ∀ h' t tk n, (∀ b o, b ≠ x → s.heap.get? b = some o → h'.get? b = some o) → h'.get? x = some { cls := .ref 59, dict := some s.heap.objs.size, data := .fields vs } →
   h'.get? s.heap.objs.size = some (dictOf [⟨PyData.keyHash w.params name, .str name tk, v⟩] n) → Q () { s with heap := h', toks := t }) :
  wpAny (model prog w) A (setAttr (.ref x) name v) Q E s := by
 have I : InstAt s.heap x { cls := .ref 59, data := .fields vs } 59 none := ⟨hx, rfl, rfl, trivial⟩
 obtain ⟨sh, sg, sd, st, so⟩ := s
 refine set_plain X I (xf_sa _) (exc_osa (s := ⟨sh, sg, sd, st + 1, so⟩) X I ht fun b => ?_)
 dsimp only at h X I hx
 obtain ⟨cd, hcd, hd'⟩ := any_some (xf_dict w.params)
 refine wpAny_bind (wpAny_pure (wpAny_bind (wpAny_bind (wpAny_loadPart hx (wpAny_bind ((looks_clsIn (h := sh) X hcd).at ?_))))))
 rw [hd']
 have hxs : x ≠ sh.objs.size := Nat.ne_of_lt (Heap.lt_size hx)
 have hx₁ : (sh.push { cls := .type "dict", data := .dict #[] }).get? x = some { cls := .ref 59, data := .fields vs } := Heap.get?_push_of_some _ hx
 refine wpAny_bind (wpAny_alloc ?_)
 refine wpAny_bind (wpAny_update hx₁ ?_)
 have hD : ((sh.push { cls := .type "dict", data := .dict #[] }).update x fun o => { o with dict := some sh.objs.size }).get? sh.objs.size = some (dictOf [] 0) :=
  (Heap.get?_update_ne _ _ _ _ (Ne.symm hxs)).trans (Heap.get?_push_size _ rfl)
 have hX : ((sh.push { cls := .type "dict", data := .dict #[] }).update x fun o => { o with dict := some sh.objs.size }).get? x = some { cls := .ref 59, dict := some sh.objs.size, data := .fields vs } := Heap.get?_update_self _ hx₁ rfl
 have pn := putName_dict name (PyData.keyHash w.params name) (.str name (st + 1)) v [] 0
 have D' := Heap.get?_update_self (Obj.putName name (PyData.keyHash w.params name) (.str name (st + 1)) v) hD (by rw [pn]; rfl)
 rw [pn] at D'
 refine wpAny_pure ?_
 refine wpAny_bind (wpAny_pure (wpAny_bind ?_))
 unfold nsSet
 refine wpAny_bind (wpAny_bind (wpAny_askSetting (wpAny_pure (wpAny_bind (wpAny_mkText (wpAny_bind (wpAny_loadPart hD ?_)))))))
 dsimp only
 have cc : (!([] : List DictEntry).toArray.any (·.key.isStr name) && ([] : List DictEntry).toArray.any (·.refKey)) = false := by simp
 rw [aRefKeyMayBeTheName_at, cc]
 refine wpAny_updatePart hD ?_
 refine wpAny_bind (wpAny_lookBehind D' (pastItsLine_dict (by rw [List.size_toArray, sizeLine_eq]; exact (by decide : (1:Nat) ≤ 16777216 + 1))) ?_)
 refine wpAny_pure (h _ _ (st + 1) (putN name [] 0) (fun b o hb ho => ?_) ?_ D')
 ·rw [Heap.get?_update_other _ _ (Ne.symm (Nat.ne_of_lt (Heap.lt_size ho)))]
  exact (Heap.get?_update_ne _ _ _ _ hb).trans (Heap.get?_push_of_some _ ho)
 ·exact (Heap.get?_update_other _ _ (Ne.symm hxs)).trans hX
end
end
section
open PySem PySem.W PyProof.Rows PySem.Calls Builtin Builtin.ObjectAttr
theorem xf_slotga : Slot "Exception" "__getattribute__" "BaseException.__getattribute__" := PySem.F.attr_Exception.ga
section
variable {prog : Program} {w : World} {A : Around} {E : Value → Shared → Prop} {s : Shared} {x : Addr} {P : Params}
theorem exc_get {ox : Obj} {dx : Addr} {name : Str} {v : Value} {es : List DictEntry} {n : Nat} {expr : Bool} {Q : Value → Shared → Prop} (X : (kFrag w.params).In s.heap) (hx : s.heap.get? x = some ox) (hc : ox.cls = .ref 59) (hn : notCls ox = true) (hdx : ox.dict = some dx)
  (hD : s.heap.get? dx = some (dictOf es n)) (hf : findIn (kFrag w.params) (.ref 59) name = some none) (hv : getL name es = some (some v)) (hh : handedIn v = true)
  (h : Q v { s with toks := s.toks + 1 }) :
  wpAny (model prog w) A (getAttr (.ref x) name expr) Q E s := by
 have I : InstAt s.heap x ox 59 (some (dictOf es n)) := ⟨hx, hc, hn, by rw [hdx]; exact hD⟩
 obtain ⟨cd, hcd, hd'⟩ := any_some (xf_dict w.params)
 have hfo : findObj (kFrag w.params) 59 (some (dictOf es n)) name = some (.value v) := by
  unfold findObj
  rw [hcd, hf]
  show ((W.ownOf cd (some (dictOf es n)) name).bind _) = _
  unfold W.ownOf
  rw [hd', if_pos rfl]
  show ((lookIn name (dictOf es n)).bind _) = _
  rw [lookIn_dict, hv]; rfl
 have L1 := looks_findIn (M := model prog w) X (xf_ga w.params)
 have L2 := looks_findIn (M := model prog w) X (xf_gh w.params)
 have L3 := looks_find (M := model prog w) X I hfo
 have T := I.type (M := model prog w)
 obtain ⟨sh, sg, sd, st, so⟩ := s
 dsimp only at L1 L2 L3 T X hx I h
 unfold getAttr
 refine wpAny_bind (wpAny_mkText ?_)
 unfold getAttrBy
 refine wpAny_holding (wpAny_bind (T.at (wpAny_bind (L1.at ?_))))
 dsimp only
 rw [if_neg (by decide +kernel)]
 unfold getAttrByItsOwn hookBefore
 refine wpAny_bind (L2.at (wpAny_bind (wpAny_attempt (wpAny_holding ?_))))
 unfold callGetattribute boundAndCalled
 rw [show (expr && onTheHeap (Value.builtin "BaseException.__getattribute__")) = false by cases expr <;> rfl]
 simp only [Bool.false_eq_true, if_false]
 rw [xf_slotga.bind]
 refine wpAny_bind (wpAny_pure (wpAny_call ?_))
 have sub : Looks (model prog w) sh (isInstance (.ref x) (.type "BaseException")) true := T.andThen (looks_mroIn X (by kernel_rfl))
 refine codeAny_call_builtin xf_slotga.plain PySem.F.entry_bexc_ga (@check_slot (model prog w) _ _ ⟨sh, sg, sd, st + 1, so⟩ "BaseException.__getattribute__" "BaseException" "__getattribute__" (.ref x) [.str name st] [] _ (by decide +kernel) (by decide +kernel) sub (PySem.F.args_bexc_ga _ _) ?_)
 unfold Builtin.«object.__getattribute__»
 refine wpAny_bind (wpAny_of_eq (a := (.ref x, [.str name st])) rfl ?_)
 dsimp only
 refine wpAny_bind (wpAny_of_eq (a := name) rfl (wpAny_bind (T.at (wpAny_bind (L3.at ?_)))))
 refine wpAny_pure ?_
 show wpAny _ _ (handedOut v) _ _ _
 rw [handedOut_of hh]
 exact wpAny_pure h
end
end
section
open PySem PySem.W PyProof.Rows PySem.Calls Builtin Builtin.ObjectAttr
noncomputable abbrev bm59 : List Value := [.ref 46, .type "Exception", .type "BaseException", .type "object"]
noncomputable abbrev cls59 : Obj := excClassObj "Refusal" "Refusal" 59 58 [.ref 46] bm59 true [] [] false none none (some (.ref 50)) none (some (.str "Refusal" 248)) (some (.str "Refusal" 256)) (some (.bool true)) "Exception.__new__"
theorem x59 (P : Params) : (kFrag P).lookup 59 = some cls59 := by kernel_rfl
noncomputable abbrev tupX (vs : List Value) : Obj := { cls := .type "tuple", data := .seq vs.toArray }
noncomputable abbrev excX (t : Addr) : Obj := { cls := .ref 59, data := .fields #[.ref t, .none, .none, .none, .bool false, .none] }
section
variable {prog : Program} {w : World} {A : Around} {R : Result → Shared → Prop} {h : Heap} {g : Array GenState} {d : Drawn} {t : Nat} {os : OsState}
theorem exc_new {rest : List Value} (hC : h.get? 59 = some cls59)
  (hq : R (.ok (.ret (.ref (h.objs.size + 1)))) ⟨(h.push (tupX rest)).push (excX h.objs.size), g, d, t, os⟩) (hrest : rest.length ≤ sizeLine) :
  codeAny (model prog w) A (.builtin "Exception.__new__" ⟨.ref 59 :: rest, []⟩) R ⟨h, g, d, t, os⟩ := by
 have Fn := PySem.F.excBase_Exception
 have hends := Fn.ends
 have hcB : (Value.ref 59 :: bm59).contains (.type "Exception") = true := by decide
 have hcA : (Value.ref 59 :: bm59).contains (.type "AttributeError") = false := by decide
 have hcN : (Value.ref 59 :: bm59).contains (.type "NameError") = false := by decide
 refine codeAny_builtinAt Fn.entry ?_
 unfold Builtin.«BaseException.__new__»
 refine PySem.wpAt_bind ?_
 show PySem.wpAt _ _ _ (stack >>= _) _ _ _
 refine PySem.wpAt_bind (PySem.wpAt_stack fun p below => PySem.wpAt_of_wpAny ?_)
 wp_walk
 refine PySem.wpAt_of_wpAny ?_
 rw [Fn.owner]
 repeat (first | with_reducible refine wpAny_madeHere_exc Fn.canon hC ?_ | with_reducible refine wpAny_loadPart_at hC ?_ | (with_reducible refine wpAny_isSubtype_exc hC ?_; first | rw [hcB] | rw [hcA] | rw [hcN]) | wp_step)
 show R _ _
 rw [Heap.size_push]
 exact hq
theorem exc_check {M : Model} {E : Value → Shared → Prop} {rest : List Value} {Q : Unit → Shared → Prop} (hC : h.get? 59 = some cls59) (hq : Q () ⟨h, g, d, t, os⟩) : wpAny M A (checkBuiltinCall "Exception.__new__" ⟨.ref 59 :: rest, []⟩) Q E ⟨h, g, d, t, os⟩ := by
 have Fn := PySem.F.excBase_Exception
 have hcont : (Value.ref 59 :: bm59).contains (.type "Exception") = true := by decide
 have hstar := Fn.noStar
 simp only [checkBuiltinCall, Fn.newKind, Fn.newSplit, Fn.newRow]
 repeat (first | refine wpAny_loadPart_at hC ?_ | (refine wpAny_isSubtype_exc hC ?_; rw [hcont]) | refine wpAny_staticBase_exc hC ?_ | refine wpAny_madeBy_exc hC ?_ | simp only [bne_self_eq_false, Bool.false_eq_true, if_false] | wp_step)
 exact hq
theorem exc_make {rest : List Value} (X : (kFrag w.params).In h)
  (hq : codeAny (model prog w) (A.under (.builtin "type.__call__" ⟨.ref 59 :: rest, []⟩)) (.call (.ref 36) ⟨.ref (h.objs.size + 1) :: rest, []⟩) (InitBack (h.objs.size + 1) R) ⟨(h.push (tupX rest)).push (excX h.objs.size), g, d, t, os⟩) (hrest : rest.length ≤ sizeLine) :
  codeAny (model prog w) A (.call (.ref 59) ⟨rest, []⟩) R ⟨h, g, d, t, os⟩ := by
 have hC : h.get? 59 = some cls59 := X _ _ (x59 w.params)
 have call : Looks (model prog w) h (specialOf (.ref 59) "__call__") (some (.builtin "type.__call__")) := looks_specialIn X (xf_call w.params)
 have typ : Looks (model prog w) h (isInstance (.ref 59) (.type "type")) true := looks_instIn X (by kernel_rfl)
 refine codeAny_of_tree ?_
 show wpAny _ _ (callAny (.ref 59) _) _ _ _
 refine nd_load hC ?_
 show wpAny _ _ (callAny.viaDunder (.ref 59) _) _ _ _
 unfold callAny.viaDunder
 refine wpAny_bind (call.at ?_)
 dsimp only
 rw [tc_bind]
 refine wpAny_bind (wpAny_pure (wpAny_bind (wpAny_pure ?_)))
 refine wpAny_pure (a := Fin.again (.call (.builtin "type.__call__") ⟨.ref 59 :: rest, []⟩)) (And.intro rfl ?_)
 refine codeAny_call_builtin_at (Code.quiet_builtin _ (by decide +kernel)) entry_typeCall (check_slot tc_kind tc_split typ (tc_args _ _ _) ?_)
 have Fn := PySem.F.excBase_Exception
 repeat (first | with_reducible refine wpAny_loadPart_at hC ?_ | with_reducible refine wpAny_madeBy_exc hC ?_ | wp_step)
 refine codeAny_call_builtin_code (Code.quiet_builtin _ Fn.quiet) (exc_check hC ?_)
 refine exc_new hC ?_ hrest
 show wpAny _ _ _ _ _ _
 have k : ∀ b o, h.get? b = some o → ((h.push (tupX rest)).push (excX h.objs.size)).get? b = some o := fun b o e => Heap.get?_push_of_some _ (Heap.get?_push_of_some _ e)
 have hget : ((h.push (tupX rest)).push (excX h.objs.size)).get? (h.objs.size + 1) = some (excX h.objs.size) := by heap_get
 have X₁ : (kFrag w.params).In ((h.push (tupX rest)).push (excX h.objs.size)) := fun a o e => k _ _ (X _ _ e)
 have t1 : Looks (model prog w) ((h.push (tupX rest)).push (excX h.objs.size)) (typeOf (.ref (h.objs.size + 1))) (.ref 59) := (Looks.ld hget).andThen .now
 have s1 : Looks (model prog w) ((h.push (tupX rest)).push (excX h.objs.size)) (isSubtype (.ref 59) (.ref 59)) true := looks_mroIn X₁ (by kernel_rfl)
 have i1 : Looks (model prog w) ((h.push (tupX rest)).push (excX h.objs.size)) (typeLookup (.ref 59) "__init__") (some (.ref 36)) := looks_findIn X₁ (xf_init w.params)
 have b1 : Looks (model prog w) ((h.push (tupX rest)).push (excX h.objs.size)) (bindSpecial (.ref 36) (.ref (h.objs.size + 1))) (.ref 36, [.ref (h.objs.size + 1)]) := bind_fn X₁ _ (xf_fn w.params)
 unfold isInstance callSpecial? specialOf
 repeat (first | with_reducible refine wpAny_call ?_ | lk)
 refine codeAny_mono hq fun r s' z => ?_
 rcases r with e | (v | _ | _ | _) <;> first | exact z | exact z.elim | skip
 obtain ⟨rfl, z⟩ := z
 exact wpAny_pure (wpAny_pure z)
end
end
section
open PySem PySem.W PyProof.Rows PySem.Calls Builtin Builtin.ObjectAttr
noncomputable def dGE : Def := ⟨36, (clsAt 8 0), "GateError.__init__", (.ref 29), "ringgate.basics", 194, 35, none⟩
theorem dGE_ok : DefOK dGE := ⟨fun P => by kernel_rfl, fun P => by kernel_rfl, fun P => by kernel_rfl⟩
theorem dGE_t (P : Params) : (kFrag P).lookup 29 = some (tupK [.none] 0) := by kernel_rfl
theorem dGE_l (v0 v1 v2 : Value) : bindArgs dGE.fd ⟨[v0, v1, v2], []⟩ = .load 29 none (contOf (bindArgs dGE.fd ⟨[v0, v1, v2], []⟩)) := by kernel_rfl
theorem dGE_b (v0 v1 v2 : Value) : contOf (bindArgs dGE.fd ⟨[v0, v1, v2], []⟩) (tupK [.none] 0) = pure [(S "self", v0), (S "what", v1), (S "at", v2)] := by kernel_rfl
noncomputable def xOfS : Stmt → Expr
 | .Expr e _ => e
 | .Assign _ e _ => e
 | _ => .Name Str.empty ⟨0, 0, 0, 0⟩
noncomputable def lineOfS : Stmt → Pos
 | .Expr _ p => p
 | .Assign _ _ p => p
 | _ => ⟨0, 0, 0, 0⟩
noncomputable def fOfX : Expr → Pos × Pos × Pos × Pos × Pos
 | .Call (.Attribute (.Name _ a) _ b) [.Name _ d, .Name _ e] [] f => (a, b, d, e, f)
 | _ => (⟨0, 0, 0, 0⟩, ⟨0, 0, 0, 0⟩, ⟨0, 0, 0, 0⟩, ⟨0, 0, 0, 0⟩, ⟨0, 0, 0, 0⟩)
noncomputable def gP := fOfX (xOfS (stN dGE 0))
noncomputable def aOfS : Stmt → Pos × Pos × Pos
 | .Assign [.Attribute (.Name _ a) _ b] (.Name _ d) _ => (a, b, d)
 | _ => (⟨0, 0, 0, 0⟩, ⟨0, 0, 0, 0⟩, ⟨0, 0, 0, 0⟩)
noncomputable abbrev nm (x : String) (p : Pos) : PySem.Expr := .Name (Str.ofString x) p
theorem dGE_body : fdBody dGE.st = [.Expr (.Call (.Attribute (nm "Exception" gP.1) (S "__init__") gP.2.1) [nm "self" gP.2.2.1, nm "what" gP.2.2.2.1] [] gP.2.2.2.2) (lineOfS (stN dGE 0)),
  .Assign [.Attribute (nm "self" (aOfS (stN dGE 1)).1) (S "what") (aOfS (stN dGE 1)).2.1] (nm "what" (aOfS (stN dGE 1)).2.2) (lineOfS (stN dGE 1)),
  .Assign [.Attribute (nm "self" (aOfS (stN dGE 2)).1) (S "at") (aOfS (stN dGE 2)).2.1] (nm "at" (aOfS (stN dGE 2)).2.2) (lineOfS (stN dGE 2))] := by kernel_rfl
end
section
open PySem PySem.W PyProof.Rows PySem.Calls Builtin Builtin.ObjectAttr
section
variable {c : Cx} {A : Around} {E : Value → Shared → Prop} {s : Shared}
theorem loc_name {env : Env} {x : Str} {p : Pos} {m : Str → Option Value} {u : Value} {Q : Value → Shared → Prop} (hk : env.scope.kind = .function) (hl : env.kindOf x = some .local) (hn : s.heap.Ns env.locals m) (hm : m x = some u) (hd : (x == ("__debug__" : Str)) = false) (h : Q u s) :
  wpAny (model pw c.w) A (eval (.Name x p) env) Q E s := wpAny_Name (wpAny_loadName_local hk hl hn hm h) hd
theorem exc_asg {env : Env} {o : Expr} {x : Str} {q : Pos} {e : Expr} {p : Pos} {ov u : Value} {Q : Flow → Shared → Prop} (he : ∀ (Q : Value → Shared → Prop), Q u s → wpAny (model pw c.w) A (eval e env) Q E s) (ho : ∀ (Q : Value → Shared → Prop), Q ov s → wpAny (model pw c.w) A (eval o env) Q E s)
  (h1 : noSwap env.scope (some (.Attribute o x q)) e p.line = true) (h2 : swapOf env.scope (.Attribute o x q) e = some none) (h : wpAny (model pw c.w) A (setAttr ov x u) (fun _ => Q .next) E s) :
  wpAny (model pw c.w) A (exec (.Assign [.Attribute o x q] e p) env) Q E s := by
 refine Assign1 (he _ ?_) (noSwap_of h1 rfl) (swapOf_of h2 rfl) rfl
 show wpAny _ A (do let ov ← holding [u] (eval o env); standAt q.atName; holding [u, ov] (setAttr ov x u); release [u, ov] []) _ E s
 refine wpAny_bind (wpAny_holding (ho _ ?_))
 refine wpAny_bind (wpAny_standAt (wpAny_bind (wpAny_holding (wpAny_mono h (fun _ s' h' => wpAny_release' h') fun _ _ x => x))))
theorem ge_noswap1 : noSwap (fdScope dGE.st) (some (.Attribute (nm "self" (aOfS (stN dGE 1)).1) (S "what") (aOfS (stN dGE 1)).2.1)) (nm "what" (aOfS (stN dGE 1)).2.2) (lineOfS (stN dGE 1)).line = true := by kernel_rfl
theorem ge_swap1 : swapOf (fdScope dGE.st) (.Attribute (nm "self" (aOfS (stN dGE 1)).1) (S "what") (aOfS (stN dGE 1)).2.1) (nm "what" (aOfS (stN dGE 1)).2.2) = some none := by kernel_rfl
theorem ge_noswap2 : noSwap (fdScope dGE.st) (some (.Attribute (nm "self" (aOfS (stN dGE 2)).1) (S "at") (aOfS (stN dGE 2)).2.1)) (nm "at" (aOfS (stN dGE 2)).2.2) (lineOfS (stN dGE 2)).line = true := by kernel_rfl
theorem ge_swap2 : swapOf (fdScope dGE.st) (.Attribute (nm "self" (aOfS (stN dGE 2)).1) (S "at") (aOfS (stN dGE 2)).2.1) (nm "at" (aOfS (stN dGE 2)).2.2) = some none := by kernel_rfl
theorem ge_noswap0 : noSwap (fdScope dGE.st) none (.Call (.Attribute (nm "Exception" gP.1) (S "__init__") gP.2.1) [nm "self" gP.2.2.1, nm "what" gP.2.2.2.1] [] gP.2.2.2.2) (lineOfS (stN dGE 0)).line = true := by kernel_rfl
theorem ge_line : (gP.2.1.endLine == gP.2.2.2.2.line) = true := by kernel_rfl
theorem ge_scope : (fdScope dGE.st).kind = .function ∧ (fdScope dGE.st).isCoroutine = false ∧ (fdScope dGE.st).isGenerator = false := ⟨by kernel_rfl, by kernel_rfl, by kernel_rfl⟩
theorem ge_names : (fdScope dGE.st).names.all (fun p => !(p.2 == .cell)) = true ∧ (fdScope dGE.st).names.lookup (S "self") = some .local ∧ (fdScope dGE.st).names.lookup (S "what") = some .local ∧ (fdScope dGE.st).names.lookup (S "at") = some .local ∧ (fdScope dGE.st).names.lookup (S "Exception") = some .globalImplicit := ⟨by kernel_rfl, by kernel_rfl, by kernel_rfl, by kernel_rfl, by kernel_rfl⟩
theorem ge_exc (P : Params) : nsIn (kFrag P) mainGlobals "Exception" = some none := by kernel_rfl
theorem exc_parent {ea t0 : Addr} {rest : List Value} {Q : Value → Shared → Prop} (X : (kFrag c.w.params).In s.heap) (he : s.heap.get? ea = some (excX t0)) (hrest : rest.length ≤ sizeLine)
  (h : Q .none { s with heap := (s.heap.push (tupX rest)).update ea (Obj.mapFields (·.setIfInBounds 0 (.ref s.heap.objs.size))) }) :
  wpAny (model pw c.w) A (call (.builtin "Exception.__init__") (.ref ea :: rest)) Q E s := by
 have F := PySem.F.excBase_Exception
 obtain ⟨sh, sg, sd, st, so⟩ := s
 have hC : sh.get? 59 = some cls59 := X _ _ (x59 _)
 have hcB : (Value.ref 59 :: bm59).contains (.type "Exception") = true := by decide
 refine wpAny_call (codeAny_call_builtin F.init.plain F.initEntry ?_)
 ·have hshort := F.noStar
  have he : sh.get? ea = some (excX t0) := he
  simp only [checkBuiltinCall, F.initKind, F.initSplit, F.initRow]
  repeat (first | (with_reducible refine wpAny_loadPart_at he ?_) | with_reducible refine wpAny_loadPart_at hC ?_ | (with_reducible refine wpAny_isSubtype_exc hC ?_; rw [hcB]) | wp_step)
  refine wpAny_onRaise ?_
  rw [show ∀ (a b : String) (n : Nat), Bind.check ⟨.positional, "*", "Exception", .self, [⟨"args", .varPos, false⟩]⟩ a b n (List.map (fun x => x.fst) ({ pos := Value.ref ea :: rest } : Args).kw) = pure () from
   fun a b n => check_star_args _ _ _ _ _ _]
  refine wpAny_pure ?_
  unfold Builtin.«BaseException.__init__»
  dsimp only
  rw [if_neg (by simp)]
  unfold newTuple Builtin.BaseException.bexcPut
  have he₁ := Heap.get?_push_of_some (h := sh) (tupX rest) he
  refine wpAny_bind (wpAny_newObj_type (wpAny_bind (wpAny_bind (wpAny_field he₁ rfl (x := .ref t0) rfl (wpAny_bind (wpAny_setField he₁ rfl (by exact Nat.zero_lt_succ _) ?_))))) (by show rest.toArray.size ≤ sizeLine; rw [List.size_toArray]; exact hrest))
  exact wpAny_letGo (wpAny_pure h)
end
end
section
open PySem PySem.W PyProof.Rows PySem.Calls Builtin Builtin.ObjectAttr
noncomputable abbrev exc2 (t dx : Addr) : Obj := { cls := .ref 59, dict := some dx, data := .fields #[.ref t, .none, .none, .none, .bool false, .none] }
noncomputable abbrev excEs (P : Params) (tk1 tk2 : Tok) (sv av : Value) : List DictEntry := [⟨PyData.keyHash P (S "what"), .str (S "what") tk1, sv⟩, ⟨PyData.keyHash P (S "at"), .str (S "at") tk2, av⟩]
section
variable {c : Cx} {A : Around} {E : Value → Shared → Prop} {s : Shared}
theorem ge_bind (s : Shared) (v0 v1 v2 : Value) (K : (kFrag c.w.params).In s.heap) : BindsTo s dGE.fd ⟨[v0, v1, v2], []⟩ [(S "self", v0), (S "what", v1), (S "at", v2)] :=
 BindsTo.load (dGE_l _ _ _) (K _ _ (dGE_t c.w.params)) (dGE_b _ _ _)
theorem exc_init {ea t0 : Addr} {sv av : Value} {R : Result → Shared → Prop} (hk0 : ∀ b o, c.h0.get? b = some o → s.heap.get? b = some o) (hroom : A.depth < recursionLimit) (he : s.heap.get? ea = some (excX t0))
  (hne : c.h0.get? ea = none)
  (h : ∀ h' t t1 dx tk1 tk2 n, (∀ b o, b ≠ ea → s.heap.get? b = some o → h'.get? b = some o) → h'.get? ea = some (exc2 t1 dx) → ¬ Liv s.heap dx →
   h'.get? dx = some (dictOf (excEs c.w.params tk1 tk2 sv av) n) → R (.ok (.ret .none)) { s with heap := h', toks := t }) :
  codeAny (model pw c.w) A (.call (.ref 36) ⟨[.ref ea, sv, av], []⟩) R s := by
 have X : (kFrag c.w.params).In s.heap := fun a o e => hk0 _ _ (c.K _ _ e)
 obtain ⟨g1, g2, g3⟩ := ge_scope
 obtain ⟨n1, n2, n3, n4, n5⟩ := ge_names
 refine codeAny_call_def (o := dGE.obj) (fd := dGE.fd) (body := fdBody dGE.st) (binds := [(S "self", .ref ea), (S "what", sv), (S "at", av)]) hroom (X _ _ (dGE_ok.at_ c.w.params)) rfl (c.lim.keeps hk0) (codeRec_of X (dGE_ok.code _)) rfl (ge_bind s _ _ _ X) (fun x hx => by
   have := List.all_eq_true.mp n1 x hx
   simpa using this) (fun x hx => by
   simp only [List.mem_cons, List.not_mem_nil, or_false] at hx
   rcases hx with rfl | rfl | rfl
   ·exact n2
   ·exact n3
   ·exact n4) (fun h₀ hns hk => ?_) g2 g3 g1
 have hL : ¬ Liv s.heap s.heap.objs.size := notLiv _
 have hLn : s.heap.objs.size ≠ ea := fun q => hL (q ▸ ⟨_, he⟩)
 generalize henv : callEnv dGE.fd s.heap.objs.size 36 = env
 have e1 : env.scope = fdScope dGE.st := by rw [← henv]; rfl
 have e3 : env.locals = s.heap.objs.size := by rw [← henv]; rfl
 have eg : env.globals = mainGlobals := by rw [← henv]; rfl
 have eb : env.builtins = builtinsNs := by rw [← henv]; rfl
 have hkind : env.scope.kind = .function := e1 ▸ g1
 have kd : ∀ x, env.kindOf x = (fdScope dGE.st).names.lookup x := fun x => by unfold Env.kindOf; rw [e1]
 have nself : ∀ {s' : Shared} (h1 : s'.heap.Ns env.locals fun x => ([(S "self", Value.ref ea), (S "what", sv), (S "at", av)] : List (Str × Value)).reverse.lookup x) (p : Pos) (E : Value → Shared → Prop) (Q : Value → Shared → Prop), Q (.ref ea) s' → wpAny (model pw c.w) (A.deeper env) (eval (nm "self" p) env) Q E s' :=
  fun h1 p E Q q => loc_name hkind ((kd _).trans n2) h1 (u := .ref ea) rfl (by decide) q
 have nwhat : ∀ {s' : Shared} (h1 : s'.heap.Ns env.locals fun x => ([(S "self", Value.ref ea), (S "what", sv), (S "at", av)] : List (Str × Value)).reverse.lookup x) (p : Pos) (E : Value → Shared → Prop) (Q : Value → Shared → Prop), Q sv s' → wpAny (model pw c.w) (A.deeper env) (eval (nm "what" p) env) Q E s' :=
  fun h1 p E Q q => loc_name hkind ((kd _).trans n3) h1 (u := sv) rfl (by decide) q
 have nat : ∀ {s' : Shared} (h1 : s'.heap.Ns env.locals fun x => ([(S "self", Value.ref ea), (S "what", sv), (S "at", av)] : List (Str × Value)).reverse.lookup x) (p : Pos) (E : Value → Shared → Prop) (Q : Value → Shared → Prop), Q av s' → wpAny (model pw c.w) (A.deeper env) (eval (nm "at" p) env) Q E s' :=
  fun h1 p E Q q => loc_name hkind ((kd _).trans n4) h1 (u := av) rfl (by decide) q
 rw [← e3] at hns
 have keepNs : ∀ {h1 h2 : Heap}, (∀ b o, b ≠ ea → h1.get? b = some o → h2.get? b = some o) → (h1.Ns env.locals fun x => ([(S "self", Value.ref ea), (S "what", sv), (S "at", av)] : List (Str × Value)).reverse.lookup x) → h2.Ns env.locals fun x => ([(S "self", Value.ref ea), (S "what", sv), (S "at", av)] : List (Str × Value)).reverse.lookup x :=
  fun k ⟨o, es, ep, ho, r⟩ => ⟨o, es, ep, k _ _ (e3 ▸ hLn) ho, r⟩
 have he0 := hk _ _ he
 have X0 : (kFrag c.w.params).In h₀ := fun a o e => hk _ _ (X _ _ e)
 have hC36 : c.mg "Exception" = none := mg_none_of c.K c.hg (ge_exc _)
 have hb36 : c.mb "Exception" = some (.type "Exception") := by rw [c.bi _ (by decide)]; kernel_rfl
 rw [dGE_body]
 refine wpAny_execs_cons ?_
 refine wpAny_Expr_any ?_ (by unfold interactive; rw [hkind]; rfl) (noSwap_of ge_noswap0 e1)
 have hbase : attributeBase (nm "Exception" gP.1) (S "__init__") env (eval (nm "Exception" gP.1) env) = eval (nm "Exception" gP.1) env := rfl
 rw [arm_eval_Call, hbase]
 refine wpAny_bind (Name_function_global hkind ((kd _).trans n5) (loadGlobal_builtin (eg ▸ c.hg.keeps fun b o q => hk _ _ (hk0 _ _ q)) hC36 (eb ▸ c.hb.keeps fun b o q => hk _ _ (hk0 _ _ q)) hb36 ?_) (by decide))
 refine wpAny_bind (wpAny_standAt ?_)
 have hs : ([nm "self" gP.2.2.1, nm "what" gP.2.2.2.1] : List PySem.Expr).any isStar = false := rfl
 have hform : methodCallForm (([nm "self" gP.2.2.1, nm "what" gP.2.2.2.1] : List PySem.Expr).length + ([] : List Keyword).length) (backTo gP.2.2.2.2 (starEach [nm "self" gP.2.2.1, nm "what" gP.2.2.2.1] env)) (backToKw gP.2.2.2.2 (keywordEach [] env)) = true := by
  unfold methodCallForm
  rw [(star_none hs).2]
  rfl
 have hpos : methodCallPos true (nm "Exception" gP.1) env gP.2.1 gP.2.2.2.2 = pure gP.2.2.2.2 := by unfold methodCallPos; rw [ge_line]; rfl
 unfold methodCall calleeOf
 rw [hform]
 refine wpAny_bind (wpAny_holding (type_attr (T := "Exception") X0 (by kernel_rfl) (by decide +kernel) (xf_ein c.w.params) (by decide +kernel) (wpAny_bind (wpAny_of_eq hpos ?_))))
 refine callWith_of (P := fun _ => True) (by rw [(star_none hs).1]; rfl) (fun hh _ => ⟨.machine, .inr (.inl rfl), Looks.now⟩) ?_
 refine evalArgs_all hs (args_cons (nself hns _ _ _ (args_cons (nwhat hns _ _ _ (args_nil ⟨trivial, ?_⟩)) (starEach_cons rfl))) (starEach_cons rfl))
 refine exc_parent (rest := [sv]) X0 he0 (show 1 ≤ sizeLine by rw [sizeLine_eq]; decide) ?_
 generalize hh1 : (h₀.push (tupX [sv])).update ea (Obj.mapFields (·.setIfInBounds 0 (.ref h₀.objs.size))) = h1
 have k1 : ∀ b o, b ≠ ea → h₀.get? b = some o → h1.get? b = some o := fun b o hb ho => by
  rw [← hh1]; exact (Heap.get?_update_ne _ _ _ _ hb).trans (Heap.get?_push_of_some _ ho)
 have he1 : h1.get? ea = some (excX h₀.objs.size) := by
  rw [← hh1, Heap.get?_update_self _ (Heap.get?_push_of_some _ he0) rfl]; rfl
 have K36 : ∀ a o, (kFrag c.w.params).lookup a = some o → a ≠ ea := fun a o e q => by
  have := c.K _ _ e
  rw [q, hne] at this; cases this
 have X1 : (kFrag c.w.params).In h1 := fun a o e => k1 _ _ (K36 _ _ e) (X0 _ _ e)
 have ns1 := keepNs k1 hns
 refine wpAny_execs_cons ?_
 refine exc_asg (u := sv) (ov := .ref ea) (fun Q q => nwhat ns1 _ _ _ q) (fun Q q => nself ns1 _ _ _ q) (e1 ▸ ge_noswap1) (e1 ▸ ge_swap1) ?_
 refine exc_set1 (name := S "what") X1 he1 (xf_what _) fun h2 t2 tk1 nn1 k2 he2 hd2 => ?_
 have hds : h1.objs.size ≠ ea := fun q => notLiv h1 (q ▸ ⟨_, he1⟩)
 have X2 : (kFrag c.w.params).In h2 := fun a o e => k2 _ _ (K36 _ _ e) (X1 _ _ e)
 have ns2 := keepNs k2 ns1
 refine wpAny_execs_cons ?_
 refine exc_asg (u := av) (ov := .ref ea) (fun Q q => nat ns2 _ _ _ q) (fun Q q => nself ns2 _ _ _ q) (e1 ▸ ge_noswap2) (e1 ▸ ge_swap2) ?_
 refine exc_set2 (name := S "at") X2 he2 rfl rfl rfl hd2 (xf_at _) rfl ?_ fun h3 t3 hs3 hd3 => ?_
 ·have := putL_len (S "at") (PyData.keyHash c.w.params (S "at")) (.str (S "at") (t2 + 1)) av [⟨PyData.keyHash c.w.params (S "what"), .str (S "what") tk1, sv⟩]
  exact Nat.le_trans this (show 1 + 1 ≤ 1000 by decide)
 have nl : ∀ b o, s.heap.get? b = some o → b ≠ ea → b ≠ h1.objs.size := fun b o ho hb q => notLiv h1 (q ▸ ⟨o, k1 _ _ hb (hk _ _ ho)⟩)
 refine wpAny_execs_nil' (h h3 t3 h₀.objs.size h1.objs.size tk1 (t2 + 1) _ (fun b o hb ho => ?_) ?_ ?_ hd3)
 ·exact (hs3.2 b (nl b o ho hb)).trans (k2 _ _ hb (k1 _ _ hb (hk _ _ ho)))
 ·exact (hs3.2 ea (Ne.symm hds)).trans he2
 ·rintro ⟨o, ho⟩
  exact nl _ o ho hds rfl
end
end
section
open PySem PySem.W PyProof.Rows PySem.Calls Builtin Builtin.ObjectAttr
section
variable {c : Cx} {A : Around} {E : Value → Shared → Prop} {s : Shared} {g : Gh} {m : Mem} {X : Addr → Prop}
theorem at_excEs (P : Params) (tk1 tk2 : Tok) (sv av : Value) : getL (S "at") (excEs P tk1 tk2 sv av) = some (some av) := by
 unfold getL
 rfl
theorem exc_call (I : Inv c A g s m) (hroom : A.depth + 1 < recursionLimit) {sv av : Value} {x : AV} (r : Rep c.w.params g x av) {R : Result → Shared → Prop}
  (h : ∀ ea t dx s' g', Ext A (Liv s.heap) X g s g' s' → Inv c A g' s' m → s'.heap.get? ea = some (exc2 t dx) → Fly c (Liv s.heap) (.ref ea) x s' g' → R (.ok (.ret (.ref ea))) s') :
  codeAny (model pw c.w) A (.call (.ref 59) ⟨[sv, av], []⟩) R s := by
 obtain ⟨sh, sg, sd, st, so⟩ := s
 have n1 : ¬ Liv sh sh.objs.size := notLiv _
 have n2 : ¬ Liv sh (sh.objs.size + 1) := fun ⟨o, q⟩ => Nat.lt_irrefl _ (Nat.lt_of_succ_lt (Heap.lt_size q))
 refine exc_make I.K ?_ (show 2 ≤ sizeLine by rw [sizeLine_eq]; decide)
 have k : ∀ b o, sh.get? b = some o → ((sh.push (tupX [sv, av])).push (excX sh.objs.size)).get? b = some o := fun b o e => Heap.get?_push_of_some _ (Heap.get?_push_of_some _ e)
 have hget : ((sh.push (tupX [sv, av])).push (excX sh.objs.size)).get? (sh.objs.size + 1) = some (excX sh.objs.size) := by heap_get
 refine exc_init (c := c) (s := ⟨(sh.push (tupX [sv, av])).push (excX sh.objs.size), sg, sd, st, so⟩) (fun b o e => k _ _ (I.keeps _ _ e)) (by
   show A.depth + (Code.builtin "type.__call__" ⟨.ref 59 :: [sv, av], []⟩).weight < recursionLimit
   rw [tcall_weight]; exact hroom) hget (by
   cases q : c.h0.get? (sh.objs.size + 1) with
   | none => rfl
   | some o => exact absurd ⟨o, I.keeps _ _ q⟩ n2) fun h' t t1 dx tk1 tk2 n k3 he hdx hd => ?_
 refine ⟨rfl, ?_⟩
 have kk : ∀ b o, sh.get? b = some o → h'.get? b = some o := fun b o e => k3 _ _ (fun q => n2 (q ▸ ⟨o, e⟩)) (k _ _ e)
 have nd : ¬ Liv sh dx := fun ⟨o, q⟩ => hdx ⟨o, k _ _ q⟩
 have ne : sh.objs.size + 1 ≠ dx := fun q => by rw [q, hd] at he; cases he
 have frs : ∀ p, ¬ Liv sh p → g.F p = none ∧ p ∉ g.th.flatten ∧ ¬ IsFr A p := fun p hp => ⟨by
  cases q : g.F p with
  | none => rfl
  | some o' => exact absurd ⟨_, I.frz _ _ q⟩ hp, fun q => hp (I.free _ q).2, I.notFr hp⟩
 have I1 := I.keepAll kk t
 have E1 : Ext A (Liv sh) X g ⟨sh, sg, sd, st, so⟩ g ⟨h', sg, sd, t, so⟩ := Ext.keepAll (s := ⟨sh, sg, sd, st, so⟩) kk t
 have pd : Priv g h' dx := ⟨⟨_, hd⟩, (frs _ nd).1, (frs _ nd).2.1⟩
 have I2 := I1.freeze hd pd (frs _ nd).2.2
 have G1 : Gr g (g.put dx (dictOf (excEs c.w.params tk1 tk2 sv av) n)) := Gr.put pd.nf
 refine h (sh.objs.size + 1) t1 dx _ _ (E1.trans (Ext.freeze pd.nf nd)) I2 he ?_
 refine ⟨sh.objs.size + 1, dx, _, _, rfl, ⟨n2, (frs _ n2).2.1, ?_, he, rfl, rfl, ⟨_, n, av, Gh.put_self, at_excEs .., r.mono G1⟩, rfl⟩, .inl rfl⟩
 rw [Gh.put_ne ne]; exact (frs _ n2).1
theorem raise_made {env : Env} {x : Sem Value} {Q : Flow → Shared → Prop} (hh : A.handled = none)
  (h : wpAny (model pw c.w) A x (fun v s₁ => ∃ e t dx, v = .ref e ∧ (kFrag c.w.params).In s₁.heap ∧ s₁.heap.get? e = some (exc2 t dx) ∧ E (.ref e) s₁) E s) :
  wpAny (model pw c.w) A (raiseStmt env (some x) none) Q E s := by
 have hcB : (Value.ref 59 :: bm59).contains (.type "BaseException") = true := by decide
 unfold raiseStmt
 refine wpAny_bind (wpAny_mono h (fun v s₁ h₁ => ?_) fun _ _ x => x)
 obtain ⟨e, t, dx, rfl, X, he, hE⟩ := h₁
 obtain ⟨hp, g, d, tk, os⟩ := s₁
 have hC : hp.get? 59 = some cls59 := X _ _ (x59 _)
 dsimp only at he
 repeat (first | with_reducible refine wpAny_loadPart_at he ?_ | with_reducible refine wpAny_loadPart_at hC ?_ | (with_reducible refine wpAny_isSubtype_exc hC ?_; rw [hcB]) | wp_step)
 exact wpAny_raiseNew_none hh hE
end
end
section
open PySem PySem.W PyProof.Rows PySem.Calls Builtin Builtin.ObjectAttr
noncomputable abbrev frsOf (l : List Env) : List Addr := l.filterMap (·.frame)
noncomputable abbrev tbO (head : Value) (L : Addr) (fl : Value) (pl : List Value) : Obj := { cls := .type "traceback", dict := none, data := .fields ([head, .ref L, .none, fl, .none] ++ (if pl.isEmpty then List.replicate 6 Value.none else pl)).toArray }
structure NotedX (frs : List Addr) (ea : Addr) (oe : Obj) (vs : Array Value) (fl : Value) (h h' : Heap) : Prop where
 keep : ∀ b o, h.get? b = some o → b ∉ frs → b ≠ ea → vs[1]? ≠ some (.ref b) → h'.get? b = some o
 fr : ∀ b o, h.get? b = some o → b ∈ frs → ∃ sl, h'.get? b = some { o with slots := sl }
 old : ∀ b o, h.get? b = some o → Liv h' b
 ent : ∃ T oT ts, h'.get? ea = some { oe with data := .fields (vs.setIfInBounds 1 (.ref T)) } ∧ ¬ Liv h T ∧ T ≠ ea ∧ h'.get? T = some oT ∧ oT.data = .fields ts ∧ ts[3]? = some fl
section
variable {M : Model} {A : Around} {E : Value → Shared → Prop} {s : Shared}
theorem entryX {base : Heap} {env : Env} {outer : List Env} {L ea : Addr} {oe : Obj} {vs : Array Value} {head : Value} {hn : Bool} {Q : Unit → Shared → Prop} (hfr : A.frames = some (env :: outer)) (hl : s.heap.FunFrames base (env :: outer)) (hf : env.frame = some L)
  (he : s.heap.get? ea = some oe) (hd : oe.data = .fields vs) (hsz : 1 < vs.size) (hne : ea ∉ frsOf (env :: outer)) (hT : ∀ b, vs[1]? = some (.ref b) → b ∉ frsOf (env :: outer))
  (h : ∀ h', NotedX (frsOf (env :: outer)) ea oe vs (rawInt L) s.heap h' → Q () { s with heap := h' }) :
  wpAny M A (do let a ← frameOf env; let pl ← entryPlaceOf L hn; let b ← EntryCells.newEntry head a .none (rawInt L) .none pl; setField (.ref ea) 1 b) Q E s := by
 refine wpAny_bind (wpAny_frameOf_fun hfr hl hf fun h₁ hs₁ => ?_)
 refine wpAny_bind (wpAny_entryPlaceOf fun pl hpl => ?_)
 unfold EntryCells.newEntry newFields
 refine wpAny_bind (wpAny_newObj_type ?_ (hpl.sizeOk5 _ _ _ _ _))
 have he₁ : h₁.get? ea = some oe := (hs₁.2.1 ea hne).trans he
 have he₂ := Heap.get?_push_of_some (h := h₁) (tbO head L (rawInt L) pl) he₁
 refine wpAny_setField he₂ hd hsz (h _ ?_)
 have nT : h₁.objs.size ≠ ea := Nat.ne_of_gt (Heap.lt_size he₁)
 have lv : ∀ b o, s.heap.get? b = some o → Liv h₁ b := fun b o ho => let ⟨sl, q⟩ := hs₁.2.2 b o ho; ⟨_, q⟩
 have k2 : ∀ b o, b ≠ ea → h₁.get? b = some o → ((h₁.push (tbO head L (rawInt L) pl)).update ea (Obj.mapFields (·.setIfInBounds 1 (Value.ref h₁.objs.size)))).get? b = some o :=
  fun b o hb ho => by rw [Heap.get?_update_other _ _ (Ne.symm hb)]; exact Heap.get?_push_of_some _ ho
 have e3 : ((h₁.push (tbO head L (rawInt L) pl)).update ea (Obj.mapFields (·.setIfInBounds 1 (Value.ref h₁.objs.size)))).get? ea = some { oe with data := .fields (vs.setIfInBounds 1 (.ref h₁.objs.size)) } := by
  rw [Heap.get?_update_self _ he₂ (Obj.isFreed_of_fields (Obj.data_mapFields hd _))]
  obtain ⟨oc, od, oda, osl⟩ := oe
  dsimp only at hd
  subst hd; rfl
 refine ⟨fun b o ho nf nb _ => k2 b o nb ((hs₁.2.1 b nf).trans ho), fun b o ho hb => ?_, fun b o ho => ?_, h₁.objs.size, tbO head L (rawInt L) pl, _, e3, ?_, nT, ?_, rfl, ?_⟩
 ·obtain ⟨sl, q⟩ := hs₁.2.2 b o ho
  exact ⟨sl, k2 b _ (fun q => hne (q ▸ hb)) q⟩
 ·by_cases q : b = ea
  ·subst q; exact ⟨_, e3⟩
  ·obtain ⟨o', ho'⟩ := lv b o ho; exact ⟨o', k2 b o' q ho'⟩
 ·rintro ⟨o, ho⟩
  exact notLiv h₁ (lv _ _ ho)
 ·rw [Heap.get?_update_other _ _ (Ne.symm nT)]; exact Heap.get?_push_size h₁ rfl
 ·rcases hpl with rfl | ⟨_, _, _, _, _, _, _, rfl⟩ <;> rfl
theorem noteX {base : Heap} {env : Env} {outer : List Env} {L ea : Addr} {oe : Obj} {vs : Array Value} {Q : Unit → Shared → Prop} (hfr : A.frames = some (env :: outer)) (hl : s.heap.FunFrames base (env :: outer)) (hf : env.frame = some L)
  (he : s.heap.get? ea = some oe) (hd : oe.data = .fields vs) (hne : ea ∉ frsOf (env :: outer))
  (h1 : vs[1]? = some .none ∨ ∃ T oT ts, vs[1]? = some (.ref T) ∧ T ≠ ea ∧ T ∉ frsOf (env :: outer) ∧ s.heap.get? T = some oT ∧ oT.data = .fields ts ∧ ts[3]? = some .none)
  (h : ∀ h', NotedX (frsOf (env :: outer)) ea oe vs (rawInt L) s.heap h' → Q () { s with heap := h' }) : wpAny M A (noteFrame (.ref ea) env) Q E s := by
 unfold noteFrame
 simp only [hf]
 rcases h1 with h1 | ⟨T, oT, ts, h1, hTe, hTf, hT, hdT, h3⟩
 ·refine wpAny_bind (wpAny_field he hd h1 ?_)
  rw [if_neg (by decide)]
  exact entryX hfr hl hf he hd (Array.getElem?_eq_some_iff.mp h1).1 hne (fun b q => by rw [h1] at q; cases q) h
 ·refine wpAny_bind (wpAny_field he hd h1 ?_)
  rw [if_pos (show (Value.ref T != Value.none) = true from by simp)]
  refine wpAny_bind (wpAny_field hT hdT h3 ?_)
  rw [if_neg (show ¬ ((Value.none == rawInt L) = true) from by simp [rawInt])]
  refine wpAny_bind (wpAny_setField hT hdT (Array.getElem?_eq_some_iff.mp h3).1 ?_)
  have other : ∀ b, b ≠ T → (s.heap.update T (Obj.mapFields (·.setIfInBounds 3 Value.none))).get? b = s.heap.get? b := fun b hb => Heap.get?_update_other _ _ (Ne.symm hb)
  have selfT := Heap.get?_update_self (Obj.mapFields (·.setIfInBounds 3 Value.none)) hT (Obj.isFreed_of_fields (Obj.data_mapFields hdT _))
  have nb : ∀ b o, s.heap.get? b = some o → (∀ vs, o.data ≠ .fields vs) → b ≠ T := fun b o hb hnf q => by
   rw [q, hT] at hb; injection hb with hb; subst hb; exact hnf ts hdT
  refine entryX hfr (hl.of_keeps fun b o hb hnf => ⟨o, (other b (nb b o hb hnf)).trans hb, rfl⟩) hf ((other ea (Ne.symm hTe)).trans he) hd (Array.getElem?_eq_some_iff.mp h1).1 hne (fun b q => by rw [h1] at q; cases q; exact hTf) fun h' N => h h' ?_
  have notT : ∀ b, b ∈ frsOf (env :: outer) → b ≠ T := fun b hb q => hTf (q ▸ hb)
  refine ⟨fun b o ho nf nb' nv => N.keep b o ((other b fun q => nv (q ▸ h1)).trans ho) nf nb' nv, fun b o ho hb => N.fr b o ((other b (notT b hb)).trans ho) hb, fun b o ho => ?_, ?_⟩
  ·by_cases q : b = T
   ·subst q; exact N.old _ _ selfT
   ·exact N.old b o ((other b q).trans ho)
  ·obtain ⟨T', oT', ts', x1, x2, x3, x4⟩ := N.ent
   refine ⟨T', oT', ts', x1, fun ⟨o, ho⟩ => x2 ?_, x3, x4⟩
   by_cases q : T' = T
   ·subst q; exact ⟨_, selfT⟩
   ·exact ⟨o, (other T' q).trans ho⟩
theorem landX {ea T : Addr} {oe oT : Obj} {vs ts : Array Value} {fl : Value} {Q : Unit → Shared → Prop} (he : s.heap.get? ea = some oe) (hd : oe.data = .fields vs) (h1 : vs[1]? = some (.ref T)) (hT : s.heap.get? T = some oT) (hdT : oT.data = .fields ts) (h3 : ts[3]? = some fl)
  (h : ∀ h' oT' ts', (∀ b, b ≠ T → h'.get? b = s.heap.get? b) → h'.get? T = some oT' → oT'.data = .fields ts' → ts'[3]? = some .none → Q () { s with heap := h' }) : wpAny M A (setFlight (.ref ea) none) Q E s := by
 have hsz := (Array.getElem?_eq_some_iff.mp h3).1
 unfold setFlight
 refine wpAny_bind (wpAny_field he hd h1 ?_)
 rw [if_pos (show (Value.ref T != Value.none) = true from by simp)]
 refine wpAny_setField hT hdT hsz ?_
 exact h _ _ _ (fun b hb => Heap.get?_update_other _ _ (Ne.symm hb)) (Heap.get?_update_self _ hT (Obj.isFreed_of_fields (Obj.data_mapFields hdT _))) (Obj.data_mapFields hdT _) (by simp [hsz])
end
end
section
open PySem PySem.W PyProof.Rows PySem.Calls Builtin Builtin.ObjectAttr
structure KeptX (A : Around) (P : Addr → Prop) (h h' : Heap) : Prop where
 keep : ∀ b o, h.get? b = some o → ¬ IsFr A b → ¬ P b → h'.get? b = some o
 fr : ∀ b o, h.get? b = some o → IsFr A b → ¬ P b → ∃ sl, h'.get? b = some { o with slots := sl }
 old : ∀ b, Liv h b → Liv h' b
section
variable {c : Cx} {A : Around} {E : Value → Shared → Prop} {s : Shared} {g : Gh} {m : Mem} {B X P : Addr → Prop} {h' : Heap}
theorem KeptX.inv (k : KeptX A P s.heap h') (I : Inv c A g s m) (hP : ∀ b, P b → g.F b = none ∧ b ∉ g.th.flatten ∧ ¬ IsFr A b) (t : Nat) : Inv c A g { s with heap := h', toks := t } m where
 frz := fun a o e => k.keep a o (I.frz a o e) (fun q => by rw [(I.fr_live q).2.1] at e; cases e) fun q => by rw [(hP a q).1] at e; cases e
 base := I.base
 len := I.len
 cell := fun j mo l e1 e2 => (I.cell j mo l e1 e2).mono (.refl g) fun a ha o e => k.keep a o e (fun q => (I.fr_live q).2.2 (flat_ix e2 ha)) fun q => (hP a q).2.1 (flat_ix e2 ha)
 nd := I.nd
 free := fun a ha => let ⟨h1, h2⟩ := I.free a ha; ⟨h1, k.old a h2⟩
 stk := by
  obtain ⟨l, h1, h2⟩ := I.stk
  refine ⟨l, h1, fun env he => ?_⟩
  obtain ⟨a, F, o', es, n', f1, f2, f3, f4, f5⟩ := h2 env he
  have hfr : IsFr A F := ⟨l, env, h1, he, f1⟩
  obtain ⟨sl, q⟩ := k.fr F o' f2 hfr fun q => (hP F q).2.2 hfr
  exact ⟨a, F, _, es, n', f1, q, f3, f4, f5⟩
theorem KeptX.ext (k : KeptX A P s.heap h') (hB : ∀ b, P b → ¬ B b) (t : Nat) : Ext A B X g s g { s with heap := h', toks := t } where
 gens := rfl
 drawn := rfl
 os := rfl
 gr := .refl g
 newF := fun _ h h' => (h' h).elim
 newT := fun _ h => .inl h
 keep := fun a o b e _ _ => by
  by_cases q : IsFr A a
  ·obtain ⟨sl, r⟩ := k.fr a o e q fun z => hB a z b
   exact ⟨sl, r, fun z => absurd q z⟩
  ·exact ⟨o.slots, k.keep a o e q fun z => hB a z b, fun _ => rfl⟩
 live := fun a _ h => k.old a h
theorem Inv.funFrames (I : Inv c A g s m) {l : List Env} (hl : A.frames = some l) : s.heap.FunFrames (hideAll s.heap (frsOf l)) l := by
 obtain ⟨l', h1, h2⟩ := I.stk
 rw [hl] at h1; cases h1
 have go : ∀ r : List Env, (∀ e ∈ r, e ∈ l) → s.heap.FunFrames (hideAll s.heap (frsOf l)) r := by
  intro r
  induction r with
  | nil => exact fun _ => trivial
  | cons e r ih =>
   intro hr
   obtain ⟨a, F, o', es, n', f1, f2, f3, f4, f5⟩ := h2 e (hr e (.head _))
   exact ⟨a, ⟨F, o', f1, hideAll_none _ (List.mem_filterMap.mpr ⟨e, hr e (.head _), f1⟩), f2, fun vs q => by rw [f3] at q; cases q⟩, ih fun e' he' => hr e' (.tail _ he')⟩
 exact go l fun _ h => h
theorem fr_iff {l : List Env} (hl : A.frames = some l) {b : Addr} : IsFr A b ↔ b ∈ frsOf l := by
 constructor
 ·rintro ⟨l', env, h1, h2, h3⟩
  rw [hl] at h1; cases h1
  exact List.mem_filterMap.mpr ⟨env, h2, h3⟩
 ·intro h
  obtain ⟨env, h2, h3⟩ := List.mem_filterMap.mp h
  exact ⟨l, env, hl, h2, h3⟩
theorem Inv.fr_dict (I : Inv c A g s m) {b : Addr} (h : IsFr A b) {o : Obj} (ho : s.heap.get? b = some o) : ∀ vs, o.data ≠ .fields vs := by
 obtain ⟨l, env, h1, h2, h3⟩ := h
 obtain ⟨l', q1, q2⟩ := I.stk
 rw [h1] at q1; cases q1
 obtain ⟨a, F, o', es, n', f1, f2, f3, f4, f5⟩ := q2 env h2
 rw [h3] at f1; cases f1
 rw [ho] at f2; cases f2
 intro vs q; rw [f3] at q; cases q
noncomputable def FlyAt (c : Cx) (B : Addr → Prop) (e : Value) (x : AV) (fl : Value) (s : Shared) (g : Gh) : Prop :=
 ∃ ea dx oe vs, e = .ref ea ∧ Exc c B x s g ea dx oe vs ∧ ∃ t oT ts, TbAt B s g ea vs fl t oT ts
theorem FlyAt.fly {e : Value} {x : AV} (h : FlyAt c B e x .none s g) : Fly c B e x s g := by
 obtain ⟨ea, dx, oe, vs, h1, h2, h3⟩ := h
 exact ⟨ea, dx, oe, vs, h1, h2, .inr h3⟩
theorem TbAt.fr (I : Inv c A g s m) {ea t : Addr} {vs ts : Array Value} {fl : Value} {oT : Obj} (k : TbAt B s g ea vs fl t oT ts) : ¬ IsFr A t := fun q => I.fr_dict q k.get ts k.data
theorem Exc.fr (I : Inv c A g s m) {x : AV} {ea dx : Addr} {oe : Obj} {vs : Array Value} (k : Exc c B x s g ea dx oe vs) : ¬ IsFr A ea := fun q => I.fr_dict q k.get vs k.data
theorem Exc.own (I : Inv c A g s m) {x : AV} {ea dx : Addr} {oe : Obj} {vs : Array Value} (k : Exc c B x s g ea dx oe vs) (h : vs[1]? = some .none ∨ ∃ t oT ts, TbAt B s g ea vs .none t oT ts) (b : Addr) (hb : b = ea ∨ vs[1]? = some (.ref b)) :
  (g.F b = none ∧ b ∉ g.th.flatten ∧ ¬ IsFr A b) ∧ ¬ B b := by
 rcases hb with rfl | q
 ·exact ⟨⟨k.nf, k.nt, k.fr I⟩, k.nb⟩
 ·rcases h with h | ⟨t, oT, ts, y⟩
  ·rw [h] at q; cases q
  ·obtain rfl : t = b := by have := y.at_; rw [q] at this; cases this; rfl
   exact ⟨⟨y.nf, y.nt, y.fr I⟩, y.nb⟩
theorem look_ok (I : Inv c A g s m) {env : Env} {outer : List Env} {L : Addr} (hfr : A.frames = some (env :: outer)) (hf : env.frame = some L) (hB : ∀ a, B a → Liv s.heap a) {e : Value} {x : AV} (f : Fly c B e x s g) {Q : Unit → Shared → Prop}
  (hQ : ∀ s', Ext A B X g s g s' → Inv c A g s' m → FlyAt c B e x (rawInt L) s' g → Q () s') : wpAny (model pw c.w) A (noteFrame e env) Q E s := by
 obtain ⟨ea, dx, oe, vs, rfl, k, h12⟩ := f
 refine noteX hfr (I.funFrames hfr) hf k.get k.data (fun q => k.fr I ((fr_iff hfr).mpr q)) (h12.imp id fun ⟨t, oT, ts, y⟩ => ⟨t, oT, ts, y.at_, y.ne, fun q => y.fr I ((fr_iff hfr).mpr q), y.get, y.data, y.fl⟩) fun h' N => ?_
 have K : KeptX A (fun b => b = ea ∨ vs[1]? = some (.ref b)) s.heap h' := ⟨fun b o ho nf np => N.keep b o ho (fun q => nf ((fr_iff hfr).mpr q)) (fun q => np (.inl q)) fun q => np (.inr q),
  fun b o ho hb _ => N.fr b o ho ((fr_iff hfr).mp hb), fun b ⟨o, ho⟩ => N.old b o ho⟩
 have hP := k.own I h12
 obtain ⟨T, oT, ts, z1, z2, z3, z4, z5, z6⟩ := N.ent
 have hsz : 1 < vs.size := h12.elim (fun q => (Array.getElem?_eq_some_iff.mp q).1) fun ⟨_, _, _, y⟩ => (Array.getElem?_eq_some_iff.mp y.at_).1
 refine hQ { s with heap := h', toks := s.toks } (K.ext (fun b q => (hP b q).2) s.toks) (K.inv I (fun b q => (hP b q).1) s.toks) ?_
 exact ⟨ea, dx, _, _, rfl, ⟨k.nb, k.nt, k.nf, z1, k.cls, k.dict, k.ent, rfl⟩, T, oT, ts, by simp [hsz], fun q => z2 (hB _ q), z3, fun q => z2 (I.free _ q).2, Option.not_isSome_iff_eq_none.mp fun q => z2 ⟨_, I.frz _ _ (Option.eq_some_of_isSome q)⟩, z4, z5, z6⟩
theorem land_ok (I : Inv c A g s m) {e : Value} {x : AV} {fl : Value} (f : FlyAt c B e x fl s g) {Q : Unit → Shared → Prop}
  (hQ : ∀ s', Ext A B X g s g s' → Inv c A g s' m → FlyAt c B e x .none s' g → Q () s') : wpAny (model pw c.w) A (setFlight e none) Q E s := by
 obtain ⟨ea, dx, oe, vs, rfl, k, t, oT, ts, y⟩ := f
 refine landX k.get k.data y.at_ y.get y.data y.fl fun h' oT' ts' k1 k2 k3 k4 => ?_
 have K : KeptX A (fun b => b = t) s.heap h' := ⟨fun b o ho nf np => (k1 b np).trans ho, fun b o ho hb np => ⟨o.slots, (k1 b np).trans ho⟩, fun b ⟨o, ho⟩ => by
  by_cases q : b = t
  ·subst q; exact ⟨_, k2⟩
  ·exact ⟨o, (k1 b q).trans ho⟩⟩
 exact hQ { s with heap := h', toks := s.toks } (K.ext (fun b q => q ▸ y.nb) s.toks) (K.inv I (fun b q => q ▸ ⟨y.nf, y.nt, y.fr I⟩) s.toks)
  ⟨ea, dx, oe, vs, rfl, ⟨k.nb, k.nt, k.nf, (k1 ea (Ne.symm y.ne)).trans k.get, k.cls, k.dict, k.ent, k.data⟩, t, oT', ts', y.at_, y.nb, y.ne, y.nt, y.nf, k2, k3, k4⟩
theorem leave_ok (I : Inv c A g s m) {env : Env} {outer : List Env} {L : Addr} (hfr : A.frames = some (env :: outer)) (hf : env.frame = some L) (hB : ∀ a, B a → Liv s.heap a) {e : Value} {x : AV} (f : Fly c B e x s g) {Q : Unit → Shared → Prop}
  (hQ : ∀ s', Ext A B X g s g s' → Inv c A g s' m → Fly c B e x s' g → Q () s') : wpAny (model pw c.w) A (leaving env e) Q E s := by
 unfold leaving
 refine wpAny_bind (look_ok (X := X) I hfr hf hB f fun s1 e1 i1 f1 => ?_)
 exact land_ok (X := X) i1 f1 fun s2 e2 i2 f2 => hQ s2 (e1.trans e2) i2 f2.fly
end
end
section
open PySem PySem.W PyProof.Rows PySem.Calls Builtin Builtin.ObjectAttr
theorem xf_glob (P : Params) : nsIn (kFrag P) mainGlobals "Refusal" = some (some (.ref 59)) := by kernel_rfl
section
variable {c : Cx} {A : Around} {E : Value → Shared → Prop} {s : Shared} {g : Gh} {m : Mem} {B X P : Addr → Prop} {C : Cfg} {L : Addr}
theorem Inv.mark (I : Inv c A g s m) (h : Option Value) : Inv c (A.mark h) g s m := ⟨I.frz, I.base, I.len, I.cell, I.nd, I.free, I.stk⟩
theorem Inv.unmark {h : Option Value} (I : Inv c (A.mark h) g s m) : Inv c A g s m := ⟨I.frz, I.base, I.len, I.cell, I.nd, I.free, I.stk⟩
theorem Ext.unmark {h : Option Value} {g' : Gh} {s' : Shared} (x : Ext (A.mark h) B X g s g' s') : Ext A B X g s g' s' := x.around fun a _ q => q
theorem loc_nil {cl : List (Str × Addr)} {lo : Lo} (l : LocOK c C L cl g s lo) : LocOK c C L cl g s [] := l.sub fun y w h => by cases h
theorem loc0 {m' : Str → Option Value} (h : s.heap.Ns L m') (nf : g.F L = none) (nt : L ∉ g.th.flatten) (hcl : ∀ x, C.scope.names.lookup x ≠ some .cell) : LocOK c C L [] g s [] :=
 ⟨⟨m', h, fun x v q => by cases q⟩, nf, nt, (fun _ _ h => nomatch h), (fun x hx => absurd hx (hcl x)), (fun _ _ _ h => nomatch h)⟩
theorem catch_ok {env : Env} {outer : List Env} (hfr : A.frames = some (env :: outer)) (hf : env.frame = some L) (eo : EnvOK C env L) (hcl : ∀ x, C.scope.names.lookup x ≠ some .cell)
  {n : Str} (hx : C.scope.names.lookup (S "Refusal") = some .globalImplicit) (hn : C.scope.names.lookup n = some .local) (hnd : (n == ("__debug__" : Str)) = false)
  (I : Inv c A g s m) {lo : Lo} (hL : LocOK c C L [] g s lo) (hB : ∀ a, B a → Liv s.heap a) (hBL : B L) (hX : X L) {e : Value} {x : Int} (f : Fly c B e (.int x) s g) {hp rp np ap xp : Pos} {Q : Flow → Shared → Prop}
  (hQ : ∀ u s', Ext A B X g s g s' → Inv c A g s' m → LocOK c C L [] g s' [] → Rep c.w.params g (.int x) u → Q (.ret u) s') :
  wpAny (model pw c.w) A (noteFrame e env) (fun _ s2 => wpAny (model pw c.w) A (setFlight e none) (fun _ s3 => wpAny (model pw c.w) A (handleBy e env [.ExceptHandler (some (.Name (S "Refusal") xp)) (some n) [.Return (some (.Attribute (.Name n np) (S "at") ap)) rp] hp]) Q E s3) E s2) E s := by
 have hk : env.scope.kind = .function := eo.scope ▸ eo.kind
 have kd : ∀ x, env.kindOf x = C.scope.names.lookup x := fun x => by unfold Env.kindOf; rw [eo.scope]
 refine look_ok (X := noX) I hfr hf hB f fun s1 e1 i1 f1 => ?_
 refine land_ok (X := noX) i1 f1 fun s2 e2 i2 f2 => ?_
 obtain ⟨ea, rfl, oe, he, hec⟩ : ∃ ea, e = .ref ea ∧ ∃ oe, s2.heap.get? ea = some oe ∧ oe.cls = .ref 59 := let ⟨ea, _, oe, _, h, k, _⟩ := f2; ⟨ea, h, oe, k.get, k.cls⟩
 have hC : ∀ {h : Heap}, (∀ b o, c.h0.get? b = some o → h.get? b = some o) → h.get? 59 = some cls59 := fun k => k _ _ (c.K _ _ (x59 _))
 refine wpAny_handleBy_cons (codeAny_handlers_test ?_) (by intro q; cases q)
 refine Name_function_global hk ((kd _).trans hx) (loadGlobal_global (eo.globals ▸ c.hg.keeps i2.keeps) (mg_of c.K c.hg (xf_glob _)) ?_) (by decide)
 have hmatch : ∀ {A' : Around} {E : Value → Shared → Prop} {Q : Bool → Shared → Prop}, Q true s2 → wpAny (model pw c.w) A' (excMatches (.ref ea) (.ref 59)) Q E s2 := fun q => by
  have hh := hC i2.keeps
  obtain ⟨sh, sg, sd, st, so⟩ := s2
  exact wpAny_excMatches_sub_self hh he hec (by decide) q
 refine hmatch ?_
 show codeAny _ _ _ _ _
 refine codeAny_handlers_suite_as ?_
 refine land_ok (X := noX) (i2.mark _) f2 fun s3 e3 i3 f3 => ?_
 have E3 : Ext A B noX g s g s3 := (e1.trans e2).trans e3.unmark
 have I3 : Inv c A g s3 m := i3.unmark
 have hb : ∀ a, OwnA L ([] : List (Str × Addr)) a → B a := fun a ha => by
  rcases ha with rfl | ⟨_, q⟩
  ·exact hBL
  ·cases q
 have L3 := hL.ext E3 hb fun _ _ => id
 obtain ⟨mm, hns, _⟩ := L3.ns
 have pcl : ∀ k, (env.scope.kind == .class || (env.scope.kind == .module && k)) = false := fun k => by rw [hk]; rfl
 refine wpAny_storeName_local ((kd _).trans hn) (eo.locals.symm ▸ hns) (fun h4 hns4 hs4 => ?_) (pcl _)
 have hdic : ∀ {h : Heap} {mm : Str → Option Value}, h.Ns L mm → ∃ o es n, h.get? L = some o ∧ o.data = .dict es n := fun ⟨o, es, ep, ho, hd, _⟩ => ⟨o, es, ep, ho, hd⟩
 rw [eo.locals] at hns4 hs4
 obtain ⟨oL4, esL4, nL4, hL4, hdL4⟩ := hdic hns4
 have E4 : Ext A B X g s g { s3 with heap := h4, toks := s3.toks + 1 } := (E3.weaken (fun _ h => h) fun _ h => h.elim).trans (Ext.own' hX hs4 ⟨_, hL4⟩)
 have I4 : Inv c A g { s3 with heap := h4, toks := s3.toks + 1 } m := I3.own L3 (.inl rfl) hs4 fun _ _ _ _ _ => ⟨oL4, esL4, nL4, hL4, hdL4⟩
 have L4 : LocOK c C L [] g { s3 with heap := h4, toks := s3.toks + 1 } [] := loc0 hns4 L3.nf L3.nt hcl
 obtain ⟨ea', dx, oe3, vs, h1, ⟨_, _, _, q5, q6, q7, ⟨es, n', v, q8, q9, q10⟩, q11⟩, _⟩ := f3
 cases h1
 have neL : ea ≠ L := fun q => by
  obtain ⟨o, es, n, ho, hd⟩ := hdic hns
  rw [q, ho] at q5; cases q5; rw [hd] at q11; cases q11
 have he4 : h4.get? ea = some oe3 := (hs4.2 ea neL).trans q5
 have hd4 : h4.get? dx = some (dictOf es n') := I4.frz _ _ q8
 refine wpAny_execs_cons (wpAny_Return_some (Attribute_name (wpAny_Name (wpAny_loadName_local hk ((kd _).trans hn) (eo.locals.symm ▸ hns4) (v := .ref ea) (by rw [if_pos rfl]) ?_) hnd)))
 have X4 : (kFrag c.w.params).In h4 := fun a o q => I4.keeps _ _ (c.K _ _ q)
 refine exc_get (s := { s3 with heap := h4, toks := s3.toks + 1 }) X4 he4 q6 (by unfold notCls; rw [q11]) q7 hd4 (xf_fat _) q9 ?_ ?_
 ·obtain ⟨_, rfl⟩ := q10.inv; rfl
 show wpAny _ _ _ _ _ _
 refine wpAny_nameGoes ((kd _).trans hn) (eo.locals.symm ▸ hns4) (pcl _) fun h5 m5 hns5 hs5 => ?_
 rw [eo.locals] at hns5 hs5
 obtain ⟨oL5, esL5, nL5, hL5, hdL5⟩ := hdic hns5
 refine hQ v _ (E4.trans (Ext.own' (s := { s3 with heap := h4, toks := s3.toks + 1 }) (t := s3.toks + 1 + 1 + 1) hX hs5 ⟨_, hL5⟩)) (I4.own (t := s3.toks + 1 + 1 + 1) L4 (.inl rfl) hs5 fun _ _ _ _ _ => ⟨oL5, esL5, nL5, hL5, hdL5⟩) (loc0 hns5 L3.nf L3.nt hcl) q10
end
end
section
open PySem PySem.W PyProof.Rows PySem.Calls
set_option backward.match.sparseCases false
noncomputable def T.catchT {α : Type} : T α → (AV → Mem → T α) → T α
 | .leaf a, _ => .leaf a
 | .exc x m, f => f x m
 | .ite c t e, f => .ite c (t.catchT f) (e.catchT f)
 | .req p t, f => .req p (t.catchT f)
 | .stuck w, _ => .stuck w
theorem T.catch_all {α : Type} {f : AV → Mem → T α} {K : α → Prop} {KX : AV → Mem → Prop} : ∀ {t : T α}, (t.catchT f).All K KX → t.All K fun x m => (f x m).All K KX
 | .leaf _, h => h
 | .exc _ _, h => h
 | .ite _ _ _, h => ⟨fun c => T.catch_all (h.1 c), fun c => T.catch_all (h.2 c)⟩
 | .req _ _, h => ⟨h.1, T.catch_all h.2⟩
 | .stuck _, h => h.elim
noncomputable def isRefusal (C : Cfg) (lo : Lo) (e : PySem.Expr) : Bool := match nameV e with
 | some p => (p.1 == S "Refusal") && (C.scope.names.lookup p.1 == some .globalImplicit) && (getLo p.1 lo).isNone
 | none => false
theorem isRefusal_s {C : Cfg} {lo : Lo} {e : PySem.Expr} (h : isRefusal C lo e = true) : ∃ xp, e = .Name (S "Refusal") xp ∧ C.scope.names.lookup (S "Refusal") = some .globalImplicit := by
 unfold isRefusal at h
 cases q : nameV e with
 | none => rw [q] at h; exact nomatch h
 | some p =>
  rw [q] at h
  have h := Bool.and_eq_true_iff.mp (Bool.and_eq_true_iff.mp h).1
  rw [nameV_s q]
  have e := beq_iff_eq.mp h.1
  exact ⟨p.2, by rw [e], e ▸ beq_iff_eq.mp h.2⟩
noncomputable def sRaise (st : Stmt) : Option (Option PySem.Expr × Option PySem.Expr × Pos) := match st with
 | .Raise a b p => some (a, b, p)
 | _ => none
noncomputable def eCall (e : PySem.Expr) : Option (PySem.Expr × List PySem.Expr × List Keyword × Pos) := match e with
 | .Call f es ks p => some (f, es, ks, p)
 | _ => none
noncomputable def sRet (st : Stmt) : Option (Option PySem.Expr × Pos) := match st with
 | .Return a p => some (a, p)
 | _ => none
noncomputable def sTry (st : Stmt) : Option (List Stmt × List ExceptHandler × List Stmt × List Stmt × Pos) := match st with
 | .Try a b o f p => some (a, b, o, f, p)
 | _ => none
noncomputable def eAttr (e : PySem.Expr) : Option (PySem.Expr × Str × Pos) := match e with
 | .Attribute a b p => some (a, b, p)
 | _ => none
noncomputable def ifOf (st : Stmt) : Option (PySem.Expr × List Stmt × List Stmt × Pos) := match st with
 | .If t b o p => some (t, b, o, p)
 | _ => none
theorem sRaise_s {st : Stmt} {r} (h : sRaise st = some r) : st = .Raise r.1 r.2.1 r.2.2 := (by cases st <;> first | exact trivial | exact rfl : OptP (fun r => st = .Raise r.1 r.2.1 r.2.2) (sRaise st)).of h
theorem eCall_s {e : PySem.Expr} {r} (h : eCall e = some r) : e = .Call r.1 r.2.1 r.2.2.1 r.2.2.2 := (by cases e <;> first | exact trivial | exact rfl : OptP (fun r => e = .Call r.1 r.2.1 r.2.2.1 r.2.2.2) (eCall e)).of h
theorem sRet_s {st : Stmt} {r} (h : sRet st = some r) : st = .Return r.1 r.2 := (by cases st <;> first | exact trivial | exact rfl : OptP (fun r => st = .Return r.1 r.2) (sRet st)).of h
theorem sTry_s {st : Stmt} {r} (h : sTry st = some r) : st = .Try r.1 r.2.1 r.2.2.1 r.2.2.2.1 r.2.2.2.2 := (by cases st <;> first | exact trivial | exact rfl : OptP (fun r => st = .Try r.1 r.2.1 r.2.2.1 r.2.2.2.1 r.2.2.2.2) (sTry st)).of h
theorem eAttr_s {e : PySem.Expr} {r} (h : eAttr e = some r) : e = .Attribute r.1 r.2.1 r.2.2 := (by cases e <;> first | exact trivial | exact rfl : OptP (fun r => e = .Attribute r.1 r.2.1 r.2.2) (eAttr e)).of h
theorem ifOf_s {st : Stmt} {r} (h : ifOf st = some r) : st = .If r.1 r.2.1 r.2.2.1 r.2.2.2 := (by cases st <;> first | exact trivial | exact rfl : OptP (fun r => st = .If r.1 r.2.1 r.2.2.1 r.2.2.2) (ifOf st)).of h
noncomputable def okIf {α : Type} (b : Bool) (x : α) : Option α := match b with
 | true => some x
 | false => none
theorem okIf_s {α : Type} {b : Bool} {x y : α} (h : okIf b x = some y) : b = true ∧ x = y := by
 cases b with
 | false => exact nomatch h
 | true => exact ⟨rfl, Option.some.inj h⟩
noncomputable def retOf (b : List Stmt) : Option (PySem.Expr × Pos) := (oneV b).bind fun st => (sRet st).bind fun q => q.1.map fun e => (e, q.2)
theorem retOf_s {b : List Stmt} {r} (h : retOf b = some r) : b = [.Return (some r.1) r.2] := by
 obtain ⟨st, h1, h⟩ := bind_s h
 obtain ⟨q, h2, h⟩ := bind_s h
 obtain ⟨e, h3, h⟩ := map_s h
 rw [oneV_s h1, sRet_s h2, h3, h]
noncomputable def raiseOf (st : Stmt) : Option (PySem.Expr × List PySem.Expr × Pos × Pos) := (sRaise st).bind fun q => q.1.bind fun e => (eCall e).bind fun k => okIf (k.2.2.1.isEmpty && q.2.1.isNone) (k.1, k.2.1, k.2.2.2, q.2.2)
noncomputable def atOf (b : List Stmt) : Option ((Str × Pos) × (Str × Pos) × Pos) := (retOf b).bind fun r => (eAttr r.1).bind fun a => (nameV a.1).map fun n => (n, (a.2.1, a.2.2), r.2)
noncomputable abbrev atB (r : (Str × Pos) × (Str × Pos) × Pos) : List Stmt := [.Return (some (.Attribute (.Name r.1.1 r.1.2) r.2.1.1 r.2.1.2)) r.2.2]
theorem atOf_s {b : List Stmt} {r} (h : atOf b = some r) : b = atB r := by
 obtain ⟨q, h1, h⟩ := bind_s h
 obtain ⟨a, h2, h⟩ := bind_s h
 obtain ⟨n, h3, h⟩ := map_s h
 rw [retOf_s h1, eAttr_s h2, nameV_s h3, h]
noncomputable abbrev HdP := PySem.Expr × Str × ((Str × Pos) × (Str × Pos) × Pos) × Pos
noncomputable abbrev hdE (h : HdP) : ExceptHandler := .ExceptHandler (some h.1) (some h.2.1) (atB h.2.2.1) h.2.2.2
noncomputable def hdOf (h : ExceptHandler) : Option HdP := match h with
 | .ExceptHandler t n b p => t.bind fun x => n.bind fun n => (atOf b).map fun k => (x, n, k, p)
theorem hdOf_s {h : ExceptHandler} {r} (q : hdOf h = some r) : h = hdE r := by
 cases h with
 | ExceptHandler t n b p =>
  obtain ⟨x, h1, q⟩ := bind_s q
  obtain ⟨n, h2, q⟩ := bind_s q
  obtain ⟨k, h3, q⟩ := map_s q
  rw [h1, h2, atOf_s h3, q]
noncomputable abbrev TryP := (PySem.Expr × Pos) × HdP × Pos
noncomputable abbrev tryE (q : TryP) : Stmt := .Try [.Return (some q.1.1) q.1.2] [hdE q.2.1] [] [] q.2.2
noncomputable def tryOf (st : Stmt) : Option TryP := (sTry st).bind fun q => (retOf q.1).bind fun r => (oneV q.2.1).bind fun h => (hdOf h).bind fun k => okIf (q.2.2.1.isEmpty && q.2.2.2.1.isEmpty) (r, k, q.2.2.2.2)
theorem raiseOf_s {st : Stmt} {r} (h : raiseOf st = some r) : st = .Raise (some (.Call r.1 r.2.1 [] r.2.2.1)) none r.2.2.2 := by
 obtain ⟨q, h1, h⟩ := bind_s h
 obtain ⟨e, h2, h⟩ := bind_s h
 obtain ⟨k, h3, h⟩ := bind_s h
 obtain ⟨c, h⟩ := okIf_s h
 have c := Bool.and_eq_true_iff.mp c
 rw [sRaise_s h1, h2, eCall_s h3, List.isEmpty_iff.mp c.1, Option.isNone_iff_eq_none.mp c.2, ← h]
theorem tryOf_s {st : Stmt} {q : TryP} (h : tryOf st = some q) : st = tryE q := by
 obtain ⟨p, h1, h⟩ := bind_s h
 obtain ⟨r, h2, h⟩ := bind_s h
 obtain ⟨k, h3, h⟩ := bind_s h
 obtain ⟨x, h4, h⟩ := bind_s h
 obtain ⟨c, h⟩ := okIf_s h
 have c := Bool.and_eq_true_iff.mp c
 rw [sTry_s h1, retOf_s h2, oneV_s h3, hdOf_s h4, List.isEmpty_iff.mp c.1, List.isEmpty_iff.mp c.2, ← h]
noncomputable def excOf (y : List AV) (m : Mem) : T ((Fl × Lo) × Mem) := match y with
 | [] => .stuck "raise"
 | _ :: r => optT (oneV r) "raise" fun a => .exc a m
noncomputable def raiseT (C : Cfg) (R : Rec) (f : PySem.Expr) (es : List PySem.Expr) (lo : Lo) (m : Mem) : T ((Fl × Lo) × Mem) := condT (isRefusal C lo f && !es.any isStar) "raise" ((evs R es lo m).bind fun y => excOf y.1 y.2)
noncomputable def tryT (C : Cfg) (R : Rec) (q : TryP) (lo : Lo) (m : Mem) : T ((Fl × Lo) × Mem) := condT (isRefusal C lo q.2.1.1 && (q.2.1.2.1 == q.2.1.2.2.1.1.1) && (C.scope.names.lookup q.2.1.2.1 == some .local) && !(q.2.1.2.1 == ("__debug__" : Str)) && (q.2.1.2.2.1.2.1.1 == S "at")) "try"
 (((R.ev q.1.1 lo m).bind fun x => .leaf ((.ret x.1, lo), x.2)).catchT fun x m' => optT (aInt x) "try" fun k => .leaf ((.ret (.int k), []), m'))
noncomputable def ifX (C : Cfg) (R : Rec) (F : List Stmt → Lo → Mem → T ((Fl × Lo) × Mem)) (st : Stmt) (lo : Lo) (m : Mem) : T ((Fl × Lo) × Mem) := match ifOf st with
 | some p => (R.tr p.1 lo m).bind fun x => .ite x.1 (F p.2.1 lo x.2) (F p.2.2.1 lo x.2)
 | none => exT C R st lo m
noncomputable def tryX (C : Cfg) (R : Rec) (F : List Stmt → Lo → Mem → T ((Fl × Lo) × Mem)) (st : Stmt) (lo : Lo) (m : Mem) : T ((Fl × Lo) × Mem) := match tryOf st with
 | some q => tryT C R q lo m
 | none => ifX C R F st lo m
noncomputable def stepX (C : Cfg) (R : Rec) (F : List Stmt → Lo → Mem → T ((Fl × Lo) × Mem)) (st : Stmt) (lo : Lo) (m : Mem) : T ((Fl × Lo) × Mem) := match raiseOf st with
 | some p => raiseT C R p.1 p.2.1 lo m
 | none => tryX C R F st lo m
noncomputable def exX (C : Cfg) (R : Rec) : Nat → List Stmt → Lo → Mem → T ((Fl × Lo) × Mem)
 | 0, _, _, _ => .stuck "fuel"
 | _ + 1, [], lo, m => leafN lo m
 | k + 1, st :: r, lo, m => (stepX C R (exX C R k) st lo m).bind fun x => match x.1.1 with
  | .next => exX C R k r x.1.2 x.2
  | f => .leaf ((f, x.1.2), x.2)
section
variable {c : Cx} {C : Cfg} {n : Nat} {A : Around} {env : Env} {L : Addr} {s : Shared} {g : Gh} {lo lo' : Lo} {m : Mem} {R : Rec} {B X : Addr → Prop}
theorem refusal_name (h : At c C n A env L s g lo m) {f : PySem.Expr} (hf : isRefusal C lo f = true) {A' : Around} {Q : Value → Shared → Prop} {E : Value → Shared → Prop} (q : Q (.ref 59) s) : wpAny (model pw c.w) A' (eval f env) Q E s := by
 obtain ⟨xp, rfl, h2⟩ := isRefusal_s hf
 exact Name_function_global (h.eo.scope ▸ h.eo.kind) (by unfold Env.kindOf; rw [h.eo.scope]; exact h2) (loadGlobal_global (h.eo.globals ▸ c.hg.keeps h.inv.keeps) (mg_of c.K c.hg (xf_glob _)) q) (by decide)
theorem excOf_all {y : List AV} {K : (Fl × Lo) × Mem → Prop} {KX : AV → Mem → Prop} (h : (excOf y m).All K KX) : ∃ x a, y = [x, a] ∧ KX a m := by
 cases y with
 | nil => exact h.elim
 | cons x r => obtain ⟨a, h1, h⟩ := optT_all h; exact ⟨x, a, by rw [oneV_s h1], h⟩
theorem ex_raise (hS : SoundS c C n R) (h : At c C n A env L s g lo m) (f : PySem.Expr) (es : List PySem.Expr) (cp p : Pos) :
  Tri c A (OwnA L env.cells) s g (exec (.Raise (some (.Call f es [] cp)) none p) env) (FlowR c C L env.cells) (raiseT C R f es lo m) := by
 refine Tri.cond fun hc => fun Q E K KX hA hQ hE => ?_
 have hc := Bool.and_eq_true_iff.mp hc
 have h2 : es.any isStar = false := Bool.not_eq_true' _ ▸ hc.2
 obtain ⟨xp, rfl, _⟩ := isRefusal_s hc.1
 rw [arm_exec_Raise]
 refine wpAny_bind (wpAny_standAt (raise_made h.room.1 ?_))
 show wpAny _ _ (do let v ← eval (.Call (.Name (S "Refusal") xp) es [] cp) env; standAt p; pure v) _ _ _
 refine wpAny_bind ?_
 rw [arm_eval_Call_Name']
 refine wpAny_bind (refusal_name h hc.1 ?_)
 refine callWith_of (P := fun hh => ∀ b o, c.h0.get? b = some o → hh.get? b = some o) (by rw [(star_none h2).1]; rfl) (fun hh q => keep_K c (xf_keep _) _ _ q) ?_
 refine evalArgs_all h2 ((evs_ok hS.e cp es h).useN hA hQ hE fun vs xs s1 g1 m1 e1 i1 r1 k1 hQ1 hE1 => ⟨i1.keeps, ?_⟩)
 obtain ⟨a0, a, hx, k1⟩ := excOf_all k1
 rw [show xs = _ from hx] at r1
 obtain ⟨sv, av, rfl, r2, r3⟩ := reps2 r1.1
 refine wpAny_call (exc_call (X := OwnA L env.cells) i1 (Nat.lt_of_le_of_lt (Nat.add_le_add_left (by omega : 1 ≤ 4 * n + 4) _) (Nat.add_assoc _ _ _ ▸ h.room.2.1)) r3 fun ea t dx s2 g2 e2 i2 he f2 => ?_)
 exact wpAny_bind (wpAny_standAt (wpAny_pure ⟨ea, t, dx, rfl, fun a o q => i2.keeps _ _ (c.K _ _ q), he, hE1 _ _ _ _ _ e2 i2 f2 k1⟩))
theorem ex_try (hS : SoundS c C n R) (h : At c C n A env L s g lo m) {outer : List Env} (hfr : A.frames = some (env :: outer)) (hf : env.frame = some L) (hc0 : env.cells = []) (hcl : ∀ x, C.scope.names.lookup x ≠ some .cell) (q : TryP) :
  Tri c A (OwnA L env.cells) s g (exec (tryE q) env) (FlowR c C L env.cells) (tryT C R q lo m) := by
 refine Tri.cond fun hc => fun Q E K KX hA hQ hE => ?_
 obtain ⟨⟨e, rp⟩, ⟨x, n1, ⟨⟨n2, np⟩, ⟨a, ap⟩, p2⟩, hp⟩, p⟩ := q
 have hc := Bool.and_eq_true_iff.mp hc
 have c1 := Bool.and_eq_true_iff.mp hc.1
 have c2 := Bool.and_eq_true_iff.mp c1.1
 have c3 := Bool.and_eq_true_iff.mp c2.1
 have h4 : (n1 == ("__debug__" : Str)) = false := Bool.not_eq_true' _ ▸ c1.2
 obtain rfl : n1 = n2 := beq_iff_eq.mp c3.2
 obtain rfl : a = _ := beq_iff_eq.mp hc.2
 obtain ⟨xp, rfl, hx⟩ : ∃ xp, x = _ ∧ _ := isRefusal_s c3.1
 refine wpAny_Try_except ?_
 have hA := T.all_bind.mp (T.catch_all hA)
 refine wpAny_execs_cons (wpAny_Return_some (hS.e.ev h e _ _ _ _ hA (fun u v s1 g1 m1 e1 i1 r1 k1 => ?_) fun ev x s1 g1 m1 e1 i1 f1 k1 => ?_))
 ·exact hQ _ _ _ _ _ e1.noX i1 ⟨.ret r1, (h.ext e1 i1).loc⟩ k1
 ·obtain ⟨k, hk, k1⟩ := optT_all k1
  rw [aInt_s hk] at f1
  have L1 : LocOK c C L [] g1 s1 lo := by rw [← hc0]; exact (h.ext e1 i1).loc
  refine catch_ok (X := OwnA L env.cells) (B := Liv s.heap) hfr hf h.eo hcl hx (beq_iff_eq.mp c2.2) h4 i1 L1 (fun a q => e1.live a q q) (h.loc.lt L (.inl rfl)) (.inl rfl) f1 fun u s2 e2 i2 l2 r2 => ?_
  exact hQ _ _ _ _ _ (e1.noX.trans e2) i2 ⟨.ret r2, by rw [hc0]; exact l2⟩ k1
theorem stepX_ok (hS : SoundS c C n R) {outer : List Env} (hfr : A.frames = some (env :: outer)) (hf : env.frame = some L) (hc0 : env.cells = []) (hcl : ∀ x, C.scope.names.lookup x ≠ some .cell) {F : List Stmt → Lo → Mem → T ((Fl × Lo) × Mem)}
  (hF : ∀ b {s g m}, At c C n A env L s g lo m → Tri c A (OwnA L env.cells) s g (execs b env) (FlowR c C L env.cells) (F b lo m)) (h : At c C n A env L s g lo m) (st : Stmt) : Tri c A (OwnA L env.cells) s g (exec st env) (FlowR c C L env.cells) (stepX C R F st lo m) := by
 unfold stepX
 cases h1 : raiseOf st with
 | some p => rw [raiseOf_s h1]; exact ex_raise hS h _ _ _ _
 | none =>
  show Tri _ _ _ _ _ _ _ (tryX C R F st lo m)
  unfold tryX
  cases h2 : tryOf st with
  | some q => rw [tryOf_s h2]; exact ex_try hS h hfr hf hc0 hcl q
  | none =>
   show Tri _ _ _ _ _ _ _ (ifX C R F st lo m)
   unfold ifX
   cases h3 : ifOf st with
   | none => exact ex_ok hS h st
   | some p =>
    rw [ifOf_s h3]
    intro Q E K KX hA hQ hE
    refine wpAny_If ((hS.e.tr h p.1).useN hA hQ hE fun a x s1 g1 m1 e1 i1 r1 k1 hQ1 hE1 => ?_)
    obtain rfl : a = x := r1
    cases a with
    | true => exact hF p.2.1 (h.ext e1 i1) _ _ _ _ (k1.1 rfl) hQ1 hE1
    | false => exact hF p.2.2.1 (h.ext e1 i1) _ _ _ _ (k1.2 rfl) hQ1 hE1
theorem exX_ok (hS : SoundS c C n R) {outer : List Env} (hfr : A.frames = some (env :: outer)) (hf : env.frame = some L) (hc0 : env.cells = []) (hcl : ∀ x, C.scope.names.lookup x ≠ some .cell) :
  ∀ (k : Nat) (b : List Stmt) {s g lo m}, At c C n A env L s g lo m → Tri c A (OwnA L env.cells) s g (execs b env) (FlowR c C L env.cells) (exX C R k b lo m)
 | 0, _, _, _, _, _, _ => Tri.stuck
 | _ + 1, [], _, _, _, _, h => Tri.flow h .next fun _ _ q => wpAny_execs_nil' q
 | k + 1, st :: r, s, g, lo, m, h => fun Q E K KX hA hQ hE => by
  refine wpAny_execs_cons ((stepX_ok hS hfr hf hc0 hcl (fun b {_ _ _} h => exX_ok hS hfr hf hc0 hcl k b h) h st).use hA hQ hE fun f x s1 g1 m1 e1 i1 r1 k1 hQ1 hE1 => ?_)
  obtain ⟨fl, lo1⟩ := x
  obtain ⟨r1, l1⟩ := r1
  cases r1 with
  | next => exact exX_ok hS hfr hf hc0 hcl k r (h.to i1 l1) Q E K KX k1 hQ1 hE1
  | brk => exact hQ1 _ (.brk, lo1) _ _ _ (.refl ..) i1 ⟨.brk, l1⟩ k1
  | cont => exact hQ1 _ (.cont, lo1) _ _ _ (.refl ..) i1 ⟨.cont, l1⟩ k1
  | ret rr => exact hQ1 _ (.ret _, lo1) _ _ _ (.refl ..) i1 ⟨.ret rr, l1⟩ k1
end
end
section
open PySem PySem.W PyProof.Rows PySem.Calls
noncomputable def bodyX (C : Cfg) (fuel : Nat) (st : Stmt) (lo0 : Lo) (m : Mem) : T (AV × Mem) := (exX { C with scope := fdScope st } (run fuel { C with scope := fdScope st }) fuel (fdBody st) lo0 m).bind retT
section
variable {c : Cx} {C : Cfg} {n fuel : Nat} {A : Around} {s : Shared} {g : Gh} {m : Mem}
theorem call_bodyX (O : ObjInt c) (hc : CfgOK c C n) {f : Addr} {st : Stmt} {qual : String} {dV : Value} {pm : String} {pt : Tok} {cd : Addr} {an : Option Addr} (ho : (kFrag c.w.params).lookup f = some (fnK st qual dV pm pt cd an))
  (hcd : codeIn (kFrag c.w.params) (.ref cd) (Str.ofString qual) = true) {vs : List Value} {binds : List (Str × Value)} {lo0 : Lo}
  (hbind : BindsTo s (fnOf (fdName st) (Str.ofString qual) (fdParams st) (fdBody st) (fdScope st) dV .none .none (.str (Str.ofString pm) pt) an (.ref cd) .none) ⟨vs, []⟩ binds)
  (hb : Binds c.w.params g lo0 binds) (hs : scopeOK (fdScope st) lo0 = true) (hroom : Room A (n + 1)) (I : Inv c A g s m) :
  TriC c A noX s g (.ref f) vs (bodyX C fuel st lo0 m) := by
 intro Q E K KX hA hQ hE
 unfold scopeOK at hs
 simp only [Bool.and_eq_true, List.all_eq_true, beq_iff_eq, Bool.not_eq_true', decide_eq_true_eq, beq_eq_false_iff_ne] at hs
 obtain ⟨⟨⟨⟨⟨s1, s2⟩, s3⟩, s4⟩, s5⟩, s6⟩ := hs
 obtain ⟨hr1, hr2, hr3⟩ := hroom
 have hL : ¬ Liv s.heap s.heap.objs.size := notLiv _
 refine codeAny_call_def (o := fnK st qual dV pm pt cd an) (body := fdBody st) (binds := binds) (by omega) (I.K _ _ ho) rfl (c.lim.keeps I.keeps) (codeRec_of I.K hcd) rfl hbind (fun x hx => s4 x hx) ?_ (fun h₀ hns hk => ?_) s2 s3 s1
 ·intro x hx
  have : x.1 ∈ lo0.map (·.1) := hb.keys ▸ List.mem_map_of_mem hx
  obtain ⟨p, hp, e⟩ := List.mem_map.mp this
  rw [← e]; exact (s5 p hp).1
 ·generalize henv : callEnv (fnOf (fdName st) (Str.ofString qual) (fdParams st) (fdBody st) (fdScope st) dV .none .none (.str (Str.ofString pm) pt) an (.ref cd) .none) s.heap.objs.size f = env
  have e1 : env.scope = fdScope st := by rw [← henv]; rfl
  have e2 : env.frame = some s.heap.objs.size := by rw [← henv]; rfl
  have e3 : env.locals = s.heap.objs.size := by rw [← henv]; rfl
  have e4 : env.cells = [] := by rw [← henv]; rfl
  have I2 := I.enter (t := s.toks + binds.length) (env := env) (by rw [e1]; exact s1) e2 hL ⟨_, hns⟩ hk
  have E2 : Ext A (Liv s.heap) noX g s g { s with heap := h₀, toks := s.toks + binds.length } := Ext.priv (p := s.heap.objs.size) (fun b o _ e => hk b o e) hL _
  have hat : At c { C with scope := fdScope st } n (A.deeper env) env s.heap.objs.size { s with heap := h₀, toks := s.toks + binds.length } g lo0 m := by
   refine ⟨⟨e1, s1, e3, by rw [← henv]; rfl, by rw [← henv]; rfl⟩, ⟨hr1, ?_, ?_⟩, I2, ?_⟩
   ·show A.depth + 1 + 4 * n + 4 < recursionLimit; omega
   ·show A.units + 3 + 16 * n + 16 < cLine; omega
   ·rw [e4]
    refine ⟨⟨_, hns, fun x v hx => ?_⟩, I.fresh, I.freshT, (fun _ _ h => nomatch h), (fun x hx => absurd rfl (s4 _ (mem_of_lookup hx))), (fun _ _ _ h => nomatch h)⟩
    obtain ⟨u, hu, ru⟩ := hb.get hx
    have hm := mem_of_lookup hu
    have : x ∈ lo0.map (·.1) := hb.keys ▸ List.mem_map_of_mem hm
    obtain ⟨p, hp, rfl⟩ := List.mem_map.mp this
    exact ⟨by simpa using (s5 p hp).2, .inl ⟨(s5 p hp).1, u, lookup_rev_zip hu (hb.keys ▸ s6), ru⟩⟩
  obtain ⟨l0, hl0, _⟩ := I.stk
  have hfr : (A.deeper env).frames = some (env :: l0) := Around.frames_deeper hl0
  have hS := run_ok O fuel { C with scope := fdScope st } (hc.scope _)
  have dropE : ∀ {g' : Gh} {s' : Shared}, Ext (A.deeper env) (Liv h₀) (OwnA s.heap.objs.size env.cells) g { s with heap := h₀, toks := s.toks + binds.length } g' s' → Ext A (Liv s.heap) noX g s g' s' := fun x' => by
   refine E2.trans (((x'.weaken E2.liv fun _ h => h).around fun a ha q => (isFr_deeper e2 q).elim (fun r => absurd (r ▸ ha) hL) id).drop fun a ha q => ?_)
   rcases q with rfl | ⟨z, hz⟩
   ·exact hL ha
   ·rw [e4] at hz; cases hz
  refine exX_ok hS hfr e2 e4 (fun x hx => absurd rfl (s4 _ (mem_of_lookup hx))) fuel (fdBody st) hat _ _ _ KX (T.all_bind.mp hA) (fun fl x s' g' m' x' i' r' k' => ?_) (fun e x s' g' m' x' i' f' k' => ?_)
  ·obtain ⟨r1, l1⟩ := r'
   have E3 := dropE x'
   have I3 := i'.leave ⟨l0, hl0⟩
   obtain ⟨fl', lo'⟩ := x
   dsimp only at r1 k'
   unfold retT at k'
   cases r1 with
   | next => exact hQ _ _ _ _ _ E3 I3 .none k'
   | ret r => exact hQ _ _ _ _ _ E3 I3 r k'
   | brk => exact k'.elim
   | cont => exact k'.elim
  ·have E3 := dropE x'
   have F3 := f'.weaken E2.liv
   refine leave_ok (X := noX) (B := Liv s.heap) i' hfr e2 (fun a q => E3.live a q q) F3 fun s2 e2' i2 f2 => ?_
   have E4 := E3.trans (e2'.around fun a ha q => (isFr_deeper e2 q).elim (fun r => absurd (r ▸ ha) hL) id)
   exact hE _ _ _ _ _ E4 (i2.leave ⟨l0, hl0⟩) f2 k'
end
section
variable {c : Cx} {n : Nat}
theorem Inv.dropX {A : Around} {s : Shared} {g : Gh} {m : Mem} (I : Inv c A g s m) (k : Nat) (hc : (m.take k).all (closedMO k) = true) : Inv c A (g.take k) s (m.take k) := I.drop k hc
theorem Def.fnX0 (d : Def) (hd : DefOK d) (O : ObjInt c) (fs : List (FK × FSem)) (mu : List String) (hfs : ∀ p ∈ fs, FnOK c n p.1.val p.2) (fuel : Nat) (k : FSem)
  (hk : ∀ args m, (∀ K KX, ¬ (k args m).All K KX) ∨ ∃ lo, closedAVs 0 args = true ∧ BindsAs c d args lo ∧ scopeOK (fdScope d.st) lo = true ∧
   Imp (k args m) ((bodyX (cfg fs mu) fuel d.st lo []).ren (unfocus [] m))) : FnOK c (n + 1) (.ref d.f) k where
 keep := keep_K c (hd.keep _)
 call := fun A s g m args vs hr I r => by
  rcases hk args m with h | ⟨lo, hc, hb, hs, hi⟩
  ·exact fun Q E K KX hA => (h K KX hA).elim
  ·have I0 : Inv c A (g.sub []) s [] := focus_inv I List.nodup_nil (fun _ h => nomatch h) rfl fun j mo i e _ => by cases e
   have r0 : Reps c.w.params (g.sub []) args vs := r.take hc
   obtain ⟨binds, b1, b2⟩ := hb s (g.sub []) vs I.K ⟨(gr0 I).F, fun k l h => by simp [g0] at h⟩ r0
   have body := (call_bodyX (fuel := fuel) O (cfg_ok (mu := mu) hfs) (hd.at_ c.w.params) (hd.code _) b1 b2 hs hr I0).tri
   exact (focus I List.nodup_nil (fun _ h => nomatch h) (m2 := []) rfl body fun _ _ => len_any).imp hi
noncomputable def XK (c : Cx) (d : Def) (fs : List (FK × FSem)) (fuel : Nat) (k : FSem) : Prop := ∀ args m, (∀ K KX, ¬ (k args m).All K KX) ∨ ∃ lo, closedAVs 0 args = true ∧ BindsAs c d args lo ∧ scopeOK (fdScope d.st) lo = true ∧ Imp (k args m) ((bodyX (cfg fs []) fuel d.st lo []).ren (unfocus [] m))
section
variable {d : Def} {fs : List (FK × FSem)} {fuel : Nat} {sh : Sh} {rest : FSem} {lo : sh.ty → Lo}
theorem XK.off : XK c d fs fuel offS := fun _ _ => .inl no_stuck
theorem XK.alt {f g : sh.ty → Mem → T (AV × Mem)} (hb : ∀ t, BindsAs c d (sh.enc t) (lo t)) (hi : ∀ t m, Imp (f t m) (g t m)) (r : XK c d fs fuel rest)
  (hc : ∀ t, (closedAVs 0 (sh.enc t) && scopeOK (fdScope d.st) (lo t)) = true := by intro t; kernel_rfl) (he : ∀ t m, (bodyX (cfg fs []) fuel d.st (lo t) []).ren (unfocus [] m) = g t m := by intro t m; kernel_rfl) : XK c d fs fuel (orSh sh f rest) := fun args m => by
 rcases orSh_s sh f rest args m with ⟨t, ha, e⟩ | e
 ·have h := Bool.and_eq_true_iff.mp (hc t)
  rw [e]; exact .inr ⟨lo t, ha ▸ h.1, ha ▸ hb t, h.2, he t m ▸ hi t m⟩
 ·rw [e]; exact r args m
theorem XK.ok {k : FSem} (h : XK c d fs fuel k) (hd : DefOK d) (O : ObjInt c) (hfs : ∀ p ∈ fs, FnOK c n p.1.val p.2) : FnOK c (n + 1) (.ref d.f) k := d.fnX0 hd O fs [] hfs fuel k h
theorem xSh (d : Def) (hd : DefOK d) (O : ObjInt c) (fs : List (FK × FSem)) (hfs : ∀ p ∈ fs, FnOK c n p.1.val p.2) (fuel : Nat) {f g : sh.ty → Mem → T (AV × Mem)} (hb : ∀ t, BindsAs c d (sh.enc t) (lo t)) (hi : ∀ t m, Imp (f t m) (g t m))
  (hc : ∀ t, (closedAVs 0 (sh.enc t) && scopeOK (fdScope d.st) (lo t)) = true := by intro t; kernel_rfl) (he : ∀ t m, (bodyX (cfg fs []) fuel d.st (lo t) []).ren (unfocus [] m) = g t m := by intro t m; kernel_rfl) : FnOK c (n + 1) (.ref d.f) (orSh sh f offS) :=
 XK.ok (.alt hb hi .off hc he) hd O hfs
end
theorem Def.fnX (d : Def) (hd : DefOK d) (O : ObjInt c) (fs : List (FK × FSem)) (mu : List String) (hfs : ∀ p ∈ fs, FnOK c n p.1.val p.2) (fuel : Nat) (k : FSem)
  (hk : ∀ args m, (∀ K KX, ¬ (k args m).All K KX) ∨ ∃ lo, BindsAs c d args lo ∧ scopeOK (fdScope d.st) lo = true ∧ Imp (k args m) (bodyX (cfg fs mu) fuel d.st lo m)) : FnOK c (n + 1) (.ref d.f) k where
 keep := keep_K c (hd.keep _)
 call := fun A s g m args vs hr I r => by
  rcases hk args m with h | ⟨lo, hb, hs, hi⟩
  ·exact fun Q E K KX hA => (h K KX hA).elim
  ·obtain ⟨binds, b1, b2⟩ := hb s g vs I.K (gr0 I) r
   exact ((call_bodyX (fuel := fuel) O (cfg_ok (mu := mu) hfs) (hd.at_ c.w.params) (hd.code _) b1 b2 hs hr I).tri).imp hi
end
section
variable {c : Cx} {n : Nat}
noncomputable def sworthF : FK × FSem := (.ref 342, sworthS)
noncomputable abbrev Rg.off (r : Rg) (x : Int) : Rg := ⟨r.k, x, r.s, r.nu, r.mn, r.re, r.ro, r.fr⟩
noncomputable def stepZ (q : Rg) : Int := sgnZ 64 q.s.v
noncomputable def koff (p q : Rg) (t : Bool) : Int := if t then p.o - stepZ q else p.o + stepZ q
noncomputable def knownB (p q : Rg) (t : Bool) : Bool := farB (stepZ q) || farB (koff p q t)
noncomputable def knownS : FSem := orSh (shRg (shRg (.bool (.int .nil)))) (fun t m => .ite (knownB (toRg t.1) (toRg t.2.1) t.2.2.1) (.exc (.int t.2.2.2.1) m) (.leaf (((toRg t.1).off (koff (toRg t.1) (toRg t.2.1) t.2.2.1)).av, m))) offS
noncomputable def knownT (p q : Rg) (t : Bool) (z : Int) (m : Mem) : T (AV × Mem) := .ite t (iteOr (farB (stepZ q)) (farB (p.o - stepZ q)) (.exc (.int z) m) (.leaf ((p.off (p.o - stepZ q)).av, m))) (iteOr (farB (stepZ q)) (farB (p.o + stepZ q)) (.exc (.int z) m) (.leaf ((p.off (p.o + stepZ q)).av, m)))
theorem knownT_imp (p q : Rg) (t : Bool) (z : Int) (m : Mem) : Imp (.ite (knownB p q t) (.exc (.int z) m) (.leaf ((p.off (koff p q t)).av, m))) (knownT p q t z m) := fun K KX hk =>
 ⟨fun ht => by subst ht; exact iteOr_all hk.1 hk.2, fun ht => by subst ht; exact iteOr_all hk.1 hk.2⟩
theorem known_ok (O : ObjInt c) : FnOK c 8 (.ref 675) knownS := xSh dknown_sum dknown_sum_ok O [signedF, sworthF, farF, woffF]
  (mem1 ((signed_ok (n := 0) O).le (by decide)) (mem1 ((sworth_ok O).le (by decide)) (mem1 ((far_ok O).le (by decide)) (mem1 (woff_ok O) mem0)))) 16 (fun t => dknown_sum_as c _ _ _ _) (g := fun t m => knownT (toRg t.1) (toRg t.2.1) t.2.2.1 t.2.2.2.1 m) (fun t m => knownT_imp (toRg t.1) (toRg t.2.1) t.2.2.1 t.2.2.2.1 m)
noncomputable def knownF : FK × FSem := (.ref 675, knownS)
end
noncomputable def T.val {α : Type} : T α → Option α
 | .leaf a => some a
 | .exc _ _ => none
 | .ite c t e => bif c then t.val else e.val
 | .req _ t => t.val
 | .stuck _ => none
theorem T.val_spec {α : Type} {P : α → Prop} : ∀ {t : T α}, t.All P (fun _ _ => False) → ∃ a, t.val = some a ∧ P a ∧ ∀ K KX, K a → t.All K KX
 | .leaf a, h => ⟨a, rfl, h, fun _ _ k => k⟩
 | .exc _ _, h => h.elim
 | .ite c t e, h => by
  cases c with
  | true =>
   obtain ⟨a, h1, h2, h3⟩ := T.val_spec (h.1 rfl)
   exact ⟨a, h1, h2, fun K KX k => .yes (h3 K KX k)⟩
  | false =>
   obtain ⟨a, h1, h2, h3⟩ := T.val_spec (h.2 rfl)
   exact ⟨a, h1, h2, fun K KX k => .no (h3 K KX k)⟩
 | .req p t, h => by
  obtain ⟨a, h1, h2, h3⟩ := T.val_spec h.2
  exact ⟨a, h1, h2, fun K KX k => ⟨h.1, h3 K KX k⟩⟩
 | .stuck _, h => h.elim
noncomputable def finS (p q : Int) (y : En) : T (Option Sc) := .leaf (some ⟨p, q, y⟩)
noncomputable def madeCS (v w : Int) (x : En) : T (Option Sc) :=
 .ite (emptyB x) (.leaf none) (turnC (.leaf none) finS (fun p q y => turnC (.leaf none) finS (fun p q y => turnC (.leaf none) finS finS p q y) p q y) v w x)
noncomputable def avO : Option Sc → AV
 | none => .none
 | some s => s.av
theorem madeC_eq (v w : Int) (x : En) (m : Mem) : madeC v w x m = (madeCS v w x).bind fun o => .leaf (avO o, m) := by kernel_rfl
noncomputable def madeOK (v w : Int) (x : En) : Prop := (madeCS v w x).All (fun o => o.isSome = true) (fun _ _ => False)
noncomputable def madeZ (v w : Int) (x : En) : Sc := ((madeCS v w x).val.join).getD Sc.top
theorem made_val {v w : Int} {x : En} (h : madeOK v w x) : ∀ K KX, K (some (madeZ v w x)) → (madeCS v w x).All K KX := by
 obtain ⟨a, h1, h2, h3⟩ := T.val_spec h
 obtain ⟨s, rfl⟩ := Option.isSome_iff_exists.mp h2
 intro K KX k
 refine h3 K KX ?_
 have : madeZ v w x = s := by unfold madeZ; rw [h1]; rfl
 rw [← this]; exact k
theorem made_imp (v w : Int) (x : En) (m : Mem) : Imp (.req (madeOK v w x) (.leaf ((madeZ v w x).av, m))) (madeC v w x m) := fun K KX h => by
 rw [madeC_eq, T.all_bind]
 exact made_val h.1 _ _ h.2
theorem madeO_imp (v w : Int) (x : En) (m : Mem) : Imp (.req (madeOK v w x) (.leaf ((madeZ v w x).av, m))) (madeO v w x m) := fun K KX h => by
 unfold madeO
 rw [T.all_bind, madeC_eq, T.all_bind]
 refine made_val h.1 _ _ ?_
 generalize madeZ v w x = s at h
 obtain ⟨v, w, a, b, d, e, f, g, hh, i⟩ := s
 exact h.2
noncomputable def sumOK (t : Bool) (p q : Sc) : Prop := match t with
 | true => madeOK (without1 (p.v - q.v) (tsubM p.v p.w q.v q.w)) (wrapZ 64 (tsubM p.v p.w q.v q.w)) (topEn (p.x.d - q.x.e) (p.x.e - q.x.d))
 | false => madeOK (without1 (p.v + q.v) (taddM p.v p.w q.v q.w)) (wrapZ 64 (taddM p.v p.w q.v q.w)) (topEn (p.x.d + q.x.d) (p.x.e + q.x.e))
noncomputable def sumZ (t : Bool) (p q : Sc) : Sc := match t with
 | true => madeZ (without1 (p.v - q.v) (tsubM p.v p.w q.v q.w)) (wrapZ 64 (tsubM p.v p.w q.v q.w)) (topEn (p.x.d - q.x.e) (p.x.e - q.x.d))
 | false => madeZ (without1 (p.v + q.v) (taddM p.v p.w q.v q.w)) (wrapZ 64 (taddM p.v p.w q.v q.w)) (topEn (p.x.d + q.x.d) (p.x.e + q.x.e))
section
variable {c : Cx} {n : Nat}
theorem FnOK.imp {v : Value} {k k' : FSem} (h : FnOK c n v k) (i : ∀ args m, Imp (k' args m) (k args m)) : FnOK c n v k' := ⟨h.keep, fun A s g m args vs hr I r => (h.call A s g m args vs hr I r).imp (i args m)⟩
theorem stuck_imp {w : String} {t : T (AV × Mem)} : Imp (.stuck w) t := fun K KX h => h.elim
theorem orSh_imp {sh : Sh} {f g : sh.ty → Mem → T (AV × Mem)} (h : ∀ t m, Imp (f t m) (g t m)) (args : List AV) (m : Mem) : Imp (orSh sh f offS args m) (orSh sh g offS args m) := by
 unfold orSh
 cases sh.dec args with
 | some t => exact h t m
 | none => exact Imp.refl _
theorem sum2_imp (b : Bool) (p q : Sc) (m : Mem) : Imp (.req (sumOK b p q) (.leaf ((sumZ b p q).av, m))) (.ite b (minusT p q m) (plusT p q m)) := by
 cases b with
 | true => exact fun K KX h => .yes (madeO_imp _ _ _ _ K KX h)
 | false => exact fun K KX h => .no (madeO_imp _ _ _ _ K KX h)
noncomputable def sum2S : FSem := orSh (shSc (shSc (.bool .nil))) (fun t m => .req (sumOK t.2.2.1 (toSc t.1) (toSc t.2.1)) (.leaf ((sumZ t.2.2.1 (toSc t.1) (toSc t.2.1)).av, m))) offS
theorem sum2_ok (O : ObjInt c) : FnOK c 7 (.ref 682) sum2S := (sum_ok O).imp (orSh_imp fun t m => sum2_imp t.2.2.1 (toSc t.1) (toSc t.2.1) m)
noncomputable def sum2F : FK × FSem := (.ref 682, sum2S)
noncomputable def with2S : FSem := orSh (.int (.int .nil)) (fun t m => .req (madeOK 0 18446744073709551615 (topEn t.1 t.2.1)) (.leaf ((madeZ 0 18446744073709551615 (topEn t.1 t.2.1)).av, m))) offS
theorem with2_ok (O : ObjInt c) : FnOK c 7 (.ref 308) with2S := (with_ok O).imp (orSh_imp fun t m => made_imp 0 18446744073709551615 (topEn t.1 t.2.1) m)
noncomputable def with2F : FK × FSem := (.ref 308, with2S)
noncomputable def ofb2S : FSem := orSh (shTn .nil) (fun t m => .req (madeOK t.1.1 t.1.2.1 (topEn (-9223372036854775808) 9223372036854775807)) (.leaf ((madeZ t.1.1 t.1.2.1 (topEn (-9223372036854775808) 9223372036854775807)).av, m))) offS
theorem ofb2_ok (O : ObjInt c) : FnOK c 7 (.ref 318) ofb2S := (ofb_ok O).imp (orSh_imp fun t m => made_imp t.1.1 t.1.2.1 (topEn (-9223372036854775808) 9223372036854775807) m)
noncomputable def ofb2F : FK × FSem := (.ref 318, ofb2S)
end
end
section
open PySem
section
variable {Z : Int → Prop} {v w : Int}
theorem good_full (hZ : ∃ z, Z z) {x : En} (G : Good Z v w x) : emptyB x = false ∧ fine x := by
 obtain ⟨z, hz⟩ := hZ
 obtain ⟨m1, m2, m3, m4, m5, m6, m7, m8, m9, m10, m11⟩ := G.mem z hz
 obtain ⟨o1, o2, o3, o4, o5, o6, o7, o8⟩ := G.ok
 have e80 : (2 : Nat) ^ 80 = 1208925819614629174706176 := by decide
 constructor
 ·unfold emptyB
  rw [decide_eq_false (by lia), decide_eq_false (by lia), decide_eq_false (by lia), decide_eq_false (by lia)]; rfl
 ·unfold fine
  rw [e80]; lia
theorem step_trans {F H : En → En} (f : Step Z v w F) (h : Step Z v w H) : Step Z v w (fun x => H (F x)) := fun x G => by
 obtain ⟨g1, r1⟩ := f x G
 obtain ⟨g2, r2⟩ := h _ g1
 exact ⟨g2, r1.trans r2⟩
theorem ded1_step (hZ : ∃ z, Z z) : Step Z v w (ded1 v w) := step_trans (F := fun x => s64 (bitsE v w x)) (H := s32) (step_trans (F := bitsE v w) (H := s64) (bits_step Z hZ v w) (s64_step hZ)) (s32_step hZ)
theorem ded2_step (hZ : ∃ z, Z z) : Step Z v w ded2 := step_trans (F := hwE) (H := s32) (hw_step hZ) (s32_step hZ)
theorem ded3_step (hZ : ∃ z, Z z) : Step Z v w ded3 := step_trans (F := fun x => wholeB (whA x)) (H := s64) (wh_step hZ) (s64_step hZ)
theorem bb_good (hZ : ∃ z, Z z) {x : En} (G : Good Z v w x) : spOK x.a x.b ∧ bbN1 v w x = false ∧ spOK x.f x.g ∧ bbN2 v w x = false ∧ Good Z (bbV v w x) (bbM w x) x := by
 have one : ∀ z, Z z → spOK x.a x.b ∧ bbN1 v w x = false ∧ spOK x.f x.g ∧ bbN2 v w x = false ∧ gam (bbV v w x) (bbM w x) z := fun z hz => by
  obtain ⟨m1, m2, m3, m4, m5, m6, m7, m8, m9, m10, m11⟩ := G.mem z hz
  obtain ⟨o1, o2, o3, o4, o5, o6, o7, o8⟩ := G.ok
  have e64 : (2 : Int) ^ 64 = 18446744073709551616 := by decide
  have e32 : (2 : Int) ^ 32 = 4294967296 := by decide
  obtain ⟨s1, s2, s3, s4⟩ := span_sound o1 m4 m5 (by simp_all)
  obtain ⟨t1, t2⟩ := meet_sound (by simp_all) m1 G.v0 s3 m3 s2
  have t2 : gam (mtV v (spV x.a x.b) w (freeZ x.a x.b)) (mtM w (freeZ x.a x.b)) z := t2
  have hl := gam_low t2 32
  obtain ⟨u1, u2, u3, u4⟩ := span_sound (a := x.f) (b := x.g) (z := z % 4294967296) o5 m8 m9 (by lia)
  rw [e32] at hl
  have hl : gam (low32 (mtV v (spV x.a x.b) w (freeZ x.a x.b))) (low32 (mtM w (freeZ x.a x.b))) (z % 4294967296) := by rw [low_num, low_num]; exact hl
  obtain ⟨w1, w2⟩ := meet_sound (z := z % 4294967296) (by lia) (by lia) (by rw [low_num]; lia) u3 hl u2
  exact ⟨s1, t1, u1, w1, with_sound t2 (by rw [e32]; exact w2)⟩
 obtain ⟨z0, hz0⟩ := hZ
 obtain ⟨a1, a2, a3, a4, _⟩ := one z0 hz0
 have nnv : ∀ a y : Int, 0 ≤ wlow a y ∨ ¬ 0 ≤ a := fun a y => by
  by_cases h : 0 ≤ a
  ·left
   unfold wlow
   have e : (4294967295 : Int) = 2 ^ 32 - 1 := by decide
   rw [e, and_ones, and_ones]
   have := mod_nonneg y 32
   have e32 : (2 : Int) ^ 32 = 4294967296 := by decide
   rw [e32] at this ⊢
   lia
  ·exact .inr h
 have n1 : ∀ p q : Int, 0 ≤ mtM p q := fun p q => by unfold mtM; rw [wrap64]; exact mod_nonneg _ 64
 have n2 : ∀ p q r s : Int, 0 ≤ mtV p q r s := fun p q r s => by
  unfold mtV without1
  have h0 : 0 ≤ wrapZ 64 (Builtin.bitOr p q) := by rw [wrap64]; exact mod_nonneg _ 64
  have h1 : 0 ≤ wrapZ 64 (Builtin.bitAnd r s) := by rw [wrap64]; exact mod_nonneg _ 64
  have := le_of_tb (x := Builtin.bitAnd (wrapZ 64 (Builtin.bitOr p q)) (wrapZ 64 (Builtin.bitAnd r s))) (y := wrapZ 64 (Builtin.bitOr p q)) (and_nonneg h1) h0 fun i q => by rw [tb_and] at q; simp at q; exact q.1
  simp_all
 refine ⟨a1, a2, a3, a4, ?_, ?_, G.ok, fun z hz => ?_⟩
 ·exact (nnv _ _).resolve_right fun h => h (n2 _ _ _ _)
 ·exact (nnv _ _).resolve_right fun h => h (n1 _ _)
 ·obtain ⟨m1, m2, m3, m4, m5, m6, m7, m8, m9, m10, m11⟩ := G.mem z hz
  exact ⟨m1, m2, (one z hz).2.2.2.2, m4, m5, m6, m7, m8, m9, m10, m11⟩
theorem turn_good0 (hZ : ∃ z, Z z) {β : Type} {RET : T β} {brk nxt : Int → Int → En → T β} {K : β → Prop} {KX : AV → Mem → Prop} {x0 x : En} (G : Good Z v w x) (r0 : Shr x0 (ded1 v w x))
  (h : ∀ p q y, Good Z p q y → Shr x0 y → (brk p q y).All K KX ∧ (nxt p q y).All K KX) : (turnC RET brk nxt v w x).All K KX := by
 obtain ⟨g1, r1⟩ := ded1_step hZ x G
 obtain ⟨g2, r2⟩ := ded2_step hZ _ g1
 obtain ⟨g3, r3⟩ := ded3_step hZ _ g2
 obtain ⟨e1, _⟩ := good_full hZ g1
 obtain ⟨e2, f2⟩ := good_full hZ g2
 obtain ⟨e3, _⟩ := good_full hZ g3
 obtain ⟨b1, b2, b3, b4, g4⟩ := bb_good hZ g3
 have R : Shr x0 (ded3 (ded2 (ded1 v w x))) := (r0.trans r2).trans r3
 obtain ⟨h1, h2⟩ := h _ _ _ g4 R
 refine ⟨(fun q => by rw [e1] at q; cases q), fun _ => ⟨(fun q => by rw [e2] at q; cases q), fun _ => ⟨f2, (fun q => by rw [e3] at q; cases q), fun _ => ?_⟩⟩⟩
 exact ⟨b1, (fun q => by rw [b2] at q; cases q), fun _ => ⟨b3, (fun q => by rw [b4] at q; cases q), fun _ => ⟨fun _ => h1, fun _ => h2⟩⟩⟩
theorem turn_good (hZ : ∃ z, Z z) {β : Type} {RET : T β} {brk nxt : Int → Int → En → T β} {K : β → Prop} {KX : AV → Mem → Prop} {x0 x : En} (G : Good Z v w x) (r0 : Shr x0 x)
  (h : ∀ p q y, Good Z p q y → Shr x0 y → (brk p q y).All K KX ∧ (nxt p q y).All K KX) : (turnC RET brk nxt v w x).All K KX :=
 turn_good0 hZ G (r0.trans (ded1_step hZ x G).2) h
theorem made_good2 (hZ : ∃ z, Z z) {x : En} (G : Good Z v w x) : madeOK v w x ∧ Good Z (madeZ v w x).v (madeZ v w x).w (madeZ v w x).x ∧ Shr (bitsE v w x) (madeZ v w x).x := by
 have rr : Shr (bitsE v w x) (ded1 v w x) := by
  obtain ⟨g1, _⟩ := bits_step Z hZ v w x G
  obtain ⟨g2, r2⟩ := s64_step hZ _ g1
  exact r2.trans (s32_step hZ _ g2).2
 have fin : ∀ p q y, Good Z p q y → Shr (bitsE v w x) y → (finS p q y).All (fun o => ∃ s, o = some s ∧ Good Z s.v s.w s.x ∧ Shr (bitsE v w x) s.x) (fun _ _ => False) := fun p q y g r => ⟨⟨p, q, y⟩, rfl, g, r⟩
 have A : (madeCS v w x).All (fun o => ∃ s, o = some s ∧ Good Z s.v s.w s.x ∧ Shr (bitsE v w x) s.x) (fun _ _ => False) := by
  refine ⟨(fun q => by rw [(good_full hZ G).1] at q; cases q), fun _ => ?_⟩
  refine turn_good0 hZ G rr fun p q y g r => ⟨fin p q y g r, turn_good hZ g r fun p q y g r => ⟨fin p q y g r, turn_good hZ g r fun p q y g r => ⟨fin p q y g r, fin p q y g r⟩⟩⟩
 have ok : madeOK v w x := A.mono (fun o h => by obtain ⟨s, rfl, _⟩ := h; rfl) fun _ _ h => h
 refine ⟨ok, ?_⟩
 obtain ⟨a, h1, ⟨s, rfl, h2, h3⟩, _⟩ := T.val_spec A
 have e : madeZ v w x = s := by unfold madeZ; rw [h1]; rfl
 rw [e]; exact ⟨h2, h3⟩
theorem made_good (hZ : ∃ z, Z z) {x : En} (G : Good Z v w x) : madeOK v w x ∧ Good Z (madeZ v w x).v (madeZ v w x).w (madeZ v w x).x ∧ Shr x (madeZ v w x).x := by
 obtain ⟨a, b, d⟩ := made_good2 hZ G
 exact ⟨a, b, (bits_step Z hZ v w x G).2.trans d⟩
end
theorem contains_of {v w : Int} {x : En} {z : Int} (m : InM v w x z) (hv : 0 ≤ v) (hw : 0 ≤ w) : containsB v w x z = true := by
 obtain ⟨m1, m2, m3, m4, m5, m6, m7, m8, m9, m10, m11⟩ := m
 unfold containsB
 rw [(gam_iff hv m1 hw).mp m3, sgn32_wrap, wrap32_num]
 simp only [beq_self_eq_true, Bool.true_and, Bool.and_eq_true, decide_eq_true_eq]
 exact ⟨⟨⟨⟨m4, m5⟩, m6, m7⟩, m8, m9⟩, m10, m11⟩
end
section
open PySem PySem.W PyProof.Rows PySem.Calls
section
variable {c : Cx} {n : Nat}
noncomputable def vB (p q : Rg) (t : Bool) : Bool := (p.k == S "stack") || variesB q.s || variesB (sumZ t p.s q.s) || ((p.k == S "packet") && (decide ((sumZ t p.s q.s).x.d < 0) || decide (65535 < (sumZ t p.s q.s).x.e)))
noncomputable def vR (p q : Rg) (t : Bool) (fresh : Int) : Rg := if p.k == S "packet" then ⟨p.k, p.o, sumZ t p.s q.s, fresh, p.mn, 0, p.ro, p.fr⟩ else ⟨p.k, p.o, sumZ t p.s q.s, p.nu, p.mn, p.re, p.ro, p.fr⟩
noncomputable def vOK (p q : Rg) (t : Bool) : Prop := (p.k == S "stack") = false → variesB q.s = false → sumOK t p.s q.s
noncomputable def varyS : FSem := orSh (shRg (shRg (.bool (.int (.int .nil))))) (fun t m => .req (vOK (toRg t.1) (toRg t.2.1) t.2.2.1) (.ite (vB (toRg t.1) (toRg t.2.1) t.2.2.1) (.exc (.int t.2.2.2.1) m) (.leaf ((vR (toRg t.1) (toRg t.2.1) t.2.2.1 t.2.2.2.2.1).av, m)))) offS
noncomputable def vT (p : Rg) (t : Bool) (Z : Sc) (ok : Prop) (vq : Bool) (z fr : Int) (m : Mem) : T (AV × Mem) :=
 .ite (p.k == S "stack") (.exc (.int z) m) (.ite vq (.exc (.int z) m) (.req ok (.ite (variesB Z) (.exc (.int z) m) (.ite (!(p.k == S "packet")) (.leaf (Rg.av ⟨p.k, p.o, Z, p.nu, p.mn, p.re, p.ro, p.fr⟩, m))
  (iteOr (decide (Z.x.d < 0)) (decide (65535 < Z.x.e)) (.exc (.int z) m) (.leaf (Rg.av ⟨p.k, p.o, Z, fr, p.mn, 0, p.ro, p.fr⟩, m)))))))
theorem vT_imp (p q : Rg) (t : Bool) (z fr : Int) (m : Mem) : Imp (.req (vOK p q t) (.ite (vB p q t) (.exc (.int z) m) (.leaf ((vR p q t fr).av, m)))) (vT p t (sumZ t p.s q.s) (sumOK t p.s q.s) (variesB q.s) z fr m) := fun K KX h => by
 obtain ⟨h1, h2, h3⟩ := h
 have h2 : vB p q t = true → KX (.int z) m := h2
 have h3 : vB p q t = false → K ((vR p q t fr).av, m) := h3
 unfold vB at h2 h3
 unfold vR at h3
 refine ⟨fun c1 => h2 (by rw [c1]; rfl), fun c1 => ⟨fun c2 => h2 (by rw [c1, c2]; rfl), fun c2 => ⟨h1 c1 c2, fun c3 => h2 (by rw [c1, c2, c3]; rfl), fun c3 => ⟨fun c4 => ?_, fun c4 => ?_⟩⟩⟩⟩
 ·have c4 : (p.k == S "packet") = false := by simpa using c4
  have := h3 (by rw [c1, c2, c3, c4]; rfl)
  rw [c4] at this; exact this
 ·have c4 : (p.k == S "packet") = true := by simpa using c4
  refine iteOr_all (fun c5 => h2 (by rw [c1, c2, c3, c4, c5]; rfl)) fun c5 => ?_
  have := h3 (by rw [c1, c2, c3, c4, c5]; rfl)
  rw [c4] at this; exact this
theorem vary_ok (O : ObjInt c) : FnOK c 8 (.ref 689) varyS := xSh dvarying_sum dvarying_sum_ok O [variesF, sum2F, wscF, wrchF, wnumF]
  (mem1 ((varies_ok O).le (by decide)) (mem1 (sum2_ok O) (mem1 (wsc_ok O) (mem1 (wrch_ok O) (mem1 (wnum_ok O) mem0))))) 16 (fun t => dvarying_sum_as c _ _ _ _ _) (g := fun t m => vT (toRg t.1) t.2.2.1 (sumZ t.2.2.1 (toRg t.1).s (toRg t.2.1).s) (sumOK t.2.2.1 (toRg t.1).s (toRg t.2.1).s) (variesB (toRg t.2.1).s) t.2.2.2.1 t.2.2.2.2.1 m) (fun t m => vT_imp (toRg t.1) (toRg t.2.1) t.2.2.1 t.2.2.2.1 t.2.2.2.2.1 m)
noncomputable def varyF : FK × FSem := (.ref 689, varyS)
noncomputable def addB (p q : Rg) (t : Bool) : Bool := !(movB p.k) || !(q.k == S "scalar") || (if (q.k == S "scalar") && (q.s.w == 0) then knownB p q t else vB p q t)
noncomputable def addR (p q : Rg) (t : Bool) (fresh : Int) : Rg := if (q.k == S "scalar") && (q.s.w == 0) then p.off (koff p q t) else vR p q t fresh
noncomputable def addOK (p q : Rg) (t : Bool) : Prop := movB p.k = true → (q.k == S "scalar") = true → (q.s.w == 0) = false → vOK p q t
noncomputable def addS : FSem := orSh (shRg (shRg (.bool (.int (.int .nil))))) (fun t m => .req (addOK (toRg t.1) (toRg t.2.1) t.2.2.1) (.ite (addB (toRg t.1) (toRg t.2.1) t.2.2.1) (.exc (.int t.2.2.2.1) m) (.leaf ((addR (toRg t.1) (toRg t.2.1) t.2.2.1 t.2.2.2.2.1).av, m)))) offS
noncomputable def addT (P Q : Rg) (t : Bool) (z fr : Int) (m : Mem) : T (AV × Mem) := .ite (!(movB P.k)) (.exc (.int z) m) (.ite (!(Q.k == S "scalar")) (.exc (.int z) m) (.ite ((Q.k == S "scalar") && (Q.s.w == 0))
   (.ite (knownB P Q t) (.exc (.int z) m) (.leaf ((P.off (koff P Q t)).av, m)))
   (.req (vOK P Q t) (.ite (vB P Q t) (.exc (.int z) m) (.leaf ((vR P Q t fr).av, m))))))
theorem addT_imp (P Q' : Rg) (t : Bool) (z fr : Int) (m : Mem) : Imp (.req (addOK P Q' t) (.ite (addB P Q' t) (.exc (.int z) m) (.leaf ((addR P Q' t fr).av, m)))) (addT P Q' t z fr m) := fun K KX hk => by
 obtain ⟨h1, h2, h3⟩ := hk
 have h2 : addB P Q' t = true → KX (.int z) m := h2
 have h3 : addB P Q' t = false → K ((addR P Q' t fr).av, m) := h3
 unfold addB at h2 h3
 unfold addR at h3
 refine ⟨fun c1 => h2 (by rw [c1]; rfl), fun c1 => ⟨fun c2 => h2 (by rw [c2, Bool.or_true]; rfl), fun c2 => ⟨fun c3 => ⟨fun c4 => h2 ?_, fun c4 => ?_⟩, fun c3 => ⟨?_, fun c4 => h2 ?_, fun c4 => ?_⟩⟩⟩⟩
 ·rw [c3, if_pos rfl, c4, Bool.or_true]
 ·rw [c1, c2, c3, if_pos rfl, if_pos rfl, c4] at h3; exact h3 rfl
 ·have c2 : (Q'.k == S "scalar") = true := by simpa using c2
  rw [c2, Bool.true_and] at c3
  exact h1 (by simpa using c1) c2 c3
 ·rw [c3, if_neg (by decide), c4, Bool.or_true]
 ·rw [c1, c2, c3, if_neg (by decide), if_neg (by decide), c4] at h3; exact h3 rfl
theorem add_ok (O : ObjInt c) : FnOK c 9 (.ref 697) addS := xSh dadd_to_pointer dadd_to_pointer_ok O [movF, iscF, knownF, varyF]
  (mem1 ((mov_ok O).le (by decide)) (mem1 ((isc_ok O).le (by decide)) (mem1 (known_ok O) (mem1 (vary_ok O) mem0)))) 16 (fun t => dadd_to_pointer_as5 c _ _ _ _ _) (g := fun t m => addT (toRg t.1) (toRg t.2.1) t.2.2.1 t.2.2.2.1 t.2.2.2.2.1 m) (fun t m => addT_imp (toRg t.1) (toRg t.2.1) t.2.2.1 t.2.2.2.1 t.2.2.2.2.1 m)
noncomputable def addF : FK × FSem := (.ref 697, addS)
end
end
section
open PySem PySem.W PyProof.Rows PySem.Calls PySem.Spec
section
variable {c : Cx} {n : Nat} {A : Around} {s : Shared} {g : Gh} {m : Mem} {X : Addr → Prop}
theorem len_small {n : Nat} (h : n ≤ 1000000) : (n : Int) < 2 ^ 63 := by omega
noncomputable def lenS : FSem := biS (.ints .nil) fun t m => .req (t.1.length ≤ 1000000) (.leaf (.int t.1.length, m))
theorem repL {P : Params} {xs : List Int} {vs : List Value} (r : Reps P g [.ints xs] vs) : ∃ us l k, vs = [.ref l] ∧ g.F l = some (lstO us k) ∧ IntVals xs us := by
 obtain ⟨v, rfl, r1⟩ := reps1 r
 obtain ⟨us, l, k, rfl, f, r2⟩ := r1.inv
 exact ⟨us, l, k, rfl, f, r2⟩
theorem len_ok : FnOK c n (.builtin "len") lenS := bi_ok (keep_builtin _ _) fun t vs hh I r => by
 obtain ⟨us, l, k, rfl, f, rs⟩ := repL r
 refine Tri.req fun hz => Tri.val I fun Q E hQ => PySem.Calls.call_len_list (I.list f) (by rw [List.size_toArray, rs.length]; exact len_small hz) ?_
 rw [List.size_toArray, rs.length]
 exact hQ _ _ (.int _ _)
noncomputable def lenF : FK × FSem := (.bi "len", lenS)
noncomputable def minL : List Int → Int
 | [] => 0
 | [x] => x
 | x :: r => min x (minL r)
noncomputable def maxL : List Int → Int
 | [] => 0
 | [x] => x
 | x :: r => max x (maxL r)
theorem minL_spec : ∀ {xs : List Int}, xs ≠ [] → minL xs ∈ xs ∧ ∀ a ∈ xs, minL xs ≤ a
 | [], h => absurd rfl h
 | [x], _ => ⟨.head _, fun a ha => by rw [List.mem_singleton.mp ha]; exact Int.le_refl _⟩
 | x :: y :: r, _ => by
  obtain ⟨h1, h2⟩ := minL_spec (xs := y :: r) (by simp)
  show min x (minL (y :: r)) ∈ _ ∧ ∀ a ∈ _, min x (minL (y :: r)) ≤ a
  refine ⟨?_, fun a ha => ?_⟩
  ·by_cases q : x ≤ minL (y :: r)
   ·rw [Int.min_eq_left q]; exact .head _
   ·rw [Int.min_eq_right (by lia)]; exact .tail _ h1
  ·rcases List.mem_cons.mp ha with rfl | ha
   ·exact Int.min_le_left _ _
   ·exact Int.le_trans (Int.min_le_right _ _) (h2 a ha)
theorem maxL_spec : ∀ {xs : List Int}, xs ≠ [] → maxL xs ∈ xs ∧ ∀ a ∈ xs, a ≤ maxL xs
 | [], h => absurd rfl h
 | [x], _ => ⟨.head _, fun a ha => by rw [List.mem_singleton.mp ha]; exact Int.le_refl _⟩
 | x :: y :: r, _ => by
  obtain ⟨h1, h2⟩ := maxL_spec (xs := y :: r) (by simp)
  show max x (maxL (y :: r)) ∈ _ ∧ ∀ a ∈ _, a ≤ max x (maxL (y :: r))
  refine ⟨?_, fun a ha => ?_⟩
  ·by_cases q : maxL (y :: r) ≤ x
   ·rw [Int.max_eq_left q]; exact .head _
   ·rw [Int.max_eq_right (by lia)]; exact .tail _ h1
  ·rcases List.mem_cons.mp ha with rfl | ha
   ·exact Int.le_max_left _ _
   ·exact Int.le_trans (h2 a ha) (Int.le_max_right _ _)
theorem IntVals.all : ∀ {xs : List Int} {vs : List Value}, IntVals xs vs → ∀ v ∈ vs, ∃ a t, v = .int a t
 | [], vs, h, v, hv => by rw [show vs = [] from h.inv] at hv; exact nomatch hv
 | x :: xs, vs, h, v, hv => by
  obtain ⟨t, us, rfl, r⟩ := h.inv
  rcases List.mem_cons.mp hv with rfl | hv
  ·exact ⟨_, _, rfl⟩
  ·exact r.all v hv
theorem IntVals.nums : ∀ {xs : List Int} {vs : List Value}, IntVals xs vs → numsOf vs = xs
 | [], vs, h => by rw [show vs = [] from h.inv]; rfl
 | x :: xs, vs, h => by obtain ⟨t, us, rfl, r⟩ := h.inv; exact congrArg (x :: ·) r.nums
theorem IntVals.its {xs : List Int} {us : List Value} (rs : IntVals xs us) : ∃ ts, us.toArray = intItems ts ∧ xs = ts.toList.map (·.1) ∧ ts.size = xs.length := by
 obtain ⟨ts, hts⟩ := AllInts.items (fun v hv => rs.all v (by simpa using hv) : AllInts us.toArray)
 have hn : xs = ts.toList.map (·.1) := by rw [← nums_intItems, ← hts]; exact rs.nums.symm
 exact ⟨ts, hts, hn, by rw [hn, List.length_map, Array.length_toList]⟩
noncomputable def min1S : FSem := fun args m => match (Sh.ints .nil).dec args with
 | some t => .req (t.1 ≠ []) (.leaf (.int (minL t.1), m))
 | none => minS args m
noncomputable def max1S : FSem := fun args m => match (Sh.ints .nil).dec args with
 | some t => .req (t.1 ≠ []) (.leaf (.int (maxL t.1), m))
 | none => maxS args m
theorem best_lt {n k : Nat} (h : k ≤ n - 1) (hp : 0 < n) : k < n := by omega
theorem min1_ok : FnOK c n (.builtin "min") min1S := ⟨keep_builtin _ _, fun A s g m args vs hr I r => by
 unfold min1S
 cases ht : (Sh.ints .nil).dec args with
 | none => exact (min_ok (c := c) (n := n)).call A s g m _ _ hr I r
 | some t =>
  rw [Sh.dec_s _ ht] at r
  obtain ⟨us, l, k, rfl, f, rs⟩ := repL r
  refine Tri.req fun hz => Tri.of (R := RepR c) fun Q E hQ => ?_
  obtain ⟨ts, hts, hn, hsz⟩ := rs.its
  have hpos : 0 < ts.size := by rw [hsz]; exact List.length_pos_iff.mpr hz
  refine min_intList hr.1 (hts ▸ I.list f) hpos fun v h' tk hv hk => ?_
  obtain ⟨t', rfl⟩ := intItems_at hv
  obtain ⟨b1, b2⟩ := argBest_lt (numAt ts) (ts.size - 1)
  refine hQ _ _ g (Ext.keepAll hk tk) (I.keepAll hk tk) ?_
  obtain ⟨q1, q2⟩ := minL_spec hz
  have e : minL t.1 = numAt ts (argBest (fun i j => decide (numAt ts i < numAt ts j)) (ts.size - 1)) := by
   refine Int.le_antisymm (q2 _ ?_) ?_
   ·rw [numAt_eq, ← hn]; exact getD_mem (hsz ▸ best_lt b1 hpos)
   ·obtain ⟨j, hj, e⟩ := mem_getD q1
    rw [← e, hn, ← numAt_eq]; exact b2 j (Nat.le_sub_one_of_lt (hsz ▸ hj))
  rw [e]; exact .int _ t'⟩
theorem max1_ok : FnOK c n (.builtin "max") max1S := ⟨keep_builtin _ _, fun A s g m args vs hr I r => by
 unfold max1S
 cases ht : (Sh.ints .nil).dec args with
 | none => exact (max_ok (c := c) (n := n)).call A s g m _ _ hr I r
 | some t =>
  rw [Sh.dec_s _ ht] at r
  obtain ⟨us, l, k, rfl, f, rs⟩ := repL r
  refine Tri.req fun hz => Tri.of (R := RepR c) fun Q E hQ => ?_
  obtain ⟨ts, hts, hn, hsz⟩ := rs.its
  have hpos : 0 < ts.size := by rw [hsz]; exact List.length_pos_iff.mpr hz
  refine max_intList hr.1 (hts ▸ I.list f) hpos fun v h' tk hv hk => ?_
  obtain ⟨t', rfl⟩ := intItems_at hv
  obtain ⟨b1, b2⟩ := argBest_gt (numAt ts) (ts.size - 1)
  refine hQ _ _ g (Ext.keepAll hk tk) (I.keepAll hk tk) ?_
  obtain ⟨q1, q2⟩ := maxL_spec hz
  have e : maxL t.1 = numAt ts (argBest (fun i j => decide (numAt ts i > numAt ts j)) (ts.size - 1)) := by
   refine Int.le_antisymm ?_ (q2 _ ?_)
   ·obtain ⟨j, hj, e⟩ := mem_getD q1
    rw [← e, hn, ← numAt_eq]; exact b2 j (Nat.le_sub_one_of_lt (hsz ▸ hj))
   ·rw [numAt_eq, ← hn]; exact getD_mem (hsz ▸ best_lt b1 hpos)
  rw [e]; exact .int _ t'⟩
noncomputable def min1F : FK × FSem := (.bi "min", min1S)
noncomputable def max1F : FK × FSem := (.bi "max", max1S)
noncomputable def swapB (a b : Str) : Bool := ltCps b.cps.toList a.cps.toList
noncomputable def sortS : FSem := biS (.lst (.str (.str .nil)) .nil) fun t m => .ite (swapB t.1.1 t.1.2.1) (.leaf (.lst [.str t.1.2.1, .str t.1.1], m)) (.leaf (.lst [.str t.1.1, .str t.1.2.1], m))
theorem perm2 {a b : Str} {l : List Str} (h : l.Perm [a, b]) : l = [a, b] ∨ l = [b, a] := by
 match l, h with
 | [x, y], h =>
  have hx := h.mem_iff (a := x) |>.mp (.head _)
  rcases List.mem_cons.mp hx with rfl | hx
  ·have := (List.perm_cons x).mp h
   left; rw [List.perm_singleton.mp this]
  ·have hx : x = b := List.mem_singleton.mp hx
   subst hx
   have h2 : [x, y].Perm [x, a] := h.trans (List.Perm.swap _ _ _)
   have := (List.perm_cons x).mp h2
   right; rw [List.perm_singleton.mp this]
 | [], h => exact absurd h.length_eq (by simp)
 | [_], h => exact absurd h.length_eq (by simp)
 | _ :: _ :: _ :: _, h => exact absurd h.length_eq (by simp)
theorem sort_out {a b : Str} {l : List Str} (h : l.Perm [a, b]) (hs : sortedS l = true) : l = if swapB a b then [b, a] else [a, b] := by
 unfold swapB
 rcases perm2 h with rfl | rfl
 ·have hs : (!ltCps b.cps.toList a.cps.toList && true) = true := hs
  have : ltCps b.cps.toList a.cps.toList = false := by simpa using hs
  rw [this]; rfl
 ·have hs : (!ltCps a.cps.toList b.cps.toList && true) = true := hs
  have h1 : ltCps a.cps.toList b.cps.toList = false := by simpa using hs
  cases h2 : ltCps b.cps.toList a.cps.toList with
  | true => rfl
  | false =>
   rw [ltCps_eq] at h1 h2
   have e : a.cps.toList = b.cps.toList := List.le_antisymm (by simpa using h2) (by simpa using h1)
   have : a = b := by
    cases a; cases b
    simp only at e
    rw [show _ = _ from Array.toList_inj.mp e]
   subst this; rfl
theorem strsAre {P : Params} {l : List Value} {ss : List Str} (h : StrsAre l ss) : Reps P g (ss.map .str) l := by
 induction h with
 | nil => exact .nil
 | cons y t _ ih => exact .cons (.str y t) ih
theorem sort_core (I : Inv c A g s m) {a b : Str} {t1 t2 : Tok} {l : Addr} {k : Nat} (f : g.F l = some (lstO [.str a t1, .str b t2] k)) {ss' : List Str} (hss : ss' = if swapB a b then [b, a] else [a, b]) : Tri c A noX s g (PySem.call (.builtin "sorted") [.ref l]) (RepR c) (.leaf (.lst (ss'.map .str), m)) := by
 refine Tri.of (R := RepR c) fun Q E hQ => ?_
 refine sorted_strs (I.list f) (.cons a t1 (.cons b t2 .nil)) (show 2 < 64 by decide) fun out ss2 h1 h2 h3 => ?_
 rw [(sort_out h2 h3).trans hss.symm] at h1
 obtain ⟨e, he⟩ := sortedAll_at s.heap [.str a t1, .str b t2] out
 have hk : ∀ b' o, s.heap.get? b' = some o → (sortedAll s.heap [.str a t1, .str b t2] out).get? b' = some o := fun _ _ => sortedAll_old
 have nD : ¬ Liv s.heap (s.heap.objs.size + 1) := fun ⟨o, q⟩ => Nat.lt_irrefl _ (Nat.lt_of_succ_lt (Heap.lt_size q))
 have nF : g.F (s.heap.objs.size + 1) = none := Option.not_isSome_iff_eq_none.mp fun q => nD ⟨_, I.frz _ _ (Option.eq_some_of_isSome q)⟩
 have hD : (sortedAll s.heap [.str a t1, .str b t2] out).get? (s.heap.objs.size + 1) = some (lstO out.toList e) := by rw [he]
 exact hQ _ _ _ ((Ext.keepAll hk s.toks).trans (Ext.freeze nF nD)) ((I.keepAll hk s.toks).freeze hD ⟨⟨_, hD⟩, nF, fun q => nD (I.free _ q).2⟩ (I.notFr nD)) (.lst (n := e) Gh.put_self (strsAre h1))
theorem sort_ok : FnOK c n (.builtin "sorted") sortS := bi_ok (keep_builtin _ _) fun t vs hh I r => by
 obtain ⟨v, rfl, r1⟩ := reps1 r
 obtain ⟨us, l, k, rfl, f, rs⟩ := r1.inv
 obtain ⟨v1, v2, rfl, q1, q2⟩ := reps2 rs
 obtain ⟨t1, rfl⟩ := q1.inv
 obtain ⟨t2, rfl⟩ := q2.inv
 exact Tri.ite (fun hb => sort_core (ss' := [t.1.2.1, t.1.1]) I f (by rw [hb]; rfl)) (fun hb => sort_core (ss' := [t.1.1, t.1.2.1]) I f (by rw [hb]; rfl))
end
end
section
open PySem PySem.W PyProof.Rows PySem.Calls
section
variable {c : Cx} {n : Nat}
noncomputable def addedS : FSem := orSh (shRg (shRg (.bool (.int .nil)))) (fun t m => .req (addOK (toRg t.1) (toRg t.2.1) t.2.2.1) (.ite (addB (toRg t.1) (toRg t.2.1) t.2.2.1) (.leaf (.int 7, m)) (.leaf ((addR (toRg t.1) (toRg t.2.1) t.2.2.1 t.2.2.2.1).av, m)))) offS
theorem added_ok (O : ObjInt c) : FnOK c 10 (.ref 964) addedS := xSh d_law_added d_law_added_ok O [addF] (mem1 (add_ok O) mem0) 16 (fun t => d_law_added_as c _ _ _ _) (fun t m => Imp.refl _)
noncomputable def addedF : FK × FSem := (.ref 964, addedS)
end
structure Stt where
 x0 : Rg
 x1 : Rg
 x2 : Rg
 x3 : Rg
 x4 : Rg
 x5 : Rg
 x6 : Rg
 x7 : Rg
 x8 : Rg
 x9 : Rg
 x10 : Rg
 nn : Int
noncomputable def Stt.rs (z : Stt) : List Rg := [z.x0, z.x1, z.x2, z.x3, z.x4, z.x5, z.x6, z.x7, z.x8, z.x9, z.x10]
noncomputable def Stt.xs (z : Stt) : List AV := [z.x0.av, z.x1.av, z.x2.av, z.x3.av, z.x4.av, z.x5.av, z.x6.av, z.x7.av, z.x8.av, z.x9.av, z.x10.av]
noncomputable def Stt.fs (z : Stt) (h : Nat) : Lo := [(S "frames", .lst [.obj 818 [.hnd h, .any, .int (-1)]]), (S "next_number", .int z.nn), (S "rooms", .lst [])]
noncomputable def Stt.mem (z : Stt) : Mem := [.lst z.xs, .inst 900 (z.fs 0)]
noncomputable abbrev sh11 : Sh := shRg (shRg (shRg (shRg (shRg (shRg (shRg (shRg (shRg (shRg (shRg (.nil)))))))))))
noncomputable def toStt (t : sh11.ty) (nn : Int) : Stt := ⟨toRg t.1, toRg t.2.1, toRg t.2.2.1, toRg t.2.2.2.1, toRg t.2.2.2.2.1, toRg t.2.2.2.2.2.1, toRg t.2.2.2.2.2.2.1, toRg t.2.2.2.2.2.2.2.1, toRg t.2.2.2.2.2.2.2.2.1, toRg t.2.2.2.2.2.2.2.2.2.1, toRg t.2.2.2.2.2.2.2.2.2.2.1, nn⟩
noncomputable def moNN : MO → Option Int
 | .inst _ fs => fs.tail.head?.bind fun p => aInt p.2
 | _ => none
noncomputable def sttOf (a b : MO) : Option Stt := both ((moLst a).bind sh11.dec) (moNN b) toStt
noncomputable def stAt (m : Mem) (h : Nat) : Option Stt := m[h]?.bind fun a => m[h + 1]?.bind fun b => sttOf a b
noncomputable def stOf (m : Mem) : Option Stt := stAt m 0
section
variable {c : Cx} {n : Nat}
theorem Def.clsM (d : Def) (hd : DefOK d) (D : Addr) (hD : known D = true) (hi : ∀ P, findIn (kFrag P) (.ref D) "__init__" = some (some (.ref d.f))) (hf : ∀ P, typeIn (kFrag P) (.ref d.f) = some (.type "function")) (hkp : ∀ P, keepIn (kFrag P) (.ref D) = true)
  (O : ObjInt c) (fs : List (FK × FSem)) (hfs : ∀ p ∈ fs, FnOK c n p.1.val p.2) (fuel : Nat) (mu : Bool) (k : FSem)
  (hk : ∀ args m, (∀ K KX, ¬ (k args m).All K KX) ∨ ∃ lo, BindsAs c d (.hnd m.length :: args) lo ∧ scopeOK (fdScope d.st) lo = true ∧
   Imp (k args m) ((bodyT (cfg fs []) fuel d.st lo (m ++ [.inst D []])).bind (if mu then madeM m.length else madeT D m.length))) : FnOK c (n + 2) (.ref D) k where
 keep := keep_K c (hkp _)
 call := fun A s g m args vs hr I r => by
  rcases hk args m with h | ⟨lo, hb, hs, him⟩
  ·exact fun Q E K KX hA => (h K KX hA).elim
  ·refine (TriC.tri (make_ok (n := n + 1) hD (hi _) (hf _) hr I (fun A' s' g' a hr' I' gr th _ x dd ha => ?_) mu)).imp him
   subst ha
   have rs : Reps c.w.params g' (.hnd m.length :: args) (.ref x :: vs) := .cons (.hnd th) (r.mono gr)
   obtain ⟨binds, b1, b2⟩ := hb s' g' _ I'.K (gr0 I') rs
   exact call_body (fuel := fuel) O (cfg_ok (mu := []) hfs) (hd.at_ c.w.params) (hd.code _) b1 b2 hs hr' I'
theorem clsMSh (d : Def) (hd : DefOK d) (O : ObjInt c) (D : Addr) (mu : Bool) {sh sm : Sh} {f : sh.ty → sm.ty → T (AV × Mem)} {lo : sh.ty → Lo} (hb : ∀ t, BindsAs c d (.hnd 1 :: sh.enc t) (lo t))
  (hc : ∀ t, scopeOK (fdScope d.st) (lo t) = true := by intro t; kernel_rfl) (he : ∀ t u, (bodyT (cfg [] []) 14 d.st (lo t) [.lst (sm.enc u), .inst D []]).bind (if mu then madeM 1 else madeT D 1) = f t u := by intro t u; kernel_rfl)
  (hD : known D = true := by rfl) (hi : ∀ P, findIn (kFrag P) (.ref D) "__init__" = some (some (.ref d.f)) := by intro P; kernel_rfl) (hf : ∀ P, typeIn (kFrag P) (.ref d.f) = some (.type "function") := by intro P; kernel_rfl) (hkp : ∀ P, keepIn (kFrag P) (.ref D) = true := by intro P; kernel_rfl) : FnOK c (n + 2) (.ref D) (orShM sh sm f offS) :=
 d.clsM hd D hD hi hf hkp O [] mem0 14 mu _ fun args m => by
  rcases orShM_s sh sm f offS args m with ⟨t, u, ha, hm, e⟩ | e
  ·rw [e]; subst ha hm
   exact .inr ⟨lo t, hb t, hc t, .of_eq (he t u)⟩
  ·rw [e]; exact .inl no_stuck
noncomputable def frameS : FSem := orShM (.hnd 0 (.anyv (.int .nil))) sh11 (fun t u => .leaf (.obj 818 [.hnd 0, .any, .int t.1], [.lst (toStt u 0).xs])) offS
theorem frame_ok (O : ObjInt c) : FnOK c 2 (.ref 818) frameS := clsMSh dFrame___init__ dFrame___init___ok O 818 false fun t => dFrame___init___as c _ _ _ _
noncomputable def frameF : FK × FSem := (.ref 818, frameS)
noncomputable def stateS : FSem := orShM (.lst (.obj 818 (.hnd 0 (.anyv (.lit (-1) .nil))) .nil) (.int (.lst .nil .nil))) sh11 (fun t u => .leaf (.hnd 1, (toStt u t.2.1).mem)) offS
theorem state_ok (O : ObjInt c) : FnOK c 2 (.ref 900) stateS := clsMSh dState___init__ dState___init___ok O 900 true fun t => dState___init___as c _ _ _ _
noncomputable def stateF : FK × FSem := (.ref 900, stateS)
noncomputable def stSh (sh : Sh) (f : sh.ty → Stt → T (AV × Mem)) (rest : FSem) : FSem := orShO sh stOf (fun t z m => .req (m = z.mem) (f t z)) rest
noncomputable def mtSh (sh : Sh) (f : sh.ty → T (AV × Mem)) (rest : FSem) : FSem := orShO sh memE (fun t _ _ => f t) rest
section
variable {d : Def} {B : Lo → Mem → T (AV × Mem)} {sh : Sh} {rest : FSem} {lo : sh.ty → Lo} {fs : List (FK × FSem)} {mu : List String} {fuel : Nat} {k : FSem}
theorem CellK.st {f g : sh.ty → Stt → T (AV × Mem)} (hb : ∀ t, BindsAs c d (sh.enc t) (lo t)) (hi : ∀ t z, Imp (f t z) (g t z)) (r : CellK c d B rest)
  (hc : ∀ t, scopeOK (fdScope d.st) (lo t) = true := by intro t; kernel_rfl) (he : ∀ t z, B (lo t) z.mem = g t z := by intro t z; kernel_rfl) : CellK c d B (stSh sh f rest) := fun args m => by
 rcases orShO_s sh stOf (fun t z m => .req (m = z.mem) (f t z)) rest args m with ⟨t, z, ha, _, e⟩ | e
 ·refine .inr ⟨lo t, ha ▸ hb t, hc t, ?_⟩
  rw [show stSh sh f rest args m = _ from e]
  exact fun K KX q => by rw [q.1, he]; exact hi t z K KX q.2
 ·rw [show stSh sh f rest args m = _ from e]; exact r args m
theorem CellK.mt {f g : sh.ty → T (AV × Mem)} (hb : ∀ t, BindsAs c d (sh.enc t) (lo t)) (hi : ∀ t, Imp (f t) (g t)) (r : CellK c d B rest)
  (hc : ∀ t, scopeOK (fdScope d.st) (lo t) = true := by intro t; kernel_rfl) (he : ∀ t, B (lo t) [] = g t := by intro t; kernel_rfl) : CellK c d B (mtSh sh f rest) := fun args m => by
 rcases orShO_s sh memE (fun t _ _ => f t) rest args m with ⟨t, u, ha, hm, e⟩ | e
 ·refine .inr ⟨lo t, ha ▸ hb t, hc t, ?_⟩
  rw [show mtSh sh f rest args m = _ from e, memE_s hm, he]; exact hi t
 ·rw [show mtSh sh f rest args m = _ from e]; exact r args m
theorem CellK.okX (h : CellK c d (bodyX (cfg fs mu) fuel d.st) k) (hd : DefOK d) (O : ObjInt c) (hfs : ∀ p ∈ fs, FnOK c n p.1.val p.2) : FnOK c (n + 1) (.ref d.f) k := d.fnX hd O fs mu hfs fuel k h
end
end
section
variable {c : Cx} {n : Nat}
noncomputable def noneF : FK × FSem := (.ref 497, noneS)
noncomputable def stkF : FK × FSem := (.ref 533, stkS)
noncomputable def ctxF : FK × FSem := (.ref 526, ctxS)
noncomputable def regs0 (d : Int) : List AV := [rnone.av, rnone.av, rnone.av, rnone.av, rnone.av, rnone.av, rnone.av, rnone.av, rnone.av, rnone.av, (rstk 0 d).av]
noncomputable def newfS : FSem := mtSh (.int (.int .nil)) (fun t => .leaf (.obj 818 [.hnd 0, .any, .int t.2.1], [.lst (regs0 t.1)])) offS
theorem newf_ok (O : ObjInt c) : FnOK c 7 (.ref 909) newfS := CellK.ok (d := dnew_frame) (fs := [rangeF, noneF, stkF, frameF]) (mu := ["regs"]) (fuel := 16)
 (.mt (fun t => dnew_frame_as c _ _) (g := fun t => .req ((0 : Int) = 0 ∧ (0 : Int) ≤ 11 ∧ (11 : Int) ≤ 1000) (.leaf (.obj 818 [.hnd 0, .any, .int t.2.1], [.lst (regs0 t.1)]))) (fun t => .req1 (by decide)) .off) dnew_frame_ok O (mem1 range_ok (mem1 (none_ok O) (mem1 (stk_ok O) (mem1 ((frame_ok O).le (by decide)) mem0))))
noncomputable def newfF : FK × FSem := (.ref 909, newfS)
noncomputable def st1 : Stt := ⟨rnone, rctx, rnone, rnone, rnone, rnone, rnone, rnone, rnone, rnone, rstk 0 0, 1⟩
noncomputable def firstS : FSem := mtSh .nil (fun _ => .leaf (.hnd 1, st1.mem)) offS
theorem first_ok (O : ObjInt c) : FnOK c 8 (.ref 916) firstS := CellK.ok (d := dfirst_state) (fs := [newfF, ctxF, stateF]) (mu := []) (fuel := 16) (.mt (fun t => dfirst_state_as c) (fun _ => .refl _) .off) dfirst_state_ok O (mem1 (newf_ok O) (mem1 ((ctx_ok O).le (by decide)) (mem1 ((state_ok O).le (by decide)) mem0)))
noncomputable def firstF : FK × FSem := (.ref 916, firstS)
noncomputable def sregS : FSem := stSh (.hnd 1 (.lit 2 .nil)) (fun _ z => .leaf (z.x2.av, z.mem)) <| stSh (.hnd 1 (.lit 3 .nil)) (fun _ z => .leaf (z.x3.av, z.mem)) offS
theorem sreg_ok (O : ObjInt c) : FnOK c 1 (.ref 864) sregS := CellK.ok (d := dState_reg) (fs := []) (mu := []) (fuel := 16) (.st (fun t => dState_reg_as c _ _) (fun _ _ => .refl _) <| .st (fun t => dState_reg_as c _ _) (fun _ _ => .refl _) .off) dState_reg_ok O mem0
noncomputable def sregF : FK × FSem := (.ref 864, sregS)
noncomputable def Stt.fresh (z : Stt) : Stt := ⟨z.x0, z.x1, z.x2, z.x3, z.x4, z.x5, z.x6, z.x7, z.x8, z.x9, z.x10, z.nn + 1⟩
noncomputable def freshS : FSem := stSh (.hnd 1 .nil) (fun _ z => .leaf (.int z.nn, z.fresh.mem)) offS
theorem fresh_ok (O : ObjInt c) : FnOK c 1 (.ref 878) freshS := CellK.ok (d := dState_fresh) (fs := []) (mu := []) (fuel := 16) (.st (fun t => dState_fresh_as c _) (fun _ _ => .refl _) .off) dState_fresh_ok O mem0
noncomputable def freshF : FK × FSem := (.ref 878, freshS)
noncomputable def Stt.put2 (z : Stt) (r : Rg) : Stt := ⟨z.x0, z.x1, r, z.x3, z.x4, z.x5, z.x6, z.x7, z.x8, z.x9, z.x10, z.nn⟩
noncomputable def Stt.put3 (z : Stt) (r : Rg) : Stt := ⟨z.x0, z.x1, z.x2, r, z.x4, z.x5, z.x6, z.x7, z.x8, z.x9, z.x10, z.nn⟩
noncomputable def putS : FSem := stSh (.hnd 1 (.lit 2 (shRg .nil))) (fun t z => .leaf (.none, (z.put2 (toRg t.1)).mem)) <| stSh (.hnd 1 (.lit 3 (shRg .nil))) (fun t z => .leaf (.none, (z.put3 (toRg t.1)).mem)) offS
theorem put_ok (O : ObjInt c) : FnOK c 1 (.ref 871) putS := CellK.ok (d := dState_put) (fs := []) (mu := []) (fuel := 16) (.st (fun t => dState_put_as c _ _ _) (fun _ _ => .refl _) <| .st (fun t => dState_put_as c _ _ _) (fun _ _ => .refl _) .off) dState_put_ok O mem0
noncomputable def putF : FK × FSem := (.ref 871, putS)
noncomputable def stL (p q : Rg) : Stt := ⟨rnone, rctx, p, q, rnone, rnone, rnone, rnone, rnone, rnone, rstk 0 0, 40⟩
noncomputable def lstateS : FSem := orSh (shRg (shRg .nil)) (fun t m => (T.leaf (AV.hnd 1, (stL (toRg t.1) (toRg t.2.1)).mem)).ren (unfocus [] m)) offS
theorem lstate_ok (O : ObjInt c) : FnOK c 9 (.ref 978) lstateS := XK.ok (d := d_law_state) (fs := [firstF, putF]) (fuel := 16) (.alt (fun t => d_law_state_as c _ _)
 (g := fun t m => (T.req (st1.mem = st1.mem) (.req ((st1.put2 (toRg t.1)).mem = (st1.put2 (toRg t.1)).mem) (.leaf (AV.hnd 1, (stL (toRg t.1) (toRg t.2.1)).mem)))).ren (unfocus [] m)) (fun t m => .req2 rfl rfl) .off) d_law_state_ok O (mem1 (first_ok O) (mem1 ((put_ok O).le (by decide)) mem0))
noncomputable def lstateF : FK × FSem := (.ref 978, lstateS)
end
section
variable {c : Cx} {n : Nat}
noncomputable def isptrF : FK × FSem := (.ref 540, isptrS)
noncomputable def cregF : FK × FSem := (.ref 512, cregS)
noncomputable def anyF : FK × FSem := (.ref 519, anyS)
noncomputable def srcS : FSem := stSh (.hnd 1 (.obj 614 (.int (.int (.lit 3 (.int (.int (.int .nil)))))) .nil)) (fun t z => .req ((Builtin.bitAnd t.1.1 8 == 0) = false) (.leaf (z.x3.av, z.mem))) <|
 stSh (.hnd 1 (.obj 614 (.int (.int (.lit 0 (.int (.int (.int .nil)))))) .nil)) (fun t z => .req ((Builtin.bitAnd t.1.1 8 == 0) = true) (.leaf ((rnum (.const (wrapZ 64 t.1.2.2.2.1)) 0).av, z.mem))) offS
noncomputable def srcT (b : Bool) (A B : T (AV × Mem)) : T (AV × Mem) := .ite (!b) A B
theorem src_imp {b : Bool} {A A' B : T (AV × Mem)} (h : Imp A' A) : Imp (.req (b = false) A') (srcT b A B) := fun K KX q => by rw [q.1]; exact .yes (h K KX q.2)
theorem src_imp0 {b : Bool} {A B : T (AV × Mem)} : Imp (.req (b = true) B) (srcT b A B) := fun K KX q => by rw [q.1]; exact .no q.2
theorem src_ok (O : ObjInt c) : FnOK c 7 (.ref 718) srcS := CellK.ok (d := dsource_of) (fs := [byregF, sregF, cregF, wrapF]) (mu := []) (fuel := 16)
 (.st (fun t => dsource_of_as c _ _) (g := fun t z => srcT (Builtin.bitAnd t.1.1 8 == 0) (.req (z.mem = z.mem) (.leaf (z.x3.av, z.mem))) (.leaf ((rnum (.const (wrapZ 64 t.1.2.2.2.1)) 0).av, z.mem))) (fun t z => src_imp (.req1 rfl)) <|
  .st (fun t => dsource_of_as c _ _) (g := fun t z => srcT (Builtin.bitAnd t.1.1 8 == 0) (.stuck "arguments") (.leaf ((rnum (.const (wrapZ 64 t.1.2.2.2.1)) 0).av, z.mem))) (fun t z => src_imp0) .off) dsource_of_ok O
 (mem1 ((byreg_ok O).le (by decide)) (mem1 ((sreg_ok O).le (by decide)) (mem1 (creg_ok O) (mem1 ((wrap_ok (n := 0) O).le (by decide)) mem0))))
noncomputable def srcF : FK × FSem := (.ref 718, srcS)
noncomputable def addZ (p q : Rg) (t : Bool) (at_ fr : Int) (z : Stt) : T (AV × Mem) := .req (addOK p q t) (.ite (addB p q t) (.exc (.int at_) z.mem) (.leaf ((addR p q t fr).av, z.mem)))
noncomputable def movedT (p q : Rg) (t : Bool) (at_ : Int) (z : Stt) : T (AV × Mem) := .ite (needsB p q) (.req (z.mem = z.mem) (addZ p q t at_ z.nn z.fresh)) (addZ p q t at_ 0 z)
noncomputable def movedS : FSem := stSh (.hnd 1 (shRg (shRg (.bool (.int .nil))))) (fun t z => movedT (toRg t.1) (toRg t.2.1) t.2.2.1 t.2.2.2.1 z) offS
theorem moved_ok (O : ObjInt c) : FnOK c 10 (.ref 725) movedS := CellK.okX (d := dmoved) (fs := [needsF, freshF, addF]) (mu := []) (fuel := 16) (.st (fun t => dmoved_as c _ _ _ _ _) (fun _ _ => .refl _) .off) dmoved_ok O (mem1 ((needs_ok O).le (by decide)) (mem1 ((fresh_ok O).le (by decide)) (mem1 (add_ok O) mem0)))
noncomputable def movedF : FK × FSem := (.ref 725, movedS)
noncomputable def ptrB (p : Rg) : Bool := !(inSB p.k ["none", "scalar"])
noncomputable def sumofT (p q : Rg) (t : Bool) (at_ : Int) (z : Stt) : T (AV × Mem) :=
 iteAnd (ptrB p) (ptrB q) (iteAnd t (diffB p q) (.leaf ((rnum .top 0).av, z.mem)) (.exc (.int at_) z.mem))
  (.ite (ptrB p) (.req (z.mem = z.mem) (movedT p q t at_ z)) (.ite t (.exc (.int at_) z.mem) (.req (z.mem = z.mem) (movedT q p false at_ z))))
noncomputable def sumofS : FSem := stSh (.hnd 1 (shRg (shRg (.bool (.int .nil))))) (fun t z => sumofT (toRg t.1) (toRg t.2.1) t.2.2.1 t.2.2.2.1 z) offS
theorem sumof_ok (O : ObjInt c) : FnOK c 11 (.ref 732) sumofS := CellK.okX (d := dsum_of) (fs := [isptrF, diffF, anyF, movedF]) (mu := []) (fuel := 16) (.st (fun t => dsum_of_as c _ _ _ _ _) (fun _ _ => .refl _) .off) dsum_of_ok O (mem1 ((isptr_ok O).le (by decide)) (mem1 ((diff_ok O).le (by decide)) (mem1 ((any_ok O).le (by decide)) (mem1 (moved_ok O) mem0))))
noncomputable def sumofF : FK × FSem := (.ref 732, sumofS)
end
noncomputable def T.cut {α : Type} : List Bool → T α → T α
 | [], t => t
 | b :: bs, .ite c t e => match b with
  | true => .ite c (t.cut bs) (.stuck "cut")
  | false => .ite c (.stuck "cut") (e.cut bs)
 | bs, .req p t => .req p (t.cut bs)
 | _, t => t
theorem T.cut_imp {α : Type} : ∀ (t : T α) (bs : List Bool), Imp (t.cut bs) t
 | t, [] => by cases t <;> exact Imp.refl _
 | .ite c t e, true :: bs => fun K KX h => ⟨fun q => T.cut_imp t bs K KX (h.1 q), fun q => (h.2 q).elim⟩
 | .ite c t e, false :: bs => fun K KX h => ⟨fun q => (h.1 q).elim, fun q => T.cut_imp e bs K KX (h.2 q)⟩
 | .req p t, b :: bs => fun K KX h => ⟨h.1, T.cut_imp t (b :: bs) K KX h.2⟩
 | .leaf _, _ :: _ => Imp.refl _
 | .exc _ _, _ :: _ => Imp.refl _
 | .stuck _, _ :: _ => Imp.refl _
section
variable {c : Cx} {n : Nat}
noncomputable abbrev deedFs : List (FK × FSem) := [opF, srcF, clsF, sregF, sumofF]
noncomputable def deedLo (o : sh6.ty) (at_ : Int) : Lo := [(S "state", .hnd 1), (S "order", .obj 614 (sh6.enc o)), (S "at", .int at_)]
noncomputable def deedB (o : sh6.ty) (at_ : Int) (z : Stt) : T (AV × Mem) := bodyX (cfg deedFs []) 16 dpointer_deed.st (deedLo o at_) z.mem
theorem CellK.st0 {d : Def} {B : Lo → Mem → T (AV × Mem)} {sh : Sh} {rest : FSem} {lo : sh.ty → Lo} {f : sh.ty → Stt → T (AV × Mem)} (hb : ∀ t, BindsAs c d (sh.enc t) (lo t)) (r : CellK c d B rest)
  (hc : ∀ t, scopeOK (fdScope d.st) (lo t) = true) (he : ∀ t z, B (lo t) z.mem = f t z) : CellK c d B (stSh sh f rest) := .st hb (fun _ _ => .refl _) r hc he
noncomputable def deedS : FSem := stSh (.hnd 1 (shO (.int .nil))) (fun t z => deedB t.1 t.2.1 z) offS
theorem deed_ok (O : ObjInt c) : FnOK c 12 (.ref 739) deedS := CellK.okX (d := dpointer_deed) (fs := deedFs) (mu := []) (fuel := 16) (.st0 (sh := .hnd 1 (shO (.int .nil))) (lo := fun t => deedLo t.1 t.2.1) (fun t => dpointer_deed_as c _ _ _) .off (fun t => by kernel_rfl) (fun _ _ => rfl)) dpointer_deed_ok O
  (mem1 ((op_ok O).le (by decide)) (mem1 ((src_ok O).le (by decide)) (mem1 ((cls_ok O).le (by decide)) (mem1 ((sreg_ok O).le (by decide)) (mem1 (sumof_ok O) mem0)))))
noncomputable def deedF : FK × FSem := (.ref 739, deedS)
noncomputable abbrev doneFs : List (FK × FSem) := [deedF, orderF, rtoldF]
noncomputable def doneLo (code off imm : Int) : Lo := [(S "state", .hnd 1), (S "code", .int code), (S "off", .int off), (S "imm", .int imm)]
noncomputable def doneB (code off imm : Int) (z : Stt) : T (AV × Mem) := bodyX (cfg doneFs []) 18 d_law_done.st (doneLo code off imm) z.mem
end
noncomputable def dAdd (p q : Rg) (t : Bool) (fr : Int) (z : Stt) : T (AV × Mem) := .req (addOK p q t) (.ite (addB p q t) (.leaf (.int 9, z.mem)) (.leaf ((addR p q t fr).told, z.mem)))
noncomputable def dMoved (p q : Rg) (t : Bool) (z : Stt) : T (AV × Mem) := .ite (needsB p q) (.req (z.mem = z.mem) (dAdd p q t z.nn z.fresh)) (dAdd p q t 0 z)
noncomputable def dSum (p q : Rg) (t : Bool) (z : Stt) : T (AV × Mem) :=
 iteAnd (ptrB p) (ptrB q) (iteAnd t (diffB p q) (.leaf ((rnum .top 0).told, z.mem)) (.leaf (.int 9, z.mem)))
  (.ite (ptrB p) (.req (z.mem = z.mem) (dMoved p q t z)) (.ite t (.leaf (.int 9, z.mem)) (.req (z.mem = z.mem) (dMoved q p false z))))
noncomputable def dTail (p q : Rg) (t : Bool) (z : Stt) : T (AV × Mem) := .ite (q.k == S "none") (.leaf (.int 9, z.mem)) (.ite false (.leaf (q.told, z.mem)) (.req (z.mem = z.mem) (.ite (p.k == S "none") (.leaf (.int 9, z.mem)) (.req (z.mem = z.mem) (dSum p q t z)))))
noncomputable def cutF {α : Type} : List Bool → T α → T α
 | [], t => t
 | b :: bs, t => match b with
  | true => .ite true (cutF bs t) (.stuck "cut")
  | false => .ite false (.stuck "cut") (cutF bs t)
theorem cutF_imp {α : Type} (t : T α) : ∀ bs, Imp t (cutF bs t)
 | [] => .refl t
 | true :: bs => fun K KX h => .yes (cutF_imp t bs K KX h)
 | false :: bs => fun K KX h => .no (cutF_imp t bs K KX h)
noncomputable def mvV (p q : Rg) (t : Bool) (z : Stt) : AV := if addB p q t then .int 9 else (addR p q t (if needsB p q then z.nn else 0)).told
noncomputable def mvZ (p q : Rg) (z : Stt) : Stt := if needsB p q then z.fresh else z
noncomputable def sumV (p q : Rg) (t : Bool) (z : Stt) : AV := if ptrB p && ptrB q then (if t && diffB p q then (rnum .top 0).told else .int 9) else if ptrB p then mvV p q t z else if t then .int 9 else mvV q p false z
noncomputable def sumM (p q : Rg) (t : Bool) (z : Stt) : Stt := if ptrB p && ptrB q then z else if ptrB p then mvZ p q z else if t then z else mvZ q p z
noncomputable def tailV (p q : Rg) (t : Bool) (z : Stt) : AV := if q.k == S "none" then .int 9 else if p.k == S "none" then .int 9 else sumV p q t z
noncomputable def tailM (p q : Rg) (t : Bool) (z : Stt) : Stt := if q.k == S "none" then z else if p.k == S "none" then z else sumM p q t z
noncomputable def sOK (p q : Rg) (t : Bool) : Prop := addOK p q t ∧ addOK q p false
theorem dAdd_imp {p q : Rg} {t : Bool} {fr : Int} {z : Stt} : Imp (.req (addOK p q t) (.leaf (if addB p q t then .int 9 else (addR p q t fr).told, z.mem))) (dAdd p q t fr z) := fun K KX h => by
 refine ⟨h.1, fun q => ?_, fun q => ?_⟩ <;> · have h2 := h.2; rw [q] at h2; exact h2
theorem dMoved_imp {p q : Rg} {t : Bool} {z : Stt} : Imp (.req (addOK p q t) (.leaf (mvV p q t z, (mvZ p q z).mem))) (dMoved p q t z) := fun K KX h => by
 refine ⟨fun e => ⟨rfl, dAdd_imp K KX ⟨h.1, ?_⟩⟩, fun e => dAdd_imp K KX ⟨h.1, ?_⟩⟩
 ·have h2 := h.2; unfold mvV mvZ at h2; rw [if_pos e, if_pos e] at h2; exact h2
 ·have h2 := h.2; unfold mvV mvZ at h2; rw [e] at h2; exact h2
theorem dSum_imp {p q : Rg} {t : Bool} {z : Stt} : Imp (.req (sOK p q t) (.leaf (sumV p q t z, (sumM p q t z).mem))) (dSum p q t z) := fun K KX h => by
 obtain ⟨ok, h⟩ := h
 unfold dSum
 unfold sumV sumM at h
 refine iteAnd_all (fun e => ?_) fun e => ?_
 ·rw [e] at h
  refine iteAnd_all (fun e2 => ?_) fun e2 => ?_ <;> · rw [e2] at h; exact h
 ·rw [e] at h
  refine ⟨fun e2 => ?_, fun e2 => ?_⟩
  ·rw [e2] at h; exact ⟨rfl, dMoved_imp K KX ⟨ok.1, h⟩⟩
  ·rw [e2] at h
   refine ⟨fun e3 => ?_, fun e3 => ?_⟩
   ·rw [e3] at h; exact h
   ·rw [e3] at h; exact ⟨rfl, dMoved_imp K KX ⟨ok.2, h⟩⟩
theorem dTail_imp {p q : Rg} {t : Bool} {z : Stt} : Imp (.req (sOK p q t) (.leaf (tailV p q t z, (tailM p q t z).mem))) (dTail p q t z) := fun K KX h => by
 obtain ⟨ok, h⟩ := h
 unfold dTail
 unfold tailV tailM at h
 refine ⟨fun e => ?_, fun e => ⟨fun x => (by cases x), fun _ => ⟨rfl, fun e2 => ?_, fun e2 => ⟨rfl, ?_⟩⟩⟩⟩
 ·rw [e] at h; exact h
 ·rw [e, e2] at h; exact h
 ·rw [e, e2] at h; exact dSum_imp K KX ⟨ok, h⟩
noncomputable abbrev reqO (z : Stt) (t : T (AV × Mem)) : T (AV × Mem) := .req (z.mem = z.mem) t
noncomputable abbrev immR (imm : Int) : Rg := rnum (.const (wrapZ 64 imm)) 0
noncomputable def nine (z : Stt) : T (AV × Mem) := .leaf (.int 9, z.mem)
noncomputable def dTailB (p q : Rg) (t b : Bool) (z : Stt) : T (AV × Mem) := .ite (q.k == S "none") (.leaf (.int 9, z.mem)) (.ite b (.leaf (q.told, z.mem)) (.req (z.mem = z.mem) (.ite (p.k == S "none") (.leaf (.int 9, z.mem)) (.req (z.mem = z.mem) (dSum p q t z)))))
noncomputable def byT (code : Int) (z : Stt) (b : Bool) (bs : List Bool) (t : T (AV × Mem)) : T (AV × Mem) := match b with
 | true => .ite true (reqO z (reqO z (.req ((Builtin.bitAnd code 8 == 0) = false) (cutF bs t)))) (.stuck "cut")
 | false => .ite false (.stuck "cut") (reqO z (reqO z (.req ((Builtin.bitAnd code 8 == 0) = true) (cutF bs t))))
theorem by_imp {code : Int} {z : Stt} {u t : T (AV × Mem)} {bs : List Bool} (hi : Imp u t) : ∀ {b : Bool}, ((Builtin.bitAnd code 8 == 0) == !b) = true → Imp u (byT code z b bs t)
 | true, hc => fun K KX h => .yes ⟨rfl, rfl, eq_of_beq hc, cutF_imp t bs K KX (hi K KX h)⟩
 | false, hc => fun K KX h => .no ⟨rfl, rfl, eq_of_beq hc, cutF_imp t bs K KX (hi K KX h)⟩
theorem dMov_imp {p q : Rg} {z : Stt} : Imp (.leaf (if q.k == S "none" then .int 9 else q.told, z.mem)) (dTailB p q false true z) :=
 .iteT (ifP (fun v => (v, z.mem)) ..) (.refl _) imp_true
noncomputable abbrev Gv := Prop × AV × Stt
noncomputable abbrev Gv.t (g : Gv) : T (AV × Mem) := .req g.1 (.leaf (g.2.1, g.2.2.mem))
structure Row where
 code : Int
 off : Int
 b : Bool
 bs : List Bool
 U : Int → Stt → T (AV × Mem)
 G : Int → Stt → Gv
noncomputable abbrev f4 : List Bool := [false, false, false, false]
noncomputable def tlR (code : Int) (t : Bool) : Row := ⟨code, 0, true, f4, fun _ z => dTailB z.x2 z.x3 t false z, fun _ z => (sOK z.x2 z.x3 t, tailV z.x2 z.x3 t z, tailM z.x2 z.x3 t z)⟩
noncomputable def tlI (code : Int) (t : Bool) : Row := ⟨code, 0, false, f4, fun i z => dTailB z.x2 (immR i) t false z, fun i z => (sOK z.x2 (immR i) t, tailV z.x2 (immR i) t z, tailM z.x2 (immR i) t z)⟩
noncomputable def mvR : Row := ⟨191, 0, true, f4, fun _ z => dTailB z.x2 z.x3 false true z, fun _ z => (True, if z.x3.k == S "none" then .int 9 else z.x3.told, z)⟩
noncomputable def niR (p : Int × Int × Bool × List Bool) : Row := ⟨p.1, p.2.1, p.2.2.1, p.2.2.2, fun _ z => nine z, fun _ z => (True, .int 9, z)⟩
noncomputable abbrev t2 : List Bool := [true, true]
noncomputable abbrev t3 : List Bool := [false, true, true]
noncomputable def rows : List Row := tlR 15 false :: tlR 31 true :: mvR :: tlI 7 false :: tlI 23 true :: [(191, 8, true, [false, false, true, true]), (12, 0, true, t2), (28, 0, true, t2), (188, 0, true, t2), (220, 0, true, t2), (47, 0, true, t3), (63, 0, true, t3), (79, 0, true, t3), (87, 0, false, t3), (111, 0, true, t3), (135, 0, false, t3), (167, 0, false, t3)].map niR
theorem rows_eq (i : Int) (z : Stt) : rows.map (fun r => (doneB r.code r.off i z).cut (r.b :: r.bs)) = rows.map fun r => byT r.code z r.b r.bs (r.U i z) := by kernel_rfl
theorem rows_b : rows.all (fun r => (Builtin.bitAnd r.code 8 == 0) == !r.b) = true := by kernel_rfl
theorem rows_elim {P : Row → Prop} (h1 : ∀ c t, P (tlR c t)) (h2 : ∀ c t, P (tlI c t)) (h3 : P mvR) (h4 : ∀ p, P (niR p)) {r : Row} (h : r ∈ rows) : P r := by
 rcases List.mem_cons.mp h with rfl | h
 ·exact h1 _ _
 rcases List.mem_cons.mp h with rfl | h
 ·exact h1 _ _
 rcases List.mem_cons.mp h with rfl | h
 ·exact h3
 rcases List.mem_cons.mp h with rfl | h
 ·exact h2 _ _
 rcases List.mem_cons.mp h with rfl | h
 ·exact h2 _ _
 obtain ⟨p, _, rfl⟩ := List.mem_map.mp h
 exact h4 p
theorem rows_imp {r : Row} (h : r ∈ rows) (i : Int) (z : Stt) : Imp (r.G i z).t (r.U i z) :=
 rows_elim (P := fun r => Imp (r.G i z).t (r.U i z)) (fun _ _ => dTail_imp) (fun _ _ => dTail_imp) (fun K KX q => dMov_imp K KX q.2) (fun _ K KX q => q.2) h
structure ImpS {α : Type} (τ σ : T α) : Prop where
 i : Imp τ σ
theorem cut_of {u t v : T (AV × Mem)} {bs : List Bool} (e : t.cut bs = v) (h : Imp u v) : ImpS u t := ⟨fun K KX q => T.cut_imp t bs K KX (e ▸ h K KX q)⟩
theorem rows_ok {r : Row} (h : r ∈ rows) (i : Int) (z : Stt) : ImpS (r.G i z).t (doneB r.code r.off i z) :=
 cut_of (List.map_inj_left.mp (rows_eq i z) r h) (by_imp (rows_imp h i z) (List.all_eq_true.mp rows_b r h))
noncomputable def rowOf (code off : Int) : Option Row := rows.find? fun r => r.code == code && r.off == off
theorem rowOf_s {code off : Int} {r : Row} (h : rowOf code off = some r) : r ∈ rows ∧ r.code = code ∧ r.off = off := by
 have q := Bool.and_eq_true_iff.mp (List.find?_some (p := fun r : Row => r.code == code && r.off == off) h)
 exact ⟨List.mem_of_find?_eq_some h, eq_of_beq q.1, eq_of_beq q.2⟩
section
variable {c : Cx} {n : Nat}
noncomputable def restOf (rest : List AV) : Option (Int × Int × Int) := (((Sh.int .nil).dec rest).map fun t => (t.1, (0 : Int), (0 : Int))).or ((((Sh.int (.int .nil)).dec rest).map fun t => (t.1, t.2.1, (0 : Int))).or (((Sh.int (.int (.int .nil))).dec rest).map fun t => (t.1, t.2.1, t.2.2.1)))
theorem restOf_s {rest : List AV} {a : Int × Int × Int} (h : restOf rest = some a) {P : List AV → Int × Int × Int → Prop} (h1 : ∀ x, P [.int x] (x, 0, 0)) (h2 : ∀ x y, P [.int x, .int y] (x, y, 0)) (h3 : ∀ x y z, P [.int x, .int y, .int z] (x, y, z)) : P rest a := by
 rcases Option.or_eq_some_iff.mp h with q | ⟨_, q⟩
 ·obtain ⟨t, e, rfl⟩ := Option.map_eq_some_iff.mp q
  rw [Sh.dec_s _ e]; exact h1 _
 ·rcases Option.or_eq_some_iff.mp q with q | ⟨_, q⟩
  ·obtain ⟨t, e, rfl⟩ := Option.map_eq_some_iff.mp q
   rw [Sh.dec_s _ e]; exact h2 _ _
  ·obtain ⟨t, e, rfl⟩ := Option.map_eq_some_iff.mp q
   rw [Sh.dec_s _ e]; exact h3 _ _ _
noncomputable def giveOf (rest : List AV) (z : Stt) : Option Gv := (restOf rest).bind fun a => (rowOf a.1 a.2.1).map fun r => r.G a.2.2 z
theorem giveOf_s {rest : List AV} {z : Stt} {g : Gv} (h : giveOf rest z = some g) : ∃ a r, restOf rest = some a ∧ r ∈ rows ∧ r.code = a.1 ∧ r.off = a.2.1 ∧ g = r.G a.2.2 z := by
 obtain ⟨a, ha, h⟩ := Option.bind_eq_some_iff.mp h
 obtain ⟨r, hr, rfl⟩ := Option.map_eq_some_iff.mp h
 obtain ⟨h1, h2, h3⟩ := rowOf_s hr
 exact ⟨a, r, ha, h1, h2, h3, rfl⟩
theorem give_body {rest : List AV} {z : Stt} {g : Gv} (h : giveOf rest z = some g) : ∃ a : Int × Int × Int, BindsAs c d_law_done (.hnd 1 :: rest) (doneLo a.1 a.2.1 a.2.2) ∧ ImpS g.t (doneB a.1 a.2.1 a.2.2 z) := by
 obtain ⟨a, r, ha, h1, h2, h3, rfl⟩ := giveOf_s h
 exact ⟨a, restOf_s ha (P := fun rest a => BindsAs c d_law_done (.hnd 1 :: rest) (doneLo a.1 a.2.1 a.2.2)) (fun x => d_law_done_as2 c _ _) (fun x y => d_law_done_as3 c _ _ _) (fun x y z => d_law_done_as4 c _ _ _ _), h2 ▸ h3 ▸ rows_ok h1 _ _⟩
noncomputable def hndOf : List AV → Option (Nat × List AV)
 | [] => none
 | x :: rest => (aHnd x).bind fun k => match k with
  | 0 => none
  | h + 1 => some (h, rest)
theorem hndOf_s {args : List AV} {p : Nat × List AV} (h : hndOf args = some p) : args = .hnd (p.1 + 1) :: p.2 := by
 match args, h with
 | x :: rest, h =>
  obtain ⟨k, hk, h⟩ := Option.bind_eq_some_iff.mp h
  rw [aHnd_s hk]
  match k, h with
  | k + 1, h => cases h; rfl
noncomputable def givesS : FSem := fun args m => optT (hndOf args) "_law_done" fun p => optT (stOf m) "_law_done" fun z => optT (giveOf p.2 z) "_law_done" fun g => .req (p.1 = 0 ∧ m = z.mem) g.t
theorem doneFs_ok (O : ObjInt c) : ∀ p ∈ doneFs, FnOK c 12 p.1.val p.2 := mem1 (deed_ok O) (mem1 ((order_ok O).le (by decide)) (mem1 ((rtold_ok O).le (by decide)) mem0))
theorem gives_case {a : Int × Int × Int} {m : Mem} {z : Stt} {g : Gv} (e : m = z.mem) (h : ImpS g.t (doneB a.1 a.2.1 a.2.2 z)) : ImpS g.t (bodyX (cfg doneFs []) 18 d_law_done.st (doneLo a.1 a.2.1 a.2.2) m) := by subst e; exact h
theorem done_scope (code off imm : Int) : scopeOK (fdScope d_law_done.st) (doneLo code off imm) = true := by kernel_rfl
theorem optT_imp {α β : Type} {o : Option α} {w : String} {f : α → T β} {t : T β} (h : ∀ a, o = some a → Imp (f a) t) : Imp (optT o w f) t := fun K KX q => by
 obtain ⟨a, e, q⟩ := optT_all q
 exact h a e K KX q
theorem gives_ok (O : ObjInt c) : FnOK c 13 (.ref 986) givesS := d_law_done.fnX d_law_done_ok O doneFs [] (doneFs_ok O) 18 givesS fun args m => by
 by_cases q : ∃ p z g, hndOf args = some p ∧ stOf m = some z ∧ giveOf p.2 z = some g ∧ p.1 = 0 ∧ m = z.mem
 ·obtain ⟨p, z, g, h1, h2, h3, h4, h5⟩ := q
  obtain ⟨a, hb, hi⟩ := give_body (c := c) h3
  have hi := gives_case h5 hi
  have hb : BindsAs c d_law_done args (doneLo a.1 a.2.1 a.2.2) := by rw [hndOf_s h1, h4]; exact hb
  have e : givesS args m = .req (p.1 = 0 ∧ m = z.mem) g.t := by simp only [givesS, optT, h1, h2, h3]
  refine .inr ⟨_, hb, done_scope .., ?_⟩
  generalize bodyX (cfg doneFs []) 18 d_law_done.st (doneLo a.1 a.2.1 a.2.2) m = t at hi ⊢
  rw [e]; exact fun K KX x => hi.i K KX x.2
 ·refine .inl fun K KX h => q ?_
  obtain ⟨p, h1, h⟩ := optT_all h
  obtain ⟨z, h2, h⟩ := optT_all h
  obtain ⟨g, h3, h⟩ := optT_all h
  exact ⟨p, z, g, h1, h2, h3, h.1⟩
end
noncomputable def Stt.at_ (z : Stt) (h : Nat) (m : Mem) : Mem := (m.set h (.lst z.xs)).set (h + 1) (.inst 900 (z.fs h))
noncomputable def Stt.lies (z : Stt) (h : Nat) (m : Mem) : Prop := m[h]? = some (.lst z.xs) ∧ m[h + 1]? = some (.inst 900 (z.fs h))
theorem upN_0 (h n : Nat) : upN [h, h + 1] n 0 = h := rfl
theorem upN_1 (h n : Nat) : upN [h, h + 1] n 1 = h + 1 := rfl
theorem renAV_0 {f : Nat → Nat} {x : AV} : closedAV 0 x = true → renAV f x = x :=
 AV.rec (motive_1 := fun x => closedAV 0 x = true → renAV f x = x) (motive_2 := fun x => closedAVs 0 x = true → renAVs f x = x) (fun _ => rfl) (fun _ _ => rfl) (fun _ _ => rfl) (fun _ _ => rfl) (fun _ _ => rfl) (fun _ ih h => congrArg AV.tup (ih h)) (fun _ ih h => congrArg AV.lst (ih h)) (fun _ _ => rfl) (fun C _ ih h => congrArg (AV.obj C) (ih h))
  (fun j h => absurd (Nat.blt_eq.mp h) (Nat.not_lt_zero j)) (fun _ _ _ => rfl) (fun _ => rfl) (fun _ => rfl)
  (fun x xs h1 h2 h => by
   have h := Bool.and_eq_true_iff.mp h
   show renAV f x :: renAVs f xs = _
   rw [h1 h.1, h2 h.2]) x
theorem renAVs_0 {f : Nat → Nat} : ∀ {x : List AV}, closedAVs 0 x = true → renAVs f x = x
 | [], _ => rfl
 | x :: r, h => by
  have h := Bool.and_eq_true_iff.mp h
  show renAV f x :: renAVs f r = _
  rw [renAV_0 h.1, renAVs_0 h.2]
theorem z_closed (z : Stt) : closedMO 2 (.lst z.xs) = true ∧ closedMO 2 (.inst 900 (z.fs 0)) = true := ⟨by kernel_rfl, by kernel_rfl⟩
section
variable {c : Cx} {n : Nat}
theorem stOf_mem (z : Stt) : stOf z.mem = some z := by kernel_rfl
theorem told_closed (r : Rg) : closedAV 0 r.told = true := by kernel_rfl
theorem nine_closed : closedAV 0 (.int 9) = true := rfl
theorem mvV_closed (p q : Rg) (t : Bool) (z : Stt) : closedAV 0 (mvV p q t z) = true := by
 unfold mvV; split
 ·exact nine_closed
 ·exact told_closed _
theorem tailV_closed (p q : Rg) (t : Bool) (z : Stt) : closedAV 0 (tailV p q t z) = true := by
 unfold tailV sumV
 repeat' split
 all_goals first | exact nine_closed | exact told_closed _ | exact mvV_closed ..
theorem movV_closed (z : Stt) : closedAV 0 (if z.x3.k == S "none" then .int 9 else z.x3.told) = true := by
 split
 ·exact nine_closed
 ·exact told_closed _
theorem rows_closed {r : Row} (h : r ∈ rows) (i : Int) (z : Stt) : closedAV 0 (r.G i z).2.1 = true :=
 rows_elim (P := fun r => closedAV 0 (r.G i z).2.1 = true) (fun _ _ => tailV_closed ..) (fun _ _ => tailV_closed z.x2 (immR i) _ z) (movV_closed z) (fun _ => nine_closed) h
theorem give_closed {rest : List AV} {z : Stt} {g : Gv} (hg : giveOf rest z = some g) : closedAV 0 g.2.1 = true ∧ closedAVs 0 rest = true ∧ closedAVs 2 rest = true := by
 obtain ⟨a, r, ha, h1, _, _, rfl⟩ := giveOf_s hg
 exact ⟨rows_closed h1 _ _, restOf_s ha (P := fun rest _ => closedAVs 0 rest = true ∧ closedAVs 2 rest = true) (fun _ => ⟨rfl, rfl⟩) (fun _ _ => ⟨rfl, rfl⟩) fun _ _ _ => ⟨rfl, rfl⟩⟩
theorem unfocus_z (z' : Stt) (h : Nat) (m : Mem) {v : AV} (hc : closedAV 0 v = true) : unfocus [h, h + 1] m (v, z'.mem) = (v, z'.at_ h m) := by
 show (renAV _ v, _) = _
 rw [renAV_0 hc]; rfl
theorem gives_at {rest : List AV} {z : Stt} {g : Gv} (hg : giveOf rest z = some g) : givesS (.hnd 1 :: rest) z.mem = .req ((0 : Nat) = 0 ∧ z.mem = z.mem) g.t := by
 have e : hndOf (.hnd 1 :: rest) = some (0, rest) := rfl
 simp only [givesS, optT, e, stOf_mem, hg]
noncomputable def doneL : FSem := fun args m => optT (hndOf args) "_law_done" fun p => optT (stAt m p.1) "_law_done" fun z => optT (giveOf p.2 z) "_law_done" fun g => .req (z.lies p.1 m ∧ g.1) (.leaf (g.2.1, g.2.2.at_ p.1 m))
theorem done_ok2 (O : ObjInt c) : FnOK c 13 (.ref 986) doneL where
 keep := (gives_ok O).keep
 call := fun A s g m args vs hr I r => Tri.opt fun p hp => Tri.opt fun z hz => Tri.opt fun w hw => by
  rw [hndOf_s hp] at r
  obtain ⟨k, rest⟩ := p
  intro Q E K KX hA
  obtain ⟨⟨⟨l1, l2⟩, hP⟩, hA⟩ := hA
  obtain ⟨cv, c0, c2⟩ := give_closed hw
  have hv : ∀ i ∈ [k, k + 1], i < m.length := fun i hi => by
   rcases List.mem_cons.mp hi with rfl | hi
   ·exact (List.getElem?_eq_some_iff.mp l1).1
   ·rw [List.mem_singleton.mp hi]; exact (List.getElem?_eq_some_iff.mp l2).1
  have nd : [k, k + 1].Nodup := by simp
  have I2 : Inv c A (g.sub [k, k + 1]) s z.mem := focus_inv I nd hv rfl fun j mo i e1 e2 => by
   match j with
   | 0 => cases e1; cases e2; exact ⟨l1, (z_closed z).1⟩
   | 1 => cases e1; cases e2; exact ⟨l2, (z_closed z).2⟩
   | j + 2 => cases e2
  have hv' : ∀ i ∈ [k, k + 1], i < g.th.length := fun i hi => I.len ▸ hv i hi
  have r2 : Reps c.w.params (g.sub [k, k + 1]) (.hnd 1 :: rest) vs := by
   refine Reps.narrow (g := g) (g' := g.sub [k, k + 1]) (f := upN [k, k + 1] m.length) (k := 2) (fun _ _ h => h) (fun j l hj e => ?_) ?_ ?_
   ·refine (sub_get hv').mpr ?_
    match j with
    | 0 => exact ⟨k, rfl, e⟩
    | 1 => exact ⟨k + 1, rfl, e⟩
   ·exact Bool.and_eq_true_iff.mpr ⟨rfl, c2⟩
   ·show Reps _ g (.hnd (k + 1) :: renAVs _ rest) vs
    rw [renAVs_0 c0]; exact r
  have F := (gives_ok O).call A s _ _ _ _ hr I2 r2
  rw [gives_at hw] at F
  refine (focus (m2 := z.mem) I nd hv rfl F fun K KX y => ⟨y.1, y.2.1, y.2.2, Nat.le_refl 2⟩) Q E K KX ⟨⟨rfl, rfl⟩, hP, ?_⟩
  show K (unfocus [k, k + 1] m (w.2.1, w.2.2.mem))
  rw [unfocus_z _ _ _ cv]; exact hA
noncomputable def doneLF : FK × FSem := (.ref 986, doneL)
end
structure Runs {α : Type} (t : T α) (a : α) : Prop where
 all : ∀ K KX, K a → t.All K KX
noncomputable def pick {β : Type} (bs : List Bool) (z : β) (f g : List Bool → β) : β := match bs with
 | [] => z
 | b :: r => bif b then f r else g r
noncomputable def pickP (bs : List Bool) (f g : List Bool → Prop) : Prop := match bs with
 | [] => False
 | b :: r => match b with
  | true => f r
  | false => g r
noncomputable def T.conds {α : Type} : T α → List Bool → Prop
 | .ite c t e => fun bs => pickP bs (fun r => c = true ∧ t.conds r) (fun r => c = false ∧ e.conds r)
 | .req p t => fun bs => p ∧ t.conds bs
 | .leaf _ => fun _ => True
 | .exc _ _ => fun _ => False
 | .stuck _ => fun _ => False
noncomputable def T.follow {α : Type} : T α → List Bool → Option α
 | .ite _ t e => fun bs => pick bs none t.follow e.follow
 | .req _ t => t.follow
 | .leaf a => fun _ => some a
 | .exc _ _ => fun _ => none
 | .stuck _ => fun _ => none
theorem T.path_runs {α : Type} : ∀ (t : T α) (bs : List Bool) {a : α}, t.conds bs → t.follow bs = some a → ∀ K : α → Prop, ∀ KX, K a → t.All K KX
 | .ite c t e, true :: bs, _, h, f, K, KX, k => ⟨fun _ => T.path_runs t bs h.2 f K KX k, fun q => nomatch h.1.symm.trans q⟩
 | .ite c t e, false :: bs, _, h, f, K, KX, k => ⟨fun q => (nomatch h.1.symm.trans q), fun _ => T.path_runs e bs h.2 f K KX k⟩
 | .ite _ _ _, [], _, h, _, _, _, _ => h.elim
 | .req p t, bs, _, h, f, K, KX, k => ⟨h.1, T.path_runs t bs h.2 f K KX k⟩
 | .leaf _, _, _, _, f, _, _, k => Option.some.inj f ▸ k
 | .exc _ _, _, _, h, _, _, _, _ => h.elim
 | .stuck _, _, _, h, _, _, _, _ => h.elim
theorem Runs.of {α : Type} {t : T α} {a : α} {P : Prop} (bs : List Bool) (e : t.conds bs = P) (f : t.follow bs = some a) (h : P) : Runs t a := ⟨T.path_runs t bs (e ▸ h) f⟩
theorem Runs.imp {α : Type} {t : T α} {a : α} (h : Runs t a) : Imp (.leaf a) t := fun K KX k => h.all K KX k
theorem Runs.cons {C : Cfg} {R : Rec} {st : Stmt} {r : List Stmt} {lo lo1 : Lo} {m m1 : Mem} {x : (Fl × Lo) × Mem} (h1 : Runs (exT C R st lo m) ((.next, lo1), m1)) (h2 : Runs (exsT C R r lo1 m1) x) : Runs (exsT C R (st :: r) lo m) x :=
 ⟨fun K KX k => T.all_bind.mpr (h1.all _ _ (h2.all K KX k))⟩
theorem Runs.nil {C : Cfg} {R : Rec} {lo : Lo} {m : Mem} : Runs (exsT C R [] lo m) ((.next, lo), m) := ⟨fun K KX k => k⟩
theorem Runs.ret {C : Cfg} {R : Rec} {st : Stmt} {r : List Stmt} {lo lo1 : Lo} {m m1 : Mem} {v : AV} (h1 : Runs (exT C R st lo m) ((.ret v, lo1), m1)) : Runs (exsT C R (st :: r) lo m) ((.ret v, lo1), m1) :=
 ⟨fun K KX k => T.all_bind.mpr (h1.all _ _ k)⟩
theorem T.all_quiet {α : Type} {K : α → Prop} {KX : AV → Mem → Prop} : ∀ {t : T α}, t.All K (fun _ _ => False) → t.quiet.All K KX
 | .leaf _, h => h
 | .exc _ _, h => h.elim
 | .ite _ _ _, h => ⟨fun c => T.all_quiet (h.1 c), fun c => T.all_quiet (h.2 c)⟩
 | .req _ _, h => ⟨h.1, T.all_quiet h.2⟩
 | .stuck _, h => h.elim
theorem Runs.body {C : Cfg} {k : Nat} {st : Stmt} {lo lo1 : Lo} {m m1 : Mem} {v : AV} (h : Runs (exsT { C with scope := fdScope st } (run k { C with scope := fdScope st }) (fdBody st) lo m) ((.ret v, lo1), m1)) : Runs (bodyT C (k + 1) st lo m) (v, m1) :=
 ⟨fun K KX q => T.all_bind.mpr (T.all_quiet (h.all _ _ q))⟩
section
variable {c : Cx} {n : Nat}
theorem Def.fn0V (d : Def) (hd : DefOK d) (O : ObjInt c) (fuel : Nat) (k : FSem)
  (hk : ∀ args m, (∀ K KX, ¬ (k args m).All K KX) ∨ ∃ fs mu, (∀ p ∈ fs, FnOK c n p.1.val p.2) ∧ ∃ lo, closedAVs 0 args = true ∧ BindsAs c d args lo ∧ scopeOK (fdScope d.st) lo = true ∧
   (Imp (k args m) (((bodyT (cfg fs mu) fuel d.st lo []).bind (truncT 0)).ren (unfocus [] m)) ∨ Imp (k args m) ((bodyT (cfg fs mu) fuel d.st lo []).ren (unfocus [] m)))) : FnOK c (n + 1) (.ref d.f) k where
 keep := keep_K c (hd.keep _)
 call := fun A s g m args vs hr I r => by
  rcases hk args m with h | ⟨fs, mu, hfs, h⟩
  ·exact fun Q E K KX hA => (h K KX hA).elim
  ·have F := d.fn0 hd O fs mu hfs fuel (fun a m' => .req (a = args ∧ m' = m) (k args m)) fun a m' => by
    by_cases e : a = args ∧ m' = m
    ·obtain ⟨lo, h1, h2, h3, h4⟩ := h
     obtain ⟨rfl, rfl⟩ := e
     refine .inr ⟨lo, h1, h2, h3, ?_⟩
     rcases h4 with h4 | h4
     ·exact .inl fun K KX q => h4 K KX q.2
     ·exact .inr fun K KX q => h4 K KX q.2
    ·exact .inl fun K KX q => e q.1
   exact (F.call A s g m args vs hr I r).imp fun K KX q => ⟨⟨rfl, rfl⟩, q⟩
structure DJ (h : Nat) (rest : List AV) (m : Mem) (v : AV) (m' : Mem) : Prop where
 all : ∀ K KX, K (v, m') → (doneL (.hnd (h + 1) :: rest) m).All K KX
noncomputable def doneO (tab : Nat → AV × Stt) : FSem := fun args m => optT (hndOf args) "_law_done" fun p => .req (DJ p.1 p.2 m (tab p.1).1 ((tab p.1).2.at_ p.1 m)) (.leaf ((tab p.1).1, (tab p.1).2.at_ p.1 m))
theorem doneO_ok (O : ObjInt c) (tab : Nat → AV × Stt) : FnOK c 13 (.ref 986) (doneO tab) := (done_ok2 O).imp fun args m => optT_imp fun p hp K KX x => by
 rw [hndOf_s hp]; exact x.1.all K KX x.2
theorem DJ.mk' {h : Nat} {rest : List AV} {m : Mem} {z z' : Stt} {P : Prop} {v : AV} (h1 : stAt m h = some z) (h2 : z.lies h m) (h3 : giveOf rest z = some (P, v, z')) (hP : P) : DJ h rest m v (z'.at_ h m) := by
 refine ⟨fun K KX q => ?_⟩
 have e1 : hndOf (.hnd (h + 1) :: rest) = some (h, rest) := rfl
 have e : doneL (.hnd (h + 1) :: rest) m = .req (z.lies h m ∧ P) (.leaf (v, z'.at_ h m)) := by simp only [doneL, optT, e1, h1, h3]
 rw [e]; exact ⟨⟨h2, hP⟩, q⟩
noncomputable def dueV (b : Bool) (r : Rg) : AV := if b then .int 9 else r.told
noncomputable def addV (b : Bool) (r : Rg) : AV := if b then .int 7 else r.av
structure Wd where
 p : Rg
 q : Rg
 r : Rg
 imm : Int
 bP : Bool
 bM : Bool
 b7 : Bool
 b23 : Bool
 bL : Bool
 rP : Rg
 rM : Rg
 r7 : Rg
 r23 : Rg
 zs : Nat → Stt
noncomputable def Wd.tab (w : Wd) (h : Nat) : AV × Stt := (match h with
 | 0 => dueV w.bP w.rP
 | 2 => dueV w.bP w.rP
 | 4 => dueV w.bM w.rM
 | 8 => dueV w.b7 w.r7
 | 10 => dueV w.b23 w.r23
 | 12 => w.p.told
 | 38 => dueV (!w.bL) (rnum .top 0)
 | _ => .int 9, w.zs h)
noncomputable def dRFs (w : Wd) : List (FK × FSem) := [addedF, rtoldF, lstateF, (.ref 986, doneO w.tab), (.ref 505, numS), sconstF, noneF, sunkF, (.bi "sorted", sortS)]
noncomputable def dRC (w : Wd) : Cfg := { cfg (dRFs w) [] with scope := fdScope d_law_deeds_right.st }
noncomputable def dRR (w : Wd) : Rec := run 18 (dRC w)
noncomputable def dRst (i : Nat) : Stmt := (fdBody d_law_deeds_right.st).getD i (.Pass default)
end
theorem Runs.by {α : Type} {t : T α} {a : α} (bs : List Bool) (P : Prop) (e : t.conds bs = P) (f : t.follow bs = some a) (h : P) : Runs t a := ⟨T.path_runs t bs (e ▸ h) f⟩
noncomputable abbrev L0 (w : Wd) : Lo := [(S "tip", w.p.av), (S "number", w.q.av), (S "other_tip", w.r.av), (S "imm", .int w.imm)]
noncomputable abbrev L1 (w : Wd) : Lo := L0 w ++ [(S "minus", addV w.bM w.rM), (S "plus", addV w.bP w.rP)]
noncomputable abbrev L2 (w : Wd) : Lo := L1 w ++ [(S "due", .lst [dueV w.bP w.rP, dueV w.bM w.rM])]
noncomputable abbrev L3 (w : Wd) : Lo := L2 w ++ [(S "state", .hnd 1)]
noncomputable abbrev L4 (w : Wd) (tk : Bool) : Lo := L3 w ++ [(S "takes", .bool tk)]
noncomputable def newM (p q : Rg) (m : Mem) : Mem := m ++ [.lst (stL p q).xs, .inst 900 ((stL p q).fs m.length)]
noncomputable def donM (w : Wd) (h : Nat) (m : Mem) : Mem := (w.zs h).at_ h m
noncomputable def toldB (r : Rg) : Bool := (eqTop r.told r.told).getD false
theorem told_same (r : Rg) : toldB r = true := by
 simp [toldB, eqTop, objInt, tupInt, eqAV, allEq, aTup, aInt, aStr, Rg.told, toldSc, En.l]
theorem st0 (w : Wd) (h1 : addB w.p w.q false = w.bP) (h2 : addB w.p w.q true = w.bM) (h3 : addR w.p w.q false 40 = w.rP) (h4 : addR w.p w.q true 40 = w.rM) (o1 : addOK w.p w.q false) (o2 : addOK w.p w.q true) :
  Runs (exT (dRC w) (dRR w) (dRst 0) (L0 w) []) ((.next, L1 w), []) := by
 obtain ⟨p, q, r, imm, bP, bM, b7, b23, bL, rP, rM, r7, r23, zs⟩ := w
 dsimp only at h1 h2 h3 h4 o1 o2
 subst h3 h4
 refine Runs.by [bP, bM] (addOK p q false ∧ addB p q false = bP ∧ addOK p q true ∧ addB p q true = bM ∧ True) ?_ ?_ ⟨o1, h1, o2, h2, trivial⟩
 ·cases bP <;> cases bM <;> kernel_rfl
 ·cases bP <;> cases bM <;> kernel_rfl
noncomputable def neB (b : Bool) (r : Rg) : Bool := match b with
 | true => false
 | false => !toldB r
theorem ne_same (b : Bool) (r : Rg) : neB b r = false := by
 cases b
 ·show (!toldB r) = false
  rw [told_same]; rfl
 ·rfl
noncomputable abbrev certR (w : Wd) : Rg := rnum (.const w.imm) 0
noncomputable abbrev L7 (w : Wd) (tk : Bool) : Lo := L4 w tk ++ [(S "certain", (certR w).av)]
noncomputable abbrev L8 (w : Wd) (tk : Bool) (code : Int) : Lo := L7 w tk ++ [(S "code", .int code), (S "is_minus", .bool true), (S "found", addV w.b23 w.r23)]
noncomputable def A0 (w : Wd) : Mem := newM w.p w.q []
noncomputable def A1 (w : Wd) : Mem := donM w 0 (A0 w)
noncomputable def A2 (w : Wd) : Mem := newM w.q w.p (A1 w)
noncomputable def A3 (w : Wd) : Mem := donM w 2 (A2 w)
noncomputable def A4 (w : Wd) : Mem := newM w.p w.q (A3 w)
noncomputable def A5 (w : Wd) : Mem := donM w 4 (A4 w)
noncomputable def A6 (w : Wd) : Mem := newM w.q w.p (A5 w)
noncomputable def A7 (w : Wd) : Mem := donM w 6 (A6 w)
noncomputable def A8 (w : Wd) : Mem := newM w.p rnone (A7 w)
noncomputable def A9 (w : Wd) : Mem := donM w 8 (A8 w)
noncomputable def A10 (w : Wd) : Mem := newM w.p rnone (A9 w)
noncomputable def A11 (w : Wd) : Mem := donM w 10 (A10 w)
noncomputable def A12 (w : Wd) : Mem := newM rnone w.p (A11 w)
noncomputable def A13 (w : Wd) : Mem := donM w 12 (A12 w)
noncomputable def A14 (w : Wd) : Mem := newM rnone w.p (A13 w)
noncomputable def A15 (w : Wd) : Mem := donM w 14 (A14 w)
noncomputable def A16 (w : Wd) : Mem := newM w.p w.p (A15 w)
noncomputable def A17 (w : Wd) : Mem := donM w 16 (A16 w)
noncomputable def A18 (w : Wd) : Mem := newM w.p w.p (A17 w)
noncomputable def A19 (w : Wd) : Mem := donM w 18 (A18 w)
noncomputable def A20 (w : Wd) : Mem := newM w.p w.p (A19 w)
noncomputable def A21 (w : Wd) : Mem := donM w 20 (A20 w)
noncomputable def A22 (w : Wd) : Mem := newM w.p w.p (A21 w)
noncomputable def A23 (w : Wd) : Mem := donM w 22 (A22 w)
noncomputable def A24 (w : Wd) : Mem := newM w.p w.p (A23 w)
noncomputable def A25 (w : Wd) : Mem := donM w 24 (A24 w)
noncomputable def A26 (w : Wd) : Mem := newM w.p w.p (A25 w)
noncomputable def A27 (w : Wd) : Mem := donM w 26 (A26 w)
noncomputable def A28 (w : Wd) : Mem := newM w.p w.p (A27 w)
noncomputable def A29 (w : Wd) : Mem := donM w 28 (A28 w)
noncomputable def A30 (w : Wd) : Mem := newM w.p w.p (A29 w)
noncomputable def A31 (w : Wd) : Mem := donM w 30 (A30 w)
noncomputable def A32 (w : Wd) : Mem := newM w.p w.p (A31 w)
noncomputable def A33 (w : Wd) : Mem := donM w 32 (A32 w)
noncomputable def A34 (w : Wd) : Mem := newM w.p w.p (A33 w)
noncomputable def A35 (w : Wd) : Mem := donM w 34 (A34 w)
noncomputable def A36 (w : Wd) : Mem := newM w.p w.p (A35 w)
noncomputable def A37 (w : Wd) : Mem := donM w 36 (A36 w)
noncomputable def A38 (w : Wd) : Mem := newM w.p w.r (A37 w)
noncomputable def A39 (w : Wd) : Mem := donM w 38 (A38 w)
noncomputable def A40 (w : Wd) : Mem := newM w.p w.r (A39 w)
noncomputable def A41 (w : Wd) : Mem := donM w 40 (A40 w)
noncomputable def A42 (w : Wd) : Mem := newM w.p w.p (A41 w)
noncomputable def A43 (w : Wd) : Mem := donM w 42 (A42 w)
noncomputable abbrev DP1 (w : Wd) : Prop := (2 : Nat) ≤ 1000 ∧ w.bP = w.bP ∧ w.bM = w.bM ∧ True
theorem ds1 (w : Wd) (h : DP1 w) : Runs (exT (dRC w) (dRR w) (dRst 1) (L1 w) ([])) ((.next, L2 w), []) := by
 refine Runs.by [w.bP, w.bM] (DP1 w) ?_ ?_ h
 ·obtain ⟨p, q, r, imm, bP, bM, b7, b23, bL, rP, rM, r7, r23, zs⟩ := w; cases bP <;> cases bM <;> kernel_rfl
 ·obtain ⟨p, q, r, imm, bP, bM, b7, b23, bL, rP, rM, r7, r23, zs⟩ := w; cases bP <;> cases bM <;> kernel_rfl
noncomputable abbrev DP2 (w : Wd) : Prop := True
theorem ds2 (w : Wd) (h : DP2 w) : Runs (exT (dRC w) (dRR w) (dRst 2) (L2 w) ([])) ((.next, L3 w), A0 w) := by
 refine Runs.by [] (DP2 w) ?_ ?_ h
 ·obtain ⟨p, q, r, imm, bP, bM, b7, b23, bL, rP, rM, r7, r23, zs⟩ := w; kernel_rfl
 ·obtain ⟨p, q, r, imm, bP, bM, b7, b23, bL, rP, rM, r7, r23, zs⟩ := w; kernel_rfl
noncomputable abbrev DP3 (w : Wd) : Prop := DJ 0 [.int 15] (A0 w) (dueV w.bP w.rP) (A1 w) ∧ neB w.bP w.rP = false ∧ DJ 2 [.int 15] (A2 w) (dueV w.bP w.rP) (A3 w) ∧ neB w.bP w.rP = false ∧ false = false ∧ True
theorem ds3 (w : Wd) (h : DP3 w) : Runs (exT (dRC w) (dRR w) (dRst 3) (L3 w) (A0 w)) ((.next, L3 w), A3 w) := by
 refine Runs.by [false, false, false] (DP3 w) ?_ ?_ h
 ·obtain ⟨p, q, r, imm, bP, bM, b7, b23, bL, rP, rM, r7, r23, zs⟩ := w; cases bP <;> kernel_rfl
 ·obtain ⟨p, q, r, imm, bP, bM, b7, b23, bL, rP, rM, r7, r23, zs⟩ := w; cases bP <;> kernel_rfl
noncomputable abbrev DP5 (w : Wd) (tk : Bool) (tv : Bool) : Prop := tk = tv ∧ (!((w.zs 0).nn == (if tv then 41 else 40))) = false ∧ DJ 4 [.int 31] (A4 w) (dueV w.bM w.rM) (A5 w) ∧ neB w.bM w.rM = false ∧ false = false ∧ True
theorem ds5 (w : Wd) (tk : Bool) (tv : Bool) (h : DP5 w tk tv) : Runs (exT (dRC w) (dRR w) (dRst 5) (L4 w tk) (A3 w)) ((.next, L4 w tk), A5 w) := by
 refine Runs.by [tv, false, false, false] (DP5 w tk tv) ?_ ?_ h
 ·obtain ⟨p, q, r, imm, bP, bM, b7, b23, bL, rP, rM, r7, r23, zs⟩ := w; cases bM <;> cases tv <;> kernel_rfl
 ·obtain ⟨p, q, r, imm, bP, bM, b7, b23, bL, rP, rM, r7, r23, zs⟩ := w; cases bM <;> cases tv <;> kernel_rfl
noncomputable abbrev DP6 (w : Wd) (tk : Bool) : Prop := (w.q.k == S "scalar") = true ∧ DJ 6 [.int 31] (A6 w) (.int 9) (A7 w) ∧ false = false ∧ false = false ∧ True
theorem ds6 (w : Wd) (tk : Bool) (h : DP6 w tk) : Runs (exT (dRC w) (dRR w) (dRst 6) (L4 w tk) (A5 w)) ((.next, L4 w tk), A7 w) := by
 refine Runs.by [true, false, false] (DP6 w tk) ?_ ?_ h
 ·obtain ⟨p, q, r, imm, bP, bM, b7, b23, bL, rP, rM, r7, r23, zs⟩ := w; kernel_rfl
 ·obtain ⟨p, q, r, imm, bP, bM, b7, b23, bL, rP, rM, r7, r23, zs⟩ := w; kernel_rfl
noncomputable abbrev DP7 (w : Wd) (tk : Bool) : Prop := True
theorem ds7 (w : Wd) (tk : Bool) (h : DP7 w tk) : Runs (exT (dRC w) (dRR w) (dRst 7) (L4 w tk) (A7 w)) ((.next, L7 w tk), A7 w) := by
 refine Runs.by [] (DP7 w tk) ?_ ?_ h
 ·obtain ⟨p, q, r, imm, bP, bM, b7, b23, bL, rP, rM, r7, r23, zs⟩ := w; kernel_rfl
 ·obtain ⟨p, q, r, imm, bP, bM, b7, b23, bL, rP, rM, r7, r23, zs⟩ := w; kernel_rfl
noncomputable abbrev DP8 (w : Wd) (tk : Bool) : Prop := (2 : Nat) ≤ 1000 ∧ addOK w.p (certR w) false ∧ addB w.p (certR w) false = w.b7 ∧ DJ 8 [.int 7, .int 0, .int w.imm] (A8 w) (dueV w.b7 w.r7) (A9 w) ∧ w.b7 = w.b7 ∧ neB w.b7 w.r7 = false ∧ addOK w.p (certR w) true ∧ addB w.p (certR w) true = w.b23 ∧ DJ 10 [.int 23, .int 0, .int w.imm] (A10 w) (dueV w.b23 w.r23) (A11 w) ∧ w.b23 = w.b23 ∧ neB w.b23 w.r23 = false ∧ True
theorem ds8 (w : Wd) (tk : Bool) (h : DP8 w tk) (r7e : w.r7 = addR w.p (certR w) false 40) (r23e : w.r23 = addR w.p (certR w) true 40) : Runs (exT (dRC w) (dRR w) (dRst 8) (L7 w tk) (A7 w)) ((.next, L8 w tk 23), A11 w) := by
 refine Runs.by [w.b7, w.b7, false, w.b23, w.b23, false] (DP8 w tk) ?_ ?_ h
 ·obtain ⟨p, q, r, imm, bP, bM, b7, b23, bL, rP, rM, r7, r23, zs⟩ := w; dsimp only [certR] at r7e r23e; subst r7e r23e; clear h; cases b7 <;> cases b23 <;> kernel_rfl
 ·obtain ⟨p, q, r, imm, bP, bM, b7, b23, bL, rP, rM, r7, r23, zs⟩ := w; dsimp only [certR] at r7e r23e; subst r7e r23e; clear h; cases b7 <;> cases b23 <;> kernel_rfl
noncomputable abbrev DP9 (w : Wd) (tk : Bool) : Prop := DJ 12 [.int 191] (A12 w) w.p.told (A13 w) ∧ neB false w.p = false ∧ DJ 14 [.int 15] (A14 w) (.int 9) (A15 w) ∧ false = false ∧ false = false ∧ True
theorem ds9 (w : Wd) (tk : Bool) (h : DP9 w tk) : Runs (exT (dRC w) (dRR w) (dRst 9) (L8 w tk 23) (A11 w)) ((.next, L8 w tk 23), A15 w) := by
 refine Runs.by [false, false, false] (DP9 w tk) ?_ ?_ h
 ·obtain ⟨p, q, r, imm, bP, bM, b7, b23, bL, rP, rM, r7, r23, zs⟩ := w; kernel_rfl
 ·obtain ⟨p, q, r, imm, bP, bM, b7, b23, bL, rP, rM, r7, r23, zs⟩ := w; kernel_rfl
noncomputable abbrev DP10 (w : Wd) (tk : Bool) : Prop := (11 : Nat) ≤ 1000 ∧ DJ 16 [.int 12] (A16 w) (.int 9) (A17 w) ∧ false = false ∧ DJ 18 [.int 28] (A18 w) (.int 9) (A19 w) ∧ false = false ∧ DJ 20 [.int 188] (A20 w) (.int 9) (A21 w) ∧ false = false ∧ DJ 22 [.int 47] (A22 w) (.int 9) (A23 w) ∧ false = false ∧ DJ 24 [.int 63] (A24 w) (.int 9) (A25 w) ∧ false = false ∧ DJ 26 [.int 79] (A26 w) (.int 9) (A27 w) ∧ false = false ∧ DJ 28 [.int 87] (A28 w) (.int 9) (A29 w) ∧ false = false ∧ DJ 30 [.int 111] (A30 w) (.int 9) (A31 w) ∧ false = false ∧ DJ 32 [.int 135] (A32 w) (.int 9) (A33 w) ∧ false = false ∧ DJ 34 [.int 167] (A34 w) (.int 9) (A35 w) ∧ false = false ∧ DJ 36 [.int 220] (A36 w) (.int 9) (A37 w) ∧ false = false ∧ True
theorem ds10 (w : Wd) (tk : Bool) (h : DP10 w tk) : Runs (exT (dRC w) (dRR w) (dRst 10) (L8 w tk 23) (A15 w)) ((.next, L8 w tk 220), A37 w) := by
 refine Runs.by [false, false, false, false, false, false, false, false, false, false, false] (DP10 w tk) ?_ ?_ h
 ·obtain ⟨p, q, r, imm, bP, bM, b7, b23, bL, rP, rM, r7, r23, zs⟩ := w; kernel_rfl
 ·obtain ⟨p, q, r, imm, bP, bM, b7, b23, bL, rP, rM, r7, r23, zs⟩ := w; kernel_rfl
noncomputable abbrev L11 (w : Wd) (tk : Bool) (x y : Str) : Lo := L8 w tk 220 ++ [(S "kinds", .lst [.str x, .str y])]
noncomputable abbrev L12 (w : Wd) (tk : Bool) (x y : Str) (lt : Bool) : Lo := L11 w tk x y ++ [(S "is_let", .bool lt)]
noncomputable abbrev L13 (w : Wd) (tk : Bool) (x y : Str) (lt : Bool) : Lo := L12 w tk x y lt ++ [(S "differed", dueV (!w.bL) (rnum .top 0))]
noncomputable def in1B (x y : Str) : Bool := (inAV (.lst [.str x, .str y]) [.lst [.str (S "packet"), .str (S "packet_end")], .lst [.str (S "packet_end"), .str (S "packet_end")]]).getD false
noncomputable def in2B (x : Str) : Bool := (inAV (.str x) [.str (S "value"), .str (S "packet"), .str (S "room"), .str (S "stack")]).getD false
noncomputable abbrev DP4a (w : Wd) : Prop := (w.p.k == S "packet") = false ∧ True
theorem ds4a (w : Wd) (h : DP4a w) : Runs (exT (dRC w) (dRR w) (dRst 4) (L3 w) (A3 w)) ((.next, L4 w (w.p.k == S "packet")), A3 w) := by
 refine Runs.by [false] (DP4a w) ?_ ?_ h
 ·obtain ⟨p, q, r, imm, bP, bM, b7, b23, bL, rP, rM, r7, r23, zs⟩ := w; kernel_rfl
 ·obtain ⟨p, q, r, imm, bP, bM, b7, b23, bL, rP, rM, r7, r23, zs⟩ := w; kernel_rfl
noncomputable abbrev DP4b (w : Wd) : Prop := (w.p.k == S "packet") = true ∧ (w.q.k == S "scalar") = true ∧ True
theorem ds4b (w : Wd) (h : DP4b w) : Runs (exT (dRC w) (dRR w) (dRst 4) (L3 w) (A3 w)) ((.next, L4 w (!(w.q.s.w == 0))), A3 w) := by
 refine Runs.by [true, true] (DP4b w) ?_ ?_ h
 ·obtain ⟨p, q, r, imm, bP, bM, b7, b23, bL, rP, rM, r7, r23, zs⟩ := w; kernel_rfl
 ·obtain ⟨p, q, r, imm, bP, bM, b7, b23, bL, rP, rM, r7, r23, zs⟩ := w; kernel_rfl
noncomputable abbrev DP11a (w : Wd) (tk : Bool) : Prop := swapB w.p.k w.r.k = true ∧ True
theorem ds11a (w : Wd) (tk : Bool) (h : DP11a w tk) : Runs (exT (dRC w) (dRR w) (dRst 11) (L8 w tk 220) (A37 w)) ((.next, L11 w tk w.r.k w.p.k), A37 w) := by
 refine Runs.by [true] (DP11a w tk) ?_ ?_ h
 ·obtain ⟨p, q, r, imm, bP, bM, b7, b23, bL, rP, rM, r7, r23, zs⟩ := w; kernel_rfl
 ·obtain ⟨p, q, r, imm, bP, bM, b7, b23, bL, rP, rM, r7, r23, zs⟩ := w; kernel_rfl
noncomputable abbrev DP11b (w : Wd) (tk : Bool) : Prop := swapB w.p.k w.r.k = false ∧ True
theorem ds11b (w : Wd) (tk : Bool) (h : DP11b w tk) : Runs (exT (dRC w) (dRR w) (dRst 11) (L8 w tk 220) (A37 w)) ((.next, L11 w tk w.p.k w.r.k), A37 w) := by
 refine Runs.by [false] (DP11b w tk) ?_ ?_ h
 ·obtain ⟨p, q, r, imm, bP, bM, b7, b23, bL, rP, rM, r7, r23, zs⟩ := w; kernel_rfl
 ·obtain ⟨p, q, r, imm, bP, bM, b7, b23, bL, rP, rM, r7, r23, zs⟩ := w; kernel_rfl
noncomputable abbrev DP12a (w : Wd) (tk : Bool) (x y : Str) : Prop := in1B x y = true ∧ True
theorem ds12a (w : Wd) (tk : Bool) (x y : Str) (h : DP12a w tk x y) : Runs (exT (dRC w) (dRR w) (dRst 12) (L11 w tk x y) (A37 w)) ((.next, L12 w tk x y (in1B x y)), A37 w) := by
 refine Runs.by [true] (DP12a w tk x y) ?_ ?_ h
 ·obtain ⟨p, q, r, imm, bP, bM, b7, b23, bL, rP, rM, r7, r23, zs⟩ := w; kernel_rfl
 ·obtain ⟨p, q, r, imm, bP, bM, b7, b23, bL, rP, rM, r7, r23, zs⟩ := w; kernel_rfl
noncomputable abbrev DP12b (w : Wd) (tk : Bool) (x y : Str) : Prop := in1B x y = false ∧ (x == y) = false ∧ True
theorem ds12b (w : Wd) (tk : Bool) (x y : Str) (h : DP12b w tk x y) : Runs (exT (dRC w) (dRR w) (dRst 12) (L11 w tk x y) (A37 w)) ((.next, L12 w tk x y (x == y)), A37 w) := by
 refine Runs.by [false, false] (DP12b w tk x y) ?_ ?_ h
 ·obtain ⟨p, q, r, imm, bP, bM, b7, b23, bL, rP, rM, r7, r23, zs⟩ := w; kernel_rfl
 ·obtain ⟨p, q, r, imm, bP, bM, b7, b23, bL, rP, rM, r7, r23, zs⟩ := w; kernel_rfl
noncomputable abbrev DP12c (w : Wd) (tk : Bool) (x y : Str) : Prop := in1B x y = false ∧ (x == y) = true ∧ True
theorem ds12c (w : Wd) (tk : Bool) (x y : Str) (h : DP12c w tk x y) : Runs (exT (dRC w) (dRR w) (dRst 12) (L11 w tk x y) (A37 w)) ((.next, L12 w tk x y (in2B x)), A37 w) := by
 refine Runs.by [false, true] (DP12c w tk x y) ?_ ?_ h
 ·obtain ⟨p, q, r, imm, bP, bM, b7, b23, bL, rP, rM, r7, r23, zs⟩ := w; kernel_rfl
 ·obtain ⟨p, q, r, imm, bP, bM, b7, b23, bL, rP, rM, r7, r23, zs⟩ := w; kernel_rfl
noncomputable abbrev DP13 (w : Wd) (tk : Bool) (x y : Str) (lt : Bool) : Prop := DJ 38 [.int 31] (A38 w) (dueV (!w.bL) (rnum .top 0)) (A39 w) ∧ True
theorem ds13 (w : Wd) (tk : Bool) (x y : Str) (lt : Bool) (h : DP13 w tk x y lt) : Runs (exT (dRC w) (dRR w) (dRst 13) (L12 w tk x y lt) (A37 w)) ((.next, L13 w tk x y lt), A39 w) := by
 refine Runs.by [] (DP13 w tk x y lt) ?_ ?_ h
 ·obtain ⟨p, q, r, imm, bP, bM, b7, b23, bL, rP, rM, r7, r23, zs⟩ := w; kernel_rfl
 ·obtain ⟨p, q, r, imm, bP, bM, b7, b23, bL, rP, rM, r7, r23, zs⟩ := w; kernel_rfl
noncomputable abbrev DP14 (w : Wd) (tk : Bool) (x y : Str) (lt : Bool) : Prop := lt = w.bL ∧ neB (!w.bL) (rnum .top 0) = false ∧ True
theorem ds14 (w : Wd) (tk : Bool) (x y : Str) (lt : Bool) (h : DP14 w tk x y lt) : Runs (exT (dRC w) (dRR w) (dRst 14) (L13 w tk x y lt) (A39 w)) ((.next, L13 w tk x y lt), A39 w) := by
 refine Runs.by [w.bL, false] (DP14 w tk x y lt) ?_ ?_ h
 ·obtain ⟨p, q, r, imm, bP, bM, b7, b23, bL, rP, rM, r7, r23, zs⟩ := w; cases bL <;> kernel_rfl
 ·obtain ⟨p, q, r, imm, bP, bM, b7, b23, bL, rP, rM, r7, r23, zs⟩ := w; cases bL <;> kernel_rfl
noncomputable abbrev DP15 (w : Wd) (tk : Bool) (x y : Str) (lt : Bool) : Prop := DJ 40 [.int 15] (A40 w) (.int 9) (A41 w) ∧ true = true ∧ DJ 42 [.int 191, .int 8] (A42 w) (.int 9) (A43 w) ∧ True
theorem ds15 (w : Wd) (tk : Bool) (x y : Str) (lt : Bool) (h : DP15 w tk x y lt) : Runs (exT (dRC w) (dRR w) (dRst 15) (L13 w tk x y lt) (A39 w)) ((.ret (.bool true), L13 w tk x y lt), A43 w) := by
 refine Runs.by [true] (DP15 w tk x y lt) ?_ ?_ h
 ·obtain ⟨p, q, r, imm, bP, bM, b7, b23, bL, rP, rM, r7, r23, zs⟩ := w; kernel_rfl
 ·obtain ⟨p, q, r, imm, bP, bM, b7, b23, bL, rP, rM, r7, r23, zs⟩ := w; kernel_rfl
theorem dR_body : fdBody d_law_deeds_right.st = [dRst 0, dRst 1, dRst 2, dRst 3, dRst 4, dRst 5, dRst 6, dRst 7, dRst 8, dRst 9, dRst 10, dRst 11, dRst 12, dRst 13, dRst 14, dRst 15] := by kernel_rfl
structure DAll (w : Wd) : Prop where
 h1 : addB w.p w.q false = w.bP
 h2 : addB w.p w.q true = w.bM
 h3 : addR w.p w.q false 40 = w.rP
 h4 : addR w.p w.q true 40 = w.rM
 o1 : addOK w.p w.q false
 o2 : addOK w.p w.q true
 d3 : DP3 w
 sc : (w.q.k == S "scalar") = true
 d5 : ∀ tk : Bool, (tk = if w.p.k == S "packet" then !(w.q.s.w == 0) else false) → DP5 w tk tk
 d6 : ∀ tk, DP6 w tk
 r7e : w.r7 = addR w.p (certR w) false 40
 r23e : w.r23 = addR w.p (certR w) true 40
 d8 : ∀ tk, DP8 w tk
 d9 : ∀ tk, DP9 w tk
 d10 : ∀ tk, DP10 w tk
 lt : ∀ x y : Str, (x = w.r.k ∧ y = w.p.k ∧ swapB w.p.k w.r.k = true ∨ x = w.p.k ∧ y = w.r.k ∧ swapB w.p.k w.r.k = false) → (in1B x y || ((x == y) && in2B x)) = w.bL
 d13 : ∀ tk x y lt, DP13 w tk x y lt
 d15 : ∀ tk x y lt, DP15 w tk x y lt
theorem DAll.tail {w : Wd} (h : DAll w) (tk : Bool) (x y : Str) (lt : Bool) (e : lt = w.bL) :
  Runs (exsT (dRC w) (dRR w) [dRst 13, dRst 14, dRst 15] (L12 w tk x y lt) (A37 w)) ((.ret (.bool true), L13 w tk x y lt), A43 w) :=
 (ds13 w tk x y lt (h.d13 tk x y lt)).cons ((ds14 w tk x y lt ⟨e, ne_same _ _, trivial⟩).cons (ds15 w tk x y lt (h.d15 tk x y lt)).ret)
theorem DAll.tail12 {w : Wd} (h : DAll w) (tk : Bool) (x y : Str) (e : (in1B x y || ((x == y) && in2B x)) = w.bL) :
  ∃ lt, Runs (exsT (dRC w) (dRR w) [dRst 12, dRst 13, dRst 14, dRst 15] (L11 w tk x y) (A37 w)) ((.ret (.bool true), L13 w tk x y lt), A43 w) := by
 cases h1 : in1B x y with
 | true => exact ⟨_, (ds12a w tk x y ⟨h1, trivial⟩).cons (h.tail tk x y _ (by rw [h1] at e; rw [h1]; exact e))⟩
 | false =>
  cases h2 : (x == y) with
  | false => exact ⟨_, (ds12b w tk x y ⟨h1, h2, trivial⟩).cons (h.tail tk x y _ (by rw [h1, h2] at e; rw [h2]; exact e))⟩
  | true => exact ⟨_, (ds12c w tk x y ⟨h1, h2, trivial⟩).cons (h.tail tk x y _ (by rw [h1, h2] at e; exact e))⟩
theorem DAll.tail11 {w : Wd} (h : DAll w) (tk : Bool) :
  ∃ lo, Runs (exsT (dRC w) (dRR w) [dRst 11, dRst 12, dRst 13, dRst 14, dRst 15] (L8 w tk 220) (A37 w)) ((.ret (.bool true), lo), A43 w) := by
 cases h1 : swapB w.p.k w.r.k with
 | true =>
  obtain ⟨lt, q⟩ := h.tail12 tk _ _ (h.lt w.r.k w.p.k (.inl ⟨rfl, rfl, h1⟩))
  exact ⟨_, (ds11a w tk ⟨h1, trivial⟩).cons q⟩
 | false =>
  obtain ⟨lt, q⟩ := h.tail12 tk _ _ (h.lt w.p.k w.r.k (.inr ⟨rfl, rfl, h1⟩))
  exact ⟨_, (ds11b w tk ⟨h1, trivial⟩).cons q⟩
theorem DAll.tail5 {w : Wd} (h : DAll w) (tk : Bool) (e : tk = if w.p.k == S "packet" then !(w.q.s.w == 0) else false) :
  ∃ lo, Runs (exsT (dRC w) (dRR w) [dRst 5, dRst 6, dRst 7, dRst 8, dRst 9, dRst 10, dRst 11, dRst 12, dRst 13, dRst 14, dRst 15] (L4 w tk) (A3 w)) ((.ret (.bool true), lo), A43 w) := by
 obtain ⟨lo, q⟩ := h.tail11 tk
 exact ⟨lo, (ds5 w tk tk (h.d5 tk e)).cons ((ds6 w tk (h.d6 tk)).cons ((ds7 w tk trivial).cons ((ds8 w tk (h.d8 tk) h.r7e h.r23e).cons ((ds9 w tk (h.d9 tk)).cons ((ds10 w tk (h.d10 tk)).cons q)))))⟩
theorem DAll.runs {w : Wd} (h : DAll w) : ∃ lo, Runs (exsT (dRC w) (dRR w) (fdBody d_law_deeds_right.st) (L0 w) []) ((.ret (.bool true), lo), A43 w) := by
 rw [dR_body]
 have d1 : DP1 w := ⟨by omega, rfl, rfl, trivial⟩
 cases h1 : (w.p.k == S "packet") with
 | true =>
  obtain ⟨lo, q⟩ := h.tail5 (!(w.q.s.w == 0)) (by rw [h1]; rfl)
  exact ⟨lo, (st0 w h.h1 h.h2 h.h3 h.h4 h.o1 h.o2).cons ((ds1 w d1).cons ((ds2 w trivial).cons ((ds3 w h.d3).cons ((ds4b w ⟨h1, h.sc, trivial⟩).cons q))))⟩
 | false =>
  obtain ⟨lo, q⟩ := h.tail5 (w.p.k == S "packet") (by rw [h1]; rfl)
  exact ⟨lo, (st0 w h.h1 h.h2 h.h3 h.h4 h.o1 h.o2).cons ((ds1 w d1).cons ((ds2 w trivial).cons ((ds3 w h.d3).cons ((ds4a w ⟨h1, trivial⟩).cons q))))⟩
theorem DAll.body {w : Wd} (h : DAll w) : Runs (bodyT (cfg (dRFs w) []) 19 d_law_deeds_right.st (L0 w) []) (.bool true, A43 w) := by
 obtain ⟨lo, q⟩ := h.runs
 exact Runs.body q
theorem newM_len (p q : Rg) (m : Mem) {h : Nat} (e : m.length = h) : (newM p q m).length = h + 2 := by subst e; unfold newM; simp
theorem donM_len (w : Wd) (k : Nat) (m : Mem) {h : Nat} (e : m.length = h) : (donM w k m).length = h := by unfold donM Stt.at_; simp [e]
theorem newM_0 {p q : Rg} {m : Mem} {h : Nat} (e : m.length = h) : (newM p q m)[h]? = some (.lst (stL p q).xs) := by
 subst e; unfold newM; simp
theorem newM_1 {p q : Rg} {m : Mem} {h : Nat} (e : m.length = h) : (newM p q m)[h + 1]? = some (.inst 900 ((stL p q).fs h)) := by
 subst e; unfold newM
 rw [List.getElem?_append_right (by omega), Nat.add_sub_cancel_left]; rfl
theorem sttOf_st (z : Stt) (h : Nat) : sttOf (.lst z.xs) (.inst 900 (z.fs h)) = some z := by kernel_rfl
theorem DJ_new {h : Nat} {p q : Rg} {m0 : Mem} (hl : m0.length = h) {rest : List AV} {v : AV} {z' : Stt} {P : Prop} (hg : giveOf rest (stL p q) = some (P, v, z')) (hP : P) :
  DJ h rest (newM p q m0) v (z'.at_ h (newM p q m0)) :=
 DJ.mk' (z := stL p q) (by unfold stAt; rw [newM_0 hl, newM_1 hl]; exact sttOf_st _ h) ⟨newM_0 hl, newM_1 hl⟩ hg hP
noncomputable def zsOf (p q r : Rg) (imm : Int) : Nat → Stt
 | 0 => tailM p q false (stL p q)
 | 2 => tailM q p false (stL q p)
 | 4 => tailM p q true (stL p q)
 | 6 => tailM q p true (stL q p)
 | 8 => tailM p (immR imm) false (stL p rnone)
 | 10 => tailM p (immR imm) true (stL p rnone)
 | 12 => stL rnone p
 | 14 => tailM rnone p false (stL rnone p)
 | 38 => tailM p r true (stL p r)
 | 40 => tailM p r false (stL p r)
 | _ => stL p p
noncomputable def wOf (p q r : Rg) (imm : Int) : Wd := ⟨p, q, r, imm, addB p q false, addB p q true, addB p (rnum (.const imm) 0) false, addB p (rnum (.const imm) 0) true, diffB p r, addR p q false 40, addR p q true 40, addR p (rnum (.const imm) 0) false 40, addR p (rnum (.const imm) 0) true 40, zsOf p q r imm⟩
theorem A0_len (w : Wd) : (A0 w).length = 2 := newM_len _ _ _ rfl
theorem A1_len (w : Wd) : (A1 w).length = 2 := donM_len _ _ _ (A0_len w)
theorem A2_len (w : Wd) : (A2 w).length = 4 := newM_len _ _ _ (A1_len w)
theorem A3_len (w : Wd) : (A3 w).length = 4 := donM_len _ _ _ (A2_len w)
theorem A4_len (w : Wd) : (A4 w).length = 6 := newM_len _ _ _ (A3_len w)
theorem A5_len (w : Wd) : (A5 w).length = 6 := donM_len _ _ _ (A4_len w)
theorem A6_len (w : Wd) : (A6 w).length = 8 := newM_len _ _ _ (A5_len w)
theorem A7_len (w : Wd) : (A7 w).length = 8 := donM_len _ _ _ (A6_len w)
theorem A8_len (w : Wd) : (A8 w).length = 10 := newM_len _ _ _ (A7_len w)
theorem A9_len (w : Wd) : (A9 w).length = 10 := donM_len _ _ _ (A8_len w)
theorem A10_len (w : Wd) : (A10 w).length = 12 := newM_len _ _ _ (A9_len w)
theorem A11_len (w : Wd) : (A11 w).length = 12 := donM_len _ _ _ (A10_len w)
theorem A12_len (w : Wd) : (A12 w).length = 14 := newM_len _ _ _ (A11_len w)
theorem A13_len (w : Wd) : (A13 w).length = 14 := donM_len _ _ _ (A12_len w)
theorem A14_len (w : Wd) : (A14 w).length = 16 := newM_len _ _ _ (A13_len w)
theorem A15_len (w : Wd) : (A15 w).length = 16 := donM_len _ _ _ (A14_len w)
theorem A16_len (w : Wd) : (A16 w).length = 18 := newM_len _ _ _ (A15_len w)
theorem A17_len (w : Wd) : (A17 w).length = 18 := donM_len _ _ _ (A16_len w)
theorem A18_len (w : Wd) : (A18 w).length = 20 := newM_len _ _ _ (A17_len w)
theorem A19_len (w : Wd) : (A19 w).length = 20 := donM_len _ _ _ (A18_len w)
theorem A20_len (w : Wd) : (A20 w).length = 22 := newM_len _ _ _ (A19_len w)
theorem A21_len (w : Wd) : (A21 w).length = 22 := donM_len _ _ _ (A20_len w)
theorem A22_len (w : Wd) : (A22 w).length = 24 := newM_len _ _ _ (A21_len w)
theorem A23_len (w : Wd) : (A23 w).length = 24 := donM_len _ _ _ (A22_len w)
theorem A24_len (w : Wd) : (A24 w).length = 26 := newM_len _ _ _ (A23_len w)
theorem A25_len (w : Wd) : (A25 w).length = 26 := donM_len _ _ _ (A24_len w)
theorem A26_len (w : Wd) : (A26 w).length = 28 := newM_len _ _ _ (A25_len w)
theorem A27_len (w : Wd) : (A27 w).length = 28 := donM_len _ _ _ (A26_len w)
theorem A28_len (w : Wd) : (A28 w).length = 30 := newM_len _ _ _ (A27_len w)
theorem A29_len (w : Wd) : (A29 w).length = 30 := donM_len _ _ _ (A28_len w)
theorem A30_len (w : Wd) : (A30 w).length = 32 := newM_len _ _ _ (A29_len w)
theorem A31_len (w : Wd) : (A31 w).length = 32 := donM_len _ _ _ (A30_len w)
theorem A32_len (w : Wd) : (A32 w).length = 34 := newM_len _ _ _ (A31_len w)
theorem A33_len (w : Wd) : (A33 w).length = 34 := donM_len _ _ _ (A32_len w)
theorem A34_len (w : Wd) : (A34 w).length = 36 := newM_len _ _ _ (A33_len w)
theorem A35_len (w : Wd) : (A35 w).length = 36 := donM_len _ _ _ (A34_len w)
theorem A36_len (w : Wd) : (A36 w).length = 38 := newM_len _ _ _ (A35_len w)
theorem A37_len (w : Wd) : (A37 w).length = 38 := donM_len _ _ _ (A36_len w)
theorem A38_len (w : Wd) : (A38 w).length = 40 := newM_len _ _ _ (A37_len w)
theorem A39_len (w : Wd) : (A39 w).length = 40 := donM_len _ _ _ (A38_len w)
theorem A40_len (w : Wd) : (A40 w).length = 42 := newM_len _ _ _ (A39_len w)
theorem A41_len (w : Wd) : (A41 w).length = 42 := donM_len _ _ _ (A40_len w)
theorem A42_len (w : Wd) : (A42 w).length = 44 := newM_len _ _ _ (A41_len w)
theorem A43_len (w : Wd) : (A43 w).length = 44 := donM_len _ _ _ (A42_len w)
noncomputable def kinds9 : List Str := [S "value", S "packet", S "room", S "stack", S "context", S "map", S "packet_end", S "value_or_null", S "room_or_null"]
theorem kind_ptr {p : Rg} (h : p.k ∈ kinds9) : ptrB p = true ∧ (p.k == S "none") = false ∧ (p.k == S "scalar") = false := by
 obtain ⟨k, o, s, nu, mn, re, ro, fr⟩ := p
 dsimp only at h
 simp only [kinds9, List.mem_cons, List.not_mem_nil, or_false] at h
 rcases h with h | h | h | h | h | h | h | h | h <;> subst h <;> exact ⟨by kernel_rfl, by kernel_rfl, by kernel_rfl⟩
theorem num_ptr (s : Sc) : ptrB (rnum s 0) = false ∧ ((rnum s 0).k == S "none") = false ∧ ((rnum s 0).k == S "scalar") = true ∧ movB (rnum s 0).k = false := ⟨by kernel_rfl, by kernel_rfl, by kernel_rfl, by kernel_rfl⟩
theorem none_ptr : (rnone.k == S "none") = true ∧ movB rnone.k = false ∧ (rnone.k == S "scalar") = false := ⟨by kernel_rfl, by kernel_rfl, by kernel_rfl⟩
theorem tail_num {p : Rg} {s : Sc} (h : p.k ∈ kinds9) (t : Bool) (z : Stt) : tailV p (rnum s 0) t z = mvV p (rnum s 0) t z ∧ tailM p (rnum s 0) t z = mvZ p (rnum s 0) z := by
 obtain ⟨a, b, d⟩ := kind_ptr h
 obtain ⟨a', b', d', e'⟩ := num_ptr s
 unfold tailV tailM sumV sumM
 rw [b', b, a, a']; exact ⟨rfl, rfl⟩
theorem tail_num' {p : Rg} {s : Sc} (h : p.k ∈ kinds9) (z : Stt) : tailV (rnum s 0) p false z = mvV p (rnum s 0) false z ∧ tailV (rnum s 0) p true z = .int 9 := by
 obtain ⟨a, b, d⟩ := kind_ptr h
 obtain ⟨a', b', d', e'⟩ := num_ptr s
 unfold tailV sumV
 rw [b', b, a, a']; exact ⟨rfl, rfl⟩
theorem mv_due {p q : Rg} {t : Bool} {z : Stt} (h : z.nn = 40) (hq : (q.k == S "scalar") = true) : mvV p q t z = dueV (addB p q t) (addR p q t 40) := by
 unfold mvV dueV
 cases h1 : needsB p q with
 | true => rw [h]; rfl
 | false =>
  have e : addR p q t 0 = addR p q t 40 := by
   unfold addR vR
   unfold needsB at h1
   rw [hq] at h1 ⊢
   cases h2 : (q.s.w == 0) with
   | true => rfl
   | false =>
    rw [h2] at h1
    have h3 : (p.k == S "packet") = false := by simpa using h1
    rw [h3]; rfl
  show (if addB p q t = true then AV.int 9 else (addR p q t 0).told) = _
  rw [e]
theorem nn_takes {p : Rg} {s : Sc} : (!((mvZ p (rnum s 0) (stL p (rnum s 0))).nn == (if (if p.k == S "packet" then !((rnum s 0).s.w == 0) else false) then 41 else 40))) = false := by
 unfold mvZ needsB
 rw [(num_ptr s).2.2.1]
 cases h1 : (p.k == S "packet") <;> cases h2 : ((rnum s 0).s.w == 0) <;> rfl
theorem sOK_of {p q : Rg} {t : Bool} (h : addOK p q t) (hq : movB q.k = false) : sOK p q t := ⟨h, fun x => by rw [hq] at x; cases x⟩
theorem addOK_off {p q : Rg} {t : Bool} (hp : movB p.k = false) : addOK p q t := fun x => by rw [hp] at x; cases x
theorem addOK_no {p q : Rg} {t : Bool} (hq : (q.k == S "scalar") = false) : addOK p q t := fun _ x => by rw [hq] at x; cases x
noncomputable def letB (a b : Str) : Bool := in1B a b || ((a == b) && in2B a)
noncomputable def difB (a b : Str) : Bool := (pktB a && pktB b) || ((a == b) && movB a)
theorem let_all : (kinds9.all fun a => kinds9.all fun b => (bif swapB a b then letB b a else letB a b) == difB a b) = true := by kernel_rfl
theorem let_dif {a b : Str} (ha : a ∈ kinds9) (hb : b ∈ kinds9) : (bif swapB a b then letB b a else letB a b) = difB a b := by
 have := let_all
 rw [List.all_eq_true] at this
 have := this a ha
 rw [List.all_eq_true] at this
 exact eq_of_beq (this b hb)
theorem tail_ptr {p r : Rg} (h : p.k ∈ kinds9) (hr : r.k ∈ kinds9) (z : Stt) : tailV p r true z = dueV (!(diffB p r)) (rnum .top 0) ∧ tailV p r false z = .int 9 := by
 obtain ⟨a, b, d⟩ := kind_ptr h
 obtain ⟨a', b', d'⟩ := kind_ptr hr
 unfold tailV sumV
 rw [b', b, a, a']
 cases diffB p r <;> exact ⟨rfl, rfl⟩
theorem tail_none {p : Rg} (h : p.k ∈ kinds9) (z : Stt) : tailV rnone p false z = .int 9 := by
 obtain ⟨a, b, d⟩ := kind_ptr h
 unfold tailV
 rw [b, none_ptr.1]; rfl
theorem wrap_const (imm : Int) : Sc.const (wrapZ 64 imm) = Sc.const imm := by
 have e : wrapZ 64 (wrapZ 64 imm) = wrapZ 64 imm := by rw [wrap64_num, wrap64_num]; simp_all
 have e2 : wrapZ 32 (wrapZ 64 imm) = wrapZ 32 imm := by rw [wrap64_num, wrap32_num, wrap32_num]; simp_all
 unfold Sc.const; rw [e, e2]
theorem imm_cert (imm : Int) : immR imm = rnum (.const imm) 0 := by
 show rnum (.const (wrapZ 64 imm)) 0 = _
 rw [wrap_const]
theorem DJ.val {h : Nat} {rest : List AV} {m m' : Mem} {v v' : AV} (d : DJ h rest m v m') (e : v = v') : DJ h rest m v' m' := e ▸ d
section
variable {p r : Rg} {s : Sc} {imm : Int}
noncomputable abbrev W0 (p : Rg) (s : Sc) (r : Rg) (imm : Int) : Wd := wOf p (rnum s 0) r imm
structure DArg (p : Rg) (s : Sc) (r : Rg) (imm : Int) : Prop where
 kp : p.k ∈ kinds9
 kr : r.k ∈ kinds9
 o1 : addOK p (rnum s 0) false
 o2 : addOK p (rnum s 0) true
 o3 : addOK p (rnum (.const imm) 0) false
 o4 : addOK p (rnum (.const imm) 0) true
theorem num_off {p : Rg} {t : Bool} : addOK (rnum s 0) p t := addOK_off (num_ptr s).2.2.2
theorem none_off {p : Rg} {t : Bool} : addOK rnone p t := addOK_off none_ptr.2.1
theorem dj0 (D : DArg p s r imm) : DJ 0 [.int 15] (A0 (W0 p s r imm)) (dueV (W0 p s r imm).bP (W0 p s r imm).rP) (A1 (W0 p s r imm)) := by
 have e0 : A0 (W0 p s r imm) = newM p (rnum s 0) [] := by kernel_rfl
 have e1 : A1 (W0 p s r imm) = Stt.at_ (tailM p (rnum s 0) false (stL p (rnum s 0))) 0 (newM p (rnum s 0) []) := by kernel_rfl
 have g : giveOf [.int 15] (stL p (rnum s 0)) = some (sOK p (rnum s 0) false, tailV p (rnum s 0) false (stL p (rnum s 0)), tailM p (rnum s 0) false (stL p (rnum s 0))) := by kernel_rfl
 have hp : sOK p (rnum s 0) false := ⟨D.o1, num_off⟩
 have ev : tailV p (rnum s 0) false (stL p (rnum s 0)) = (dueV (W0 p s r imm).bP (W0 p s r imm).rP) := (tail_num D.kp _ _).1.trans (mv_due rfl (num_ptr s).2.2.1)
 have hl : List.length (α := MO) [] = 0 := rfl
 rw [e0, e1, ← ev]
 exact DJ_new hl g hp
theorem dj2 (D : DArg p s r imm) : DJ 2 [.int 15] (A2 (W0 p s r imm)) (dueV (W0 p s r imm).bP (W0 p s r imm).rP) (A3 (W0 p s r imm)) := by
 have e0 : A2 (W0 p s r imm) = newM (rnum s 0) p (A1 (W0 p s r imm)) := by kernel_rfl
 have e1 : A3 (W0 p s r imm) = Stt.at_ (tailM (rnum s 0) p false (stL (rnum s 0) p)) 2 (newM (rnum s 0) p (A1 (W0 p s r imm))) := by kernel_rfl
 have g : giveOf [.int 15] (stL (rnum s 0) p) = some (sOK (rnum s 0) p false, tailV (rnum s 0) p false (stL (rnum s 0) p), tailM (rnum s 0) p false (stL (rnum s 0) p)) := by kernel_rfl
 have hp : sOK (rnum s 0) p false := ⟨num_off, D.o1⟩
 have ev : tailV (rnum s 0) p false (stL (rnum s 0) p) = (dueV (W0 p s r imm).bP (W0 p s r imm).rP) := (tail_num' D.kp _).1.trans (mv_due rfl (num_ptr s).2.2.1)
 have hl : List.length (α := MO) (A1 (W0 p s r imm)) = 2 := (A1_len _)
 generalize A1 (W0 p s r imm) = m0 at hl e0 e1
 generalize A2 (W0 p s r imm) = m1 at e0 ⊢
 generalize A3 (W0 p s r imm) = m2 at e1 ⊢
 rw [e0, e1, ← ev]
 exact DJ_new hl g hp
theorem dj4 (D : DArg p s r imm) : DJ 4 [.int 31] (A4 (W0 p s r imm)) (dueV (W0 p s r imm).bM (W0 p s r imm).rM) (A5 (W0 p s r imm)) := by
 have e0 : A4 (W0 p s r imm) = newM p (rnum s 0) (A3 (W0 p s r imm)) := by kernel_rfl
 have e1 : A5 (W0 p s r imm) = Stt.at_ (tailM p (rnum s 0) true (stL p (rnum s 0))) 4 (newM p (rnum s 0) (A3 (W0 p s r imm))) := by kernel_rfl
 have g : giveOf [.int 31] (stL p (rnum s 0)) = some (sOK p (rnum s 0) true, tailV p (rnum s 0) true (stL p (rnum s 0)), tailM p (rnum s 0) true (stL p (rnum s 0))) := by kernel_rfl
 have hp : sOK p (rnum s 0) true := ⟨D.o2, num_off⟩
 have ev : tailV p (rnum s 0) true (stL p (rnum s 0)) = (dueV (W0 p s r imm).bM (W0 p s r imm).rM) := (tail_num D.kp _ _).1.trans (mv_due rfl (num_ptr s).2.2.1)
 have hl : List.length (α := MO) (A3 (W0 p s r imm)) = 4 := (A3_len _)
 generalize A3 (W0 p s r imm) = m0 at hl e0 e1
 generalize A4 (W0 p s r imm) = m1 at e0 ⊢
 generalize A5 (W0 p s r imm) = m2 at e1 ⊢
 rw [e0, e1, ← ev]
 exact DJ_new hl g hp
theorem dj6 (D : DArg p s r imm) : DJ 6 [.int 31] (A6 (W0 p s r imm)) (.int 9) (A7 (W0 p s r imm)) := by
 have e0 : A6 (W0 p s r imm) = newM (rnum s 0) p (A5 (W0 p s r imm)) := by kernel_rfl
 have e1 : A7 (W0 p s r imm) = Stt.at_ (tailM (rnum s 0) p true (stL (rnum s 0) p)) 6 (newM (rnum s 0) p (A5 (W0 p s r imm))) := by kernel_rfl
 have g : giveOf [.int 31] (stL (rnum s 0) p) = some (sOK (rnum s 0) p true, tailV (rnum s 0) p true (stL (rnum s 0) p), tailM (rnum s 0) p true (stL (rnum s 0) p)) := by kernel_rfl
 have hp : sOK (rnum s 0) p true := ⟨num_off, D.o1⟩
 have ev : tailV (rnum s 0) p true (stL (rnum s 0) p) = (.int 9) := (tail_num' D.kp _).2
 have hl : List.length (α := MO) (A5 (W0 p s r imm)) = 6 := (A5_len _)
 generalize A5 (W0 p s r imm) = m0 at hl e0 e1
 generalize A6 (W0 p s r imm) = m1 at e0 ⊢
 generalize A7 (W0 p s r imm) = m2 at e1 ⊢
 rw [e0, e1, ← ev]
 exact DJ_new hl g hp
theorem dj8 (D : DArg p s r imm) : DJ 8 [.int 7, .int 0, .int imm] (A8 (W0 p s r imm)) (dueV (W0 p s r imm).b7 (W0 p s r imm).r7) (A9 (W0 p s r imm)) := by
 have e0 : A8 (W0 p s r imm) = newM p rnone (A7 (W0 p s r imm)) := by kernel_rfl
 have e1 : A9 (W0 p s r imm) = Stt.at_ (tailM p (immR imm) false (stL p rnone)) 8 (newM p rnone (A7 (W0 p s r imm))) := by kernel_rfl
 have g : giveOf [.int 7, .int 0, .int imm] (stL p rnone) = some (sOK p (immR imm) false, tailV p (immR imm) false (stL p rnone), tailM p (immR imm) false (stL p rnone)) := by kernel_rfl
 have hp : sOK p (immR imm) false := ⟨by rw [imm_cert]; exact D.o3, addOK_off (num_ptr _).2.2.2⟩
 have ev : tailV p (immR imm) false (stL p rnone) = (dueV (W0 p s r imm).b7 (W0 p s r imm).r7) := by rw [imm_cert]; exact (tail_num D.kp _ _).1.trans (mv_due rfl (num_ptr _).2.2.1)
 have hl : List.length (α := MO) (A7 (W0 p s r imm)) = 8 := (A7_len _)
 generalize A7 (W0 p s r imm) = m0 at hl e0 e1
 generalize A8 (W0 p s r imm) = m1 at e0 ⊢
 generalize A9 (W0 p s r imm) = m2 at e1 ⊢
 rw [e0, e1, ← ev]
 exact DJ_new hl g hp
theorem dj10 (D : DArg p s r imm) : DJ 10 [.int 23, .int 0, .int imm] (A10 (W0 p s r imm)) (dueV (W0 p s r imm).b23 (W0 p s r imm).r23) (A11 (W0 p s r imm)) := by
 have e0 : A10 (W0 p s r imm) = newM p rnone (A9 (W0 p s r imm)) := by kernel_rfl
 have e1 : A11 (W0 p s r imm) = Stt.at_ (tailM p (immR imm) true (stL p rnone)) 10 (newM p rnone (A9 (W0 p s r imm))) := by kernel_rfl
 have g : giveOf [.int 23, .int 0, .int imm] (stL p rnone) = some (sOK p (immR imm) true, tailV p (immR imm) true (stL p rnone), tailM p (immR imm) true (stL p rnone)) := by kernel_rfl
 have hp : sOK p (immR imm) true := ⟨by rw [imm_cert]; exact D.o4, addOK_off (num_ptr _).2.2.2⟩
 have ev : tailV p (immR imm) true (stL p rnone) = (dueV (W0 p s r imm).b23 (W0 p s r imm).r23) := by rw [imm_cert]; exact (tail_num D.kp _ _).1.trans (mv_due rfl (num_ptr _).2.2.1)
 have hl : List.length (α := MO) (A9 (W0 p s r imm)) = 10 := (A9_len _)
 generalize A9 (W0 p s r imm) = m0 at hl e0 e1
 generalize A10 (W0 p s r imm) = m1 at e0 ⊢
 generalize A11 (W0 p s r imm) = m2 at e1 ⊢
 rw [e0, e1, ← ev]
 exact DJ_new hl g hp
theorem dj12 (D : DArg p s r imm) : DJ 12 [.int 191] (A12 (W0 p s r imm)) (W0 p s r imm).p.told (A13 (W0 p s r imm)) := by
 have e0 : A12 (W0 p s r imm) = newM rnone p (A11 (W0 p s r imm)) := by kernel_rfl
 have e1 : A13 (W0 p s r imm) = Stt.at_ (stL rnone p) 12 (newM rnone p (A11 (W0 p s r imm))) := by kernel_rfl
 have g : giveOf [.int 191] (stL rnone p) = some (True, (if p.k == S "none" then .int 9 else p.told), stL rnone p) := by kernel_rfl
 have hp : True := trivial
 have ev : (if p.k == S "none" then .int 9 else p.told) = (W0 p s r imm).p.told := by rw [(kind_ptr D.kp).2.1]; rfl
 have hl : List.length (α := MO) (A11 (W0 p s r imm)) = 12 := (A11_len _)
 generalize A11 (W0 p s r imm) = m0 at hl e0 e1
 generalize A12 (W0 p s r imm) = m1 at e0 ⊢
 generalize A13 (W0 p s r imm) = m2 at e1 ⊢
 rw [e0, e1, ← ev]
 exact DJ_new hl g hp
theorem dj14 (D : DArg p s r imm) : DJ 14 [.int 15] (A14 (W0 p s r imm)) (.int 9) (A15 (W0 p s r imm)) := by
 have e0 : A14 (W0 p s r imm) = newM rnone p (A13 (W0 p s r imm)) := by kernel_rfl
 have e1 : A15 (W0 p s r imm) = Stt.at_ (tailM rnone p false (stL rnone p)) 14 (newM rnone p (A13 (W0 p s r imm))) := by kernel_rfl
 have g : giveOf [.int 15] (stL rnone p) = some (sOK rnone p false, tailV rnone p false (stL rnone p), tailM rnone p false (stL rnone p)) := by kernel_rfl
 have hp : sOK rnone p false := ⟨none_off, addOK_no none_ptr.2.2⟩
 have ev : tailV rnone p false (stL rnone p) = (.int 9) := tail_none D.kp _
 have hl : List.length (α := MO) (A13 (W0 p s r imm)) = 14 := (A13_len _)
 generalize A13 (W0 p s r imm) = m0 at hl e0 e1
 generalize A14 (W0 p s r imm) = m1 at e0 ⊢
 generalize A15 (W0 p s r imm) = m2 at e1 ⊢
 rw [e0, e1, ← ev]
 exact DJ_new hl g hp
theorem dj16 (D : DArg p s r imm) : DJ 16 [.int 12] (A16 (W0 p s r imm)) (.int 9) (A17 (W0 p s r imm)) := by
 have e0 : A16 (W0 p s r imm) = newM p p (A15 (W0 p s r imm)) := by kernel_rfl
 have e1 : A17 (W0 p s r imm) = Stt.at_ (stL p p) 16 (newM p p (A15 (W0 p s r imm))) := by kernel_rfl
 have g : giveOf [.int 12] (stL p p) = some (True, AV.int 9, stL p p) := by kernel_rfl
 have hp : True := trivial
 have ev : AV.int 9 = (.int 9) := rfl
 have hl : List.length (α := MO) (A15 (W0 p s r imm)) = 16 := (A15_len _)
 generalize A15 (W0 p s r imm) = m0 at hl e0 e1
 generalize A16 (W0 p s r imm) = m1 at e0 ⊢
 generalize A17 (W0 p s r imm) = m2 at e1 ⊢
 rw [e0, e1, ← ev]
 exact DJ_new hl g hp
theorem dj18 (D : DArg p s r imm) : DJ 18 [.int 28] (A18 (W0 p s r imm)) (.int 9) (A19 (W0 p s r imm)) := by
 have e0 : A18 (W0 p s r imm) = newM p p (A17 (W0 p s r imm)) := by kernel_rfl
 have e1 : A19 (W0 p s r imm) = Stt.at_ (stL p p) 18 (newM p p (A17 (W0 p s r imm))) := by kernel_rfl
 have g : giveOf [.int 28] (stL p p) = some (True, AV.int 9, stL p p) := by kernel_rfl
 have hp : True := trivial
 have ev : AV.int 9 = (.int 9) := rfl
 have hl : List.length (α := MO) (A17 (W0 p s r imm)) = 18 := (A17_len _)
 generalize A17 (W0 p s r imm) = m0 at hl e0 e1
 generalize A18 (W0 p s r imm) = m1 at e0 ⊢
 generalize A19 (W0 p s r imm) = m2 at e1 ⊢
 rw [e0, e1, ← ev]
 exact DJ_new hl g hp
theorem dj20 (D : DArg p s r imm) : DJ 20 [.int 188] (A20 (W0 p s r imm)) (.int 9) (A21 (W0 p s r imm)) := by
 have e0 : A20 (W0 p s r imm) = newM p p (A19 (W0 p s r imm)) := by kernel_rfl
 have e1 : A21 (W0 p s r imm) = Stt.at_ (stL p p) 20 (newM p p (A19 (W0 p s r imm))) := by kernel_rfl
 have g : giveOf [.int 188] (stL p p) = some (True, AV.int 9, stL p p) := by kernel_rfl
 have hp : True := trivial
 have ev : AV.int 9 = (.int 9) := rfl
 have hl : List.length (α := MO) (A19 (W0 p s r imm)) = 20 := (A19_len _)
 generalize A19 (W0 p s r imm) = m0 at hl e0 e1
 generalize A20 (W0 p s r imm) = m1 at e0 ⊢
 generalize A21 (W0 p s r imm) = m2 at e1 ⊢
 rw [e0, e1, ← ev]
 exact DJ_new hl g hp
theorem dj22 (D : DArg p s r imm) : DJ 22 [.int 47] (A22 (W0 p s r imm)) (.int 9) (A23 (W0 p s r imm)) := by
 have e0 : A22 (W0 p s r imm) = newM p p (A21 (W0 p s r imm)) := by kernel_rfl
 have e1 : A23 (W0 p s r imm) = Stt.at_ (stL p p) 22 (newM p p (A21 (W0 p s r imm))) := by kernel_rfl
 have g : giveOf [.int 47] (stL p p) = some (True, AV.int 9, stL p p) := by kernel_rfl
 have hp : True := trivial
 have ev : AV.int 9 = (.int 9) := rfl
 have hl : List.length (α := MO) (A21 (W0 p s r imm)) = 22 := (A21_len _)
 generalize A21 (W0 p s r imm) = m0 at hl e0 e1
 generalize A22 (W0 p s r imm) = m1 at e0 ⊢
 generalize A23 (W0 p s r imm) = m2 at e1 ⊢
 rw [e0, e1, ← ev]
 exact DJ_new hl g hp
theorem dj24 (D : DArg p s r imm) : DJ 24 [.int 63] (A24 (W0 p s r imm)) (.int 9) (A25 (W0 p s r imm)) := by
 have e0 : A24 (W0 p s r imm) = newM p p (A23 (W0 p s r imm)) := by kernel_rfl
 have e1 : A25 (W0 p s r imm) = Stt.at_ (stL p p) 24 (newM p p (A23 (W0 p s r imm))) := by kernel_rfl
 have g : giveOf [.int 63] (stL p p) = some (True, AV.int 9, stL p p) := by kernel_rfl
 have hp : True := trivial
 have ev : AV.int 9 = (.int 9) := rfl
 have hl : List.length (α := MO) (A23 (W0 p s r imm)) = 24 := (A23_len _)
 generalize A23 (W0 p s r imm) = m0 at hl e0 e1
 generalize A24 (W0 p s r imm) = m1 at e0 ⊢
 generalize A25 (W0 p s r imm) = m2 at e1 ⊢
 rw [e0, e1, ← ev]
 exact DJ_new hl g hp
theorem dj26 (D : DArg p s r imm) : DJ 26 [.int 79] (A26 (W0 p s r imm)) (.int 9) (A27 (W0 p s r imm)) := by
 have e0 : A26 (W0 p s r imm) = newM p p (A25 (W0 p s r imm)) := by kernel_rfl
 have e1 : A27 (W0 p s r imm) = Stt.at_ (stL p p) 26 (newM p p (A25 (W0 p s r imm))) := by kernel_rfl
 have g : giveOf [.int 79] (stL p p) = some (True, AV.int 9, stL p p) := by kernel_rfl
 have hp : True := trivial
 have ev : AV.int 9 = (.int 9) := rfl
 have hl : List.length (α := MO) (A25 (W0 p s r imm)) = 26 := (A25_len _)
 generalize A25 (W0 p s r imm) = m0 at hl e0 e1
 generalize A26 (W0 p s r imm) = m1 at e0 ⊢
 generalize A27 (W0 p s r imm) = m2 at e1 ⊢
 rw [e0, e1, ← ev]
 exact DJ_new hl g hp
theorem dj28 (D : DArg p s r imm) : DJ 28 [.int 87] (A28 (W0 p s r imm)) (.int 9) (A29 (W0 p s r imm)) := by
 have e0 : A28 (W0 p s r imm) = newM p p (A27 (W0 p s r imm)) := by kernel_rfl
 have e1 : A29 (W0 p s r imm) = Stt.at_ (stL p p) 28 (newM p p (A27 (W0 p s r imm))) := by kernel_rfl
 have g : giveOf [.int 87] (stL p p) = some (True, AV.int 9, stL p p) := by kernel_rfl
 have hp : True := trivial
 have ev : AV.int 9 = (.int 9) := rfl
 have hl : List.length (α := MO) (A27 (W0 p s r imm)) = 28 := (A27_len _)
 generalize A27 (W0 p s r imm) = m0 at hl e0 e1
 generalize A28 (W0 p s r imm) = m1 at e0 ⊢
 generalize A29 (W0 p s r imm) = m2 at e1 ⊢
 rw [e0, e1, ← ev]
 exact DJ_new hl g hp
theorem dj30 (D : DArg p s r imm) : DJ 30 [.int 111] (A30 (W0 p s r imm)) (.int 9) (A31 (W0 p s r imm)) := by
 have e0 : A30 (W0 p s r imm) = newM p p (A29 (W0 p s r imm)) := by kernel_rfl
 have e1 : A31 (W0 p s r imm) = Stt.at_ (stL p p) 30 (newM p p (A29 (W0 p s r imm))) := by kernel_rfl
 have g : giveOf [.int 111] (stL p p) = some (True, AV.int 9, stL p p) := by kernel_rfl
 have hp : True := trivial
 have ev : AV.int 9 = (.int 9) := rfl
 have hl : List.length (α := MO) (A29 (W0 p s r imm)) = 30 := (A29_len _)
 generalize A29 (W0 p s r imm) = m0 at hl e0 e1
 generalize A30 (W0 p s r imm) = m1 at e0 ⊢
 generalize A31 (W0 p s r imm) = m2 at e1 ⊢
 rw [e0, e1, ← ev]
 exact DJ_new hl g hp
theorem dj32 (D : DArg p s r imm) : DJ 32 [.int 135] (A32 (W0 p s r imm)) (.int 9) (A33 (W0 p s r imm)) := by
 have e0 : A32 (W0 p s r imm) = newM p p (A31 (W0 p s r imm)) := by kernel_rfl
 have e1 : A33 (W0 p s r imm) = Stt.at_ (stL p p) 32 (newM p p (A31 (W0 p s r imm))) := by kernel_rfl
 have g : giveOf [.int 135] (stL p p) = some (True, AV.int 9, stL p p) := by kernel_rfl
 have hp : True := trivial
 have ev : AV.int 9 = (.int 9) := rfl
 have hl : List.length (α := MO) (A31 (W0 p s r imm)) = 32 := (A31_len _)
 generalize A31 (W0 p s r imm) = m0 at hl e0 e1
 generalize A32 (W0 p s r imm) = m1 at e0 ⊢
 generalize A33 (W0 p s r imm) = m2 at e1 ⊢
 rw [e0, e1, ← ev]
 exact DJ_new hl g hp
theorem dj34 (D : DArg p s r imm) : DJ 34 [.int 167] (A34 (W0 p s r imm)) (.int 9) (A35 (W0 p s r imm)) := by
 have e0 : A34 (W0 p s r imm) = newM p p (A33 (W0 p s r imm)) := by kernel_rfl
 have e1 : A35 (W0 p s r imm) = Stt.at_ (stL p p) 34 (newM p p (A33 (W0 p s r imm))) := by kernel_rfl
 have g : giveOf [.int 167] (stL p p) = some (True, AV.int 9, stL p p) := by kernel_rfl
 have hp : True := trivial
 have ev : AV.int 9 = (.int 9) := rfl
 have hl : List.length (α := MO) (A33 (W0 p s r imm)) = 34 := (A33_len _)
 generalize A33 (W0 p s r imm) = m0 at hl e0 e1
 generalize A34 (W0 p s r imm) = m1 at e0 ⊢
 generalize A35 (W0 p s r imm) = m2 at e1 ⊢
 rw [e0, e1, ← ev]
 exact DJ_new hl g hp
theorem dj36 (D : DArg p s r imm) : DJ 36 [.int 220] (A36 (W0 p s r imm)) (.int 9) (A37 (W0 p s r imm)) := by
 have e0 : A36 (W0 p s r imm) = newM p p (A35 (W0 p s r imm)) := by kernel_rfl
 have e1 : A37 (W0 p s r imm) = Stt.at_ (stL p p) 36 (newM p p (A35 (W0 p s r imm))) := by kernel_rfl
 have g : giveOf [.int 220] (stL p p) = some (True, AV.int 9, stL p p) := by kernel_rfl
 have hp : True := trivial
 have ev : AV.int 9 = (.int 9) := rfl
 have hl : List.length (α := MO) (A35 (W0 p s r imm)) = 36 := (A35_len _)
 generalize A35 (W0 p s r imm) = m0 at hl e0 e1
 generalize A36 (W0 p s r imm) = m1 at e0 ⊢
 generalize A37 (W0 p s r imm) = m2 at e1 ⊢
 rw [e0, e1, ← ev]
 exact DJ_new hl g hp
theorem dj38 (D : DArg p s r imm) : DJ 38 [.int 31] (A38 (W0 p s r imm)) (dueV (!(W0 p s r imm).bL) (rnum .top 0)) (A39 (W0 p s r imm)) := by
 have e0 : A38 (W0 p s r imm) = newM p r (A37 (W0 p s r imm)) := by kernel_rfl
 have e1 : A39 (W0 p s r imm) = Stt.at_ (tailM p r true (stL p r)) 38 (newM p r (A37 (W0 p s r imm))) := by kernel_rfl
 have g : giveOf [.int 31] (stL p r) = some (sOK p r true, tailV p r true (stL p r), tailM p r true (stL p r)) := by kernel_rfl
 have hp : sOK p r true := ⟨addOK_no (kind_ptr D.kr).2.2, addOK_no (kind_ptr D.kp).2.2⟩
 have ev : tailV p r true (stL p r) = (dueV (!(W0 p s r imm).bL) (rnum .top 0)) := (tail_ptr D.kp D.kr _).1
 have hl : List.length (α := MO) (A37 (W0 p s r imm)) = 38 := (A37_len _)
 generalize A37 (W0 p s r imm) = m0 at hl e0 e1
 generalize A38 (W0 p s r imm) = m1 at e0 ⊢
 generalize A39 (W0 p s r imm) = m2 at e1 ⊢
 rw [e0, e1, ← ev]
 exact DJ_new hl g hp
theorem dj40 (D : DArg p s r imm) : DJ 40 [.int 15] (A40 (W0 p s r imm)) (.int 9) (A41 (W0 p s r imm)) := by
 have e0 : A40 (W0 p s r imm) = newM p r (A39 (W0 p s r imm)) := by kernel_rfl
 have e1 : A41 (W0 p s r imm) = Stt.at_ (tailM p r false (stL p r)) 40 (newM p r (A39 (W0 p s r imm))) := by kernel_rfl
 have g : giveOf [.int 15] (stL p r) = some (sOK p r false, tailV p r false (stL p r), tailM p r false (stL p r)) := by kernel_rfl
 have hp : sOK p r false := ⟨addOK_no (kind_ptr D.kr).2.2, addOK_no (kind_ptr D.kp).2.2⟩
 have ev : tailV p r false (stL p r) = (.int 9) := (tail_ptr D.kp D.kr _).2
 have hl : List.length (α := MO) (A39 (W0 p s r imm)) = 40 := (A39_len _)
 generalize A39 (W0 p s r imm) = m0 at hl e0 e1
 generalize A40 (W0 p s r imm) = m1 at e0 ⊢
 generalize A41 (W0 p s r imm) = m2 at e1 ⊢
 rw [e0, e1, ← ev]
 exact DJ_new hl g hp
theorem dj42 (D : DArg p s r imm) : DJ 42 [.int 191, .int 8] (A42 (W0 p s r imm)) (.int 9) (A43 (W0 p s r imm)) := by
 have e0 : A42 (W0 p s r imm) = newM p p (A41 (W0 p s r imm)) := by kernel_rfl
 have e1 : A43 (W0 p s r imm) = Stt.at_ (stL p p) 42 (newM p p (A41 (W0 p s r imm))) := by kernel_rfl
 have g : giveOf [.int 191, .int 8] (stL p p) = some (True, AV.int 9, stL p p) := by kernel_rfl
 have hp : True := trivial
 have ev : AV.int 9 = (.int 9) := rfl
 have hl : List.length (α := MO) (A41 (W0 p s r imm)) = 42 := (A41_len _)
 generalize A41 (W0 p s r imm) = m0 at hl e0 e1
 generalize A42 (W0 p s r imm) = m1 at e0 ⊢
 generalize A43 (W0 p s r imm) = m2 at e1 ⊢
 rw [e0, e1, ← ev]
 exact DJ_new hl g hp
theorem DArg.all (D : DArg p s r imm) : DAll (W0 p s r imm) where
 h1 := by kernel_rfl
 h2 := by kernel_rfl
 h3 := by kernel_rfl
 h4 := by kernel_rfl
 o1 := D.o1
 o2 := D.o2
 d3 := ⟨dj0 D, ne_same _ _, dj2 D, ne_same _ _, rfl, trivial⟩
 sc := (num_ptr s).2.2.1
 d5 := fun tk e => ⟨rfl, by
  have q := nn_takes (p := p) (s := s)
  rw [← (tail_num D.kp false (stL p (rnum s 0))).2] at q
  rw [e]; exact q, dj4 D, ne_same _ _, rfl, trivial⟩
 d6 := fun tk => ⟨(num_ptr s).2.2.1, dj6 D, rfl, rfl, trivial⟩
 r7e := by kernel_rfl
 r23e := by kernel_rfl
 d8 := fun tk => ⟨by simp_all, D.o3, by kernel_rfl, dj8 D, rfl, ne_same _ _, D.o4, by kernel_rfl, dj10 D, rfl, ne_same _ _, trivial⟩
 d9 := fun tk => ⟨dj12 D, ne_same _ _, dj14 D, rfl, rfl, trivial⟩
 d10 := fun tk => ⟨by simp_all, dj16 D, rfl, dj18 D, rfl, dj20 D, rfl, dj22 D, rfl, dj24 D, rfl, dj26 D, rfl, dj28 D, rfl, dj30 D, rfl, dj32 D, rfl, dj34 D, rfl, dj36 D, rfl, trivial⟩
 lt := fun x y h => by
  have q := let_dif D.kp D.kr
  rcases h with ⟨rfl, rfl, h⟩ | ⟨rfl, rfl, h⟩
  ·have h : swapB p.k r.k = true := h
   rw [h] at q; exact q
  ·have h : swapB p.k r.k = false := h
   rw [h] at q; exact q
 d13 := fun tk x y lt => ⟨dj38 D, trivial⟩
 d15 := fun tk x y lt => ⟨dj40 D, rfl, dj42 D, trivial⟩
end
section
variable {c : Cx} {n : Nat}
noncomputable def rightS : FSem := orSh (shRg (shRg (shRg (.int .nil)))) (fun t m => .req (toRg t.2.1 = rnum (toRg t.2.1).s 0 ∧ DArg (toRg t.1) (toRg t.2.1).s (toRg t.2.2.1) t.2.2.2.1) (.leaf (.bool true, m))) offS
theorem T.all_ren {h : AV × Mem → AV × Mem} {K : AV × Mem → Prop} {KX : AV → Mem → Prop} : ∀ {t : T (AV × Mem)}, t.All (fun a => K (h a)) (fun x m => KX (h (x, m)).1 (h (x, m)).2) → (t.ren h).All K KX
 | .leaf _, q => q
 | .exc _ _, q => q
 | .ite _ _ _, q => ⟨fun c => T.all_ren (q.1 c), fun c => T.all_ren (q.2 c)⟩
 | .req _ _, q => ⟨q.1, T.all_ren q.2⟩
 | .stuck _, q => q.elim
theorem Runs.imp_req {P : Prop} {t : T (AV × Mem)} {a : AV × Mem} (h : Runs t a) : Imp (.req P (.leaf a)) t := fun K KX x => h.all K KX x.2
theorem truncT_runs {t : T (AV × Mem)} {b : Bool} {m0 : Mem} (h : Runs t (.bool b, m0)) (m : Mem) : Runs ((t.bind (truncT 0)).ren (unfocus [] m)) (.bool b, m) :=
 ⟨fun K KX q => T.all_ren (T.all_bind.mpr (h.all _ _ (show T.All (truncT 0 (.bool b, m0)) _ _ from by
  have e : truncT 0 (.bool b, m0) = .leaf (.bool b, []) := by unfold truncT; rfl
  rw [e]; exact q)))⟩
theorem W_closed (p r : Rg) (s : Sc) (imm : Int) : closedAVs 0 [p.av, (rnum s 0).av, r.av, .int imm] = true := by kernel_rfl
theorem W_scope (w : Wd) : scopeOK (fdScope d_law_deeds_right.st) (L0 w) = true := by kernel_rfl
theorem dRFs_ok (O : ObjInt c) (w : Wd) : ∀ p ∈ dRFs w, FnOK c 13 p.1.val p.2 :=
 mem1 ((added_ok O).le (by decide)) (mem1 ((rtold_ok O).le (by decide)) (mem1 ((lstate_ok O).le (by decide)) (mem1 (doneO_ok O _) (mem1 ((num_ok O).le (by decide)) (mem1 ((sconst_ok O).le (by decide)) (mem1 ((none_ok O).le (by decide)) (mem1 ((sunk_ok O).le (by decide)) (mem1 sort_ok mem0))))))))
theorem right_ok (O : ObjInt c) : FnOK c 14 (.ref 991) rightS := d_law_deeds_right.fn0V d_law_deeds_right_ok O 19 rightS fun args m => by
 rcases orSh_s (shRg (shRg (shRg (.int .nil)))) (fun t m => .req (toRg t.2.1 = rnum (toRg t.2.1).s 0 ∧ DArg (toRg t.1) (toRg t.2.1).s (toRg t.2.2.1) t.2.2.2.1) (.leaf (.bool true, m))) offS args m with ⟨t, ha, e⟩ | e
 ·have e : rightS args m = _ := e
  rw [e]
  have ha : args = [(toRg t.1).av, (toRg t.2.1).av, (toRg t.2.2.1).av, .int t.2.2.2.1] := ha
  subst ha
  generalize toRg t.1 = p
  generalize toRg t.2.1 = q
  generalize toRg t.2.2.1 = r
  generalize t.2.2.2.1 = imm
  by_cases h : q = rnum q.s 0 ∧ DArg p q.s r imm
  ·obtain ⟨e, D⟩ := h
   generalize q.s = s at e D ⊢
   subst e
   have d := truncT_runs (DAll.body (DArg.all D)) m
   have hf := dRFs_ok O (W0 p s r imm)
   have hc := W_closed p r s imm
   have hb := d_law_deeds_right_as c p.av (rnum s 0).av r.av (.int imm)
   have hs := W_scope (W0 p s r imm)
   have hi := d.imp_req (P := rnum s 0 = rnum s 0 ∧ DArg p s r imm)
   generalize dRFs (W0 p s r imm) = fs at hf hi
   exact .inr ⟨fs, [], hf, _, hc, hb, hs, .inl hi⟩
  ·exact .inl fun K KX x => h x.1
 ·rw [show rightS args m = _ from e]; exact .inl no_stuck
noncomputable def rightF : FK × FSem := (.ref 991, rightS)
end
structure Pen where
 xs : List Int
 i : Int
 d : Int
noncomputable def Pen.mo (p : Pen) : MO := .lst [.ints p.xs, .int p.i, .int p.d]
noncomputable abbrev shP : Sh := .ints (.int (.int .nil))
noncomputable def penOf (m : Mem) : Option Pen := ((memLs m).bind shP.dec).map fun t => ⟨t.1, t.2.1, t.2.2.1⟩
theorem penOf_some {m : Mem} {p : Pen} (h : penOf m = some p) : m = [p.mo] := by
 obtain ⟨t, q, rfl⟩ := Option.map_eq_some_iff.mp h
 obtain ⟨xs, h1, h2⟩ := Option.bind_eq_some_iff.mp q
 rw [memLs_s h1, Sh.dec_s _ h2]; rfl
noncomputable def Pen.cell (p : Pen) : Int := p.xs.getD (p.i.fmod p.xs.length).toNat 0
noncomputable def Pen.filled (p : Pen) (neg : Bool) : Pen := ⟨p.xs, p.i + 1, 2 * (p.cell.natAbs : Int) + (match neg with | true => 1 | false => 0) + 7919 * (p.i + 1) * (p.i + 1) + 1⟩
noncomputable def Pen.fill (p : Pen) : Pen := match p.d == 0 with
 | true => p.filled (decide (p.cell < 0))
 | false => p
noncomputable def Pen.draw (p : Pen) (n : Int) : Int := p.fill.d.fmod n
noncomputable def Pen.next (p : Pen) (n : Int) : Pen := ⟨p.fill.xs, p.fill.i, p.fill.d.fdiv n⟩
structure PenG (p : Pen) (b : Int) : Prop where
 len : 1 ≤ p.xs.length
 most : p.xs.length ≤ 1000
 i0 : 0 ≤ p.i
 ib : p.i ≤ b
noncomputable def drC : Cfg := { cfg [lenF, (.bi "abs", absS)] [] with scope := fdScope d_law_draw.st }
noncomputable def drR : Rec := run 14 drC
noncomputable def drSt (i : Nat) : Stmt := (fdBody d_law_draw.st).getD i (.Pass default)
theorem dr_body : fdBody d_law_draw.st = [drSt 0, drSt 1, drSt 2, drSt 3] := by kernel_rfl
noncomputable abbrev drL (n : Int) : Lo := [(S "pen", .hnd 0), (S "many", .int n)]
noncomputable def drL1 (p : Pen) (n : Int) : Bool → Lo
 | true => drL n ++ [(S "cell", .int p.cell)]
 | false => drL n
theorem dr0f (p : Pen) (n : Int) (h : (p.d == 0) = false) : Runs (exT drC drR (drSt 0) (drL n) [p.mo]) ((.next, drL n), [p.mo]) := by
 refine Runs.by [false] ((p.d == 0) = false ∧ True) ?_ ?_ ⟨h, trivial⟩ <;> kernel_rfl
noncomputable def drP (p : Pen) (neg : Bool) : Prop := (p.d == 0) = true ∧ p.xs.length ≤ 1000000 ∧ (p.xs.length : Int) ≠ 0 ∧ (0 ≤ p.i.fmod p.xs.length ∧ p.i.fmod p.xs.length < p.xs.length ∧ p.xs.length < 2 ^ 40) ∧
 (Builtin.Int.intBits 2 ≤ 64 ∨ Builtin.Int.intBits (p.cell.natAbs : Int) ≤ 64) ∧ decide (p.cell < 0) = neg ∧ (Builtin.Int.intBits 7919 ≤ 64 ∨ Builtin.Int.intBits (p.i + 1) ≤ 64) ∧ (Builtin.Int.intBits (7919 * (p.i + 1)) ≤ 64 ∨ Builtin.Int.intBits (p.i + 1) ≤ 64) ∧ True
theorem dr0t (p : Pen) (n : Int) (neg : Bool) (h : drP p neg) : Runs (exT drC drR (drSt 0) (drL n) [p.mo]) ((.next, drL1 p n true), [(p.filled neg).mo]) := by
 cases neg
 ·exact Runs.by [true, false] (drP p false) (by kernel_rfl) (by kernel_rfl) h
 ·exact Runs.by [true, true] (drP p true) (by kernel_rfl) (by kernel_rfl) h
noncomputable def drT (q : Pen) (n : Int) : Pen := ⟨q.xs, q.i, q.d.fdiv n⟩
theorem dr1 (q : Pen) (n : Int) (lo : Bool → Lo) (b : Bool) (p : Pen) (hb : lo = drL1 p n) (h : n ≠ 0) (h2 : 0 < n ∧ n < 1073741824) :
  Runs (exsT drC drR [drSt 1, drSt 2, drSt 3] (lo b) [q.mo]) ((.ret (.int (q.d.fmod n)), lo b ++ [(S "digit", .int (q.d.fmod n))]), [(drT q n).mo]) := by
 subst hb
 have a1 : Runs (exT drC drR (drSt 1) (drL1 p n b) [q.mo]) ((.next, drL1 p n b ++ [(S "digit", .int (q.d.fmod n))]), [q.mo]) := by
  cases b <;> exact Runs.by [] (n ≠ 0 ∧ True) (by kernel_rfl) (by kernel_rfl) ⟨h, trivial⟩
 have a2 : Runs (exT drC drR (drSt 2) (drL1 p n b ++ [(S "digit", .int (q.d.fmod n))]) [q.mo]) ((.next, drL1 p n b ++ [(S "digit", .int (q.d.fmod n))]), [(drT q n).mo]) := by
  cases b <;> exact Runs.by [] ((0 < n ∧ n < 1073741824) ∧ True) (by kernel_rfl) (by kernel_rfl) ⟨h2, trivial⟩
 have a3 : Runs (exT drC drR (drSt 3) (drL1 p n b ++ [(S "digit", .int (q.d.fmod n))]) [(drT q n).mo]) ((.ret (.int (q.d.fmod n)), drL1 p n b ++ [(S "digit", .int (q.d.fmod n))]), [(drT q n).mo]) := by
  cases b <;> exact Runs.by [] True (by kernel_rfl) (by kernel_rfl) trivial
 exact a1.cons (a2.cons a3.ret)
theorem intBits_le (x : Int) (h0 : 0 ≤ x) (h : x < 2 ^ 62) : Builtin.Int.intBits x ≤ 64 := by
 unfold Builtin.Int.intBits
 split
 ·simp_all
 ·rename_i hx
  have hx : x ≠ 0 := by simpa using hx
  have := (Nat.log2_lt (n := x.natAbs) (k := 64) (by simp_all)).mpr (by lia)
  solve_by_elim (maxDepth := 3) [Int.le_trans, Int.lt_of_le_of_lt, Int.lt_of_lt_of_le, Int.lt_trans, Int.le_of_lt, Int.not_le_of_gt, Int.not_lt_of_ge]
theorem PenG.drP {p : Pen} {b : Int} (g : PenG p b) (hb : b < 2 ^ 60) (hd : (p.d == 0) = true) : drP p (decide (p.cell < 0)) := by
 have h1 := g.len
 have h2 := g.most
 have h3 : (0 : Int) < p.xs.length := by lia
 refine ⟨hd, by lia, by lia, ⟨Int.fmod_nonneg_of_pos _ h3, Int.fmod_lt_of_pos _ h3, by lia⟩, .inl (by decide +kernel), rfl, .inl (by decide +kernel), .inr (intBits_le _ (by have := g.i0; lia) (by have := g.ib; lia)), trivial⟩
theorem draw_runs {p : Pen} {b n : Int} (g : PenG p b) (hb : b < 2 ^ 60) (hn : 0 < n) (hn2 : n < 1073741824) : Runs (bodyT (cfg [lenF, (.bi "abs", absS)] []) 15 d_law_draw.st (drL n) [p.mo]) (.int (p.draw n), [(p.next n).mo]) := by
 have hn0 : n ≠ 0 := by lia
 cases hd : p.d == 0 with
 | true =>
  have e : p.fill = p.filled (decide (p.cell < 0)) := by unfold Pen.fill; rw [hd]
  have a0 := dr0t p n _ (g.drP hb hd)
  have a1 := dr1 (p.filled (decide (p.cell < 0))) n _ true p rfl hn0 ⟨hn, hn2⟩
  have a := a0.cons a1
  rw [← e] at a
  exact Runs.body (by rw [dr_body]; exact a)
 | false =>
  have e : p.fill = p := by unfold Pen.fill; rw [hd]
  have a0 := dr0f p n hd
  have a1 := dr1 p n _ false p rfl hn0 ⟨hn, hn2⟩
  have a := a0.cons a1
  have r := Runs.body (C := cfg [lenF, (.bi "abs", absS)] []) (k := 14) (by rw [dr_body]; exact a)
  unfold Pen.draw Pen.next; rw [e]; exact r
theorem PenG.next {p : Pen} {b : Int} (g : PenG p b) (n : Int) : PenG (p.next n) (b + 1) := by
 obtain ⟨a1, a2, a3, a4⟩ := g
 unfold Pen.next Pen.fill
 split <;> constructor <;> simp only [Pen.filled] <;> first | assumption | lia
theorem draw_range (p : Pen) {n : Int} (h : 0 < n) : 0 ≤ p.draw n ∧ p.draw n < n := ⟨Int.fmod_nonneg_of_pos _ h, Int.fmod_lt_of_pos _ h⟩
theorem cellsFrom_mem : ∀ (names : List (Str × NameKind)) (n : Nat) (acc : List (Str × Addr)) (x : Str), ((x, NameKind.cell) ∈ names ∨ ∃ ca, (x, ca) ∈ acc) → ∃ ca, (x, ca) ∈ cellsFrom n names acc
 | [], n, acc, x, h => by
  rcases h with h | h
  ·cases h
  ·exact h
 | (name, kind) :: r, n, acc, x, h => by
  unfold cellsFrom
  split
  ·refine cellsFrom_mem r _ _ x ?_
   rcases h with h | ⟨ca, h⟩
   ·rcases List.mem_cons.mp h with e | h
    ·cases e; exact .inr ⟨_, List.mem_cons_self⟩
    ·exact .inl h
   ·exact .inr ⟨ca, List.mem_cons_of_mem _ h⟩
  ·rename_i hk
   refine cellsFrom_mem r _ _ x ?_
   rcases h with h | h
   ·rcases List.mem_cons.mp h with e | h
    ·cases e; exact absurd rfl hk
    ·exact .inl h
   ·exact .inr h
theorem cellsFrom_has {names : List (Str × NameKind)} {n : Nat} {x : Str} (h : names.lookup x = some .cell) : ∃ ca, (cellsFrom n names []).lookup x = some ca := by
 obtain ⟨ca, hca⟩ := cellsFrom_mem names n [] x (.inl (mem_of_lookup h))
 exact lookup_of_has ⟨_, hca⟩
section
variable {c : Cx} {C : Cfg} {n fuel : Nat} {A : Around} {s : Shared} {g : Gh} {m : Mem}
theorem call_body_c (O : ObjInt c) (hc : CfgOK c C n) {f : Addr} {st : Stmt} {qual : String} {dV : Value} {pm : String} {pt : Tok} {cd : Addr} {an : Option Addr} (ho : (kFrag c.w.params).lookup f = some (fnK st qual dV pm pt cd an))
  (hcd : codeIn (kFrag c.w.params) (.ref cd) (Str.ofString qual) = true) {x0 : Str} {v0 : Value} {a0 : AV}
  (hbind : bindArgs (fnOf (fdName st) (Str.ofString qual) (fdParams st) (fdBody st) (fdScope st) dV .none .none (.str (Str.ofString pm) pt) an (.ref cd) .none) ⟨[v0], []⟩ = pure [(x0, v0)])
  (hb : Rep c.w.params g a0 v0) (s1 : (fdScope st).kind = .function) (s2 : (fdScope st).isCoroutine = false) (s3 : (fdScope st).isGenerator = false) (s4 : (fdScope st).names.lookup x0 = some .cell) (s5 : (x0 == ("__debug__" : Str)) = false)
  (hroom : Room A (n + 1)) (I : Inv c A g s m) :
  TriC c A noX s g (.ref f) [v0] (bodyT C fuel st [(x0, a0)] m) := by
 intro Q E K KX hA hQ hE
 obtain ⟨hr1, hr2, hr3⟩ := hroom
 have hL : ¬ Liv s.heap s.heap.objs.size := notLiv _
 obtain ⟨ca0, hca0⟩ := cellsFrom_has (n := s.heap.objs.size + 1) s4
 refine codeAny_call_cells (o := fnK st qual dV pm pt cd an) (body := fdBody st) (binds := [(x0, v0)]) (by omega) (I.K _ _ ho) rfl (c.lim.keeps I.keeps) (codeRec_of I.K hcd) rfl hbind rfl (fun x hx => ?_) (fun sx hx => ?_) s2 s3 s1
 ·rcases List.mem_cons.mp hx with rfl | h
  ·exact .inr ⟨s4, by rw [show (cellsFrom (s.heap.objs.size + 1) (fdScope st).names []).lookup x0 = some ca0 from hca0]; rfl⟩
  ·cases h
 ·generalize henv : callEnvC (fnOf (fdName st) (Str.ofString qual) (fdParams st) (fdBody st) (fdScope st) dV .none .none (.str (Str.ofString pm) pt) an (.ref cd) .none) s.heap.objs.size f = env at hx ⊢
  have e1 : env.scope = fdScope st := by rw [← henv]; rfl
  have e2 : env.frame = some s.heap.objs.size := by rw [← henv]; rfl
  have e3 : env.locals = s.heap.objs.size := by rw [← henv]; rfl
  have e4 : env.cells = cellsFrom (s.heap.objs.size + 1) (fdScope st).names [] := by rw [← henv]; rfl
  obtain ⟨h₀, tk, rfl⟩ := hx.toInCall.same
  have hk : ∀ b o, s.heap.get? b = some o → h₀.get? b = some o := hx.toInCall.keep
  have hns : h₀.Ns s.heap.objs.size (bindL env.kindOf [(x0, v0)] fun _ => none) := by have := hx.toInCall.ns; rw [e3] at this; exact this
  have above : ∀ x ca, env.cells.lookup x = some ca → s.heap.objs.size < ca := fun x ca h => by have := hx.above x ca (mem_of_lookup h); rw [e3] at this; exact this
  have nliv : ∀ x ca, env.cells.lookup x = some ca → ¬ Liv s.heap ca := fun x ca h ⟨o, q⟩ => Nat.lt_irrefl _ (Nat.lt_trans (Heap.lt_size q) (above x ca h))
  have I2 := I.enter (t := tk) (env := env) (by rw [e1]; exact s1) e2 hL ⟨_, hns⟩ hk
  have E2 : Ext A (Liv s.heap) noX g s g { s with heap := h₀, toks := tk } := Ext.priv (p := s.heap.objs.size) (fun b o _ e => hk b o e) hL _
  have kx : env.kindOf x0 = some .cell := by show env.scope.names.lookup x0 = _; rw [e1]; exact s4
  have hat : At c { C with scope := fdScope st } n (A.deeper env) env s.heap.objs.size { s with heap := h₀, toks := tk } g [(x0, a0)] m := by
   refine ⟨⟨e1, s1, e3, by rw [← henv]; rfl, by rw [← henv]; rfl⟩, ⟨hr1, ?_, ?_⟩, I2, ?_⟩
   ·show A.depth + 1 + 4 * n + 4 < recursionLimit; omega
   ·show A.units + 3 + 16 * n + 16 < cLine; omega
   ·refine ⟨⟨_, hns, fun x v hx' => ?_⟩, I.fresh, I.freshT, fun x ca h => ?_, fun x h => ?_, fun x y ca h1 h2 => name_of_addr hx.apart (mem_of_lookup h1) (mem_of_lookup h2)⟩
    ·unfold getLo at hx'
     split at hx'
     ·rename_i q; cases hx'; rw [q]
      refine ⟨s5, .inr ⟨ca0, v0, .inl s4, by rw [e4]; exact hca0, ?_, hb⟩⟩
      have := hx.cell x0 ca0 (by rw [e4]; exact hca0)
      have hbc : bindC env.kindOf [(x0, v0)] (fun _ => none) x0 = some v0 := by unfold bindC; rw [kx]; unfold bindC; simp
      rwa [hbc] at this
     ·cases hx'
    ·refine ⟨fun q => ?_, ?_, fun q => nliv x ca h (I.free _ q).2, _, hx.cell x ca h⟩
     ·have := above x ca h; rw [q] at this; exact absurd this (Nat.lt_irrefl _)
     ·cases q : g.F ca with
      | none => rfl
      | some o => exact absurd ⟨_, I.frz _ _ q⟩ (nliv x ca h)
    ·rw [e4]; exact cellsFrom_has h
  have hS := run_ok O fuel { C with scope := fdScope st } (hc.scope _)
  refine hS.s hat (fdBody st) _ _ _ (fun _ _ => False) (T.quiet_all (T.all_bind.mp hA)) (fun fl x s' g' m' x' i' r' k' => ?_) (fun _ _ _ _ _ _ _ _ h => h.elim)
  obtain ⟨r1, l1⟩ := r'
  have E3 : Ext A (Liv s.heap) noX g s g' s' := by
   refine E2.trans (((x'.weaken E2.liv fun _ h => h).around fun a ha q => (isFr_deeper e2 q).elim (fun r => absurd (r ▸ ha) hL) id).drop fun a ha q => ?_)
   rcases q with rfl | ⟨z, hz⟩
   ·exact hL ha
   ·exact nliv z a hz ha
  have I3 := i'.leave (let ⟨l, h, _⟩ := I.stk; ⟨l, h⟩)
  obtain ⟨fl', lo'⟩ := x
  dsimp only at r1 k'
  unfold retT at k'
  cases r1 with
  | next => exact hQ _ _ _ _ _ E3 I3 .none k'
  | ret r => exact hQ _ _ _ _ _ E3 I3 r k'
  | brk => exact k'.elim
  | cont => exact k'.elim
end
section
variable {c : Cx} {n : Nat}
noncomputable def Cv (v0 v : AV) : Prop := ∀ (P : Params) (g : Gh) (u : Value), Rep P g v0 u → Rep P g v u
theorem Cv.refl (v : AV) : Cv v v := fun _ _ _ h => h
theorem Tri.cvt {A : Around} {s : Shared} {g : Gh} {X : Addr → Prop} {t : Sem Value} {v0 v : AV} {m' : Mem} (h : Tri c A X s g t (RepR c) (.leaf (v0, m'))) (cv : Cv v0 v) : Tri c A X s g t (RepR c) (.leaf (v, m')) :=
 fun Q E K KX hA hQ hE => h Q E (fun x => x = (v0, m')) KX rfl (fun a r s' g' m'' x i q hk => by cases hk; exact hQ a v s' g' m' x i (cv _ _ _ q) hA) hE
theorem Cv.ints (xs : List Int) : Cv (.lst (xs.map .int)) (.ints xs) := fun P g u h => by
 cases h with | lst h r => exact .ints h (IntVals.of_reps r)
theorem Cv.pair {a b b' : AV} (h : Cv b b') : Cv (.tup [a, b]) (.tup [a, b']) := fun P g u q => by
 cases q with | tup e r =>
 cases r with | cons r1 r =>
 cases r with | cons r2 r => exact .tup e (.cons r1 (.cons (h _ _ _ r2) r))
theorem Def.runV (d : Def) (hd : DefOK d) (O : ObjInt c) (fuel : Nat) (k : FSem)
  (hk : ∀ args m, (∀ K KX, ¬ (k args m).All K KX) ∨ ∃ P v m', k args m = .req P (.leaf (v, m')) ∧ (P → ∃ fs mu lo v0, (∀ p ∈ fs, FnOK c n p.1.val p.2) ∧ BindsAs c d args lo ∧ scopeOK (fdScope d.st) lo = true ∧
   Runs (bodyT (cfg fs mu) fuel d.st lo m) (v0, m') ∧ Cv v0 v)) : FnOK c (n + 1) (.ref d.f) k where
 keep := keep_K c (hd.keep _)
 call := fun A s g m args vs hr I r => by
  rcases hk args m with h | ⟨P, v, m', e, h⟩
  ·exact fun Q E K KX hA => (h K KX hA).elim
  ·rw [e]
   refine Tri.req fun hP => ?_
   obtain ⟨fs, mu, lo, v0, hfs, hb, hs, hi, cv⟩ := h hP
   obtain ⟨binds, b1, b2⟩ := hb s g vs I.K (gr0 I) r
   exact Tri.cvt (((call_body (fuel := fuel) O (cfg_ok (mu := mu) hfs) (hd.at_ c.w.params) (hd.code _) b1 b2 hs hr I).tri).imp hi.imp) cv
theorem Def.runC (d : Def) (hd : DefOK d) (O : ObjInt c) (fuel : Nat) (k : FSem) (x0 : Str) (hbind : ∀ v0, bindArgs d.fd ⟨[v0], []⟩ = pure [(x0, v0)])
  (s1 : (fdScope d.st).kind = .function) (s2 : (fdScope d.st).isCoroutine = false) (s3 : (fdScope d.st).isGenerator = false) (s4 : (fdScope d.st).names.lookup x0 = some .cell) (s5 : (x0 == ("__debug__" : Str)) = false)
  (hk : ∀ args m, (∀ K KX, ¬ (k args m).All K KX) ∨ ∃ P v m' a0, args = [a0] ∧ k args m = .req P (.leaf (v, m')) ∧ (P → ∃ fs mu v0, (∀ p ∈ fs, FnOK c n p.1.val p.2) ∧
   Runs (bodyT (cfg fs mu) fuel d.st [(x0, a0)] m) (v0, m') ∧ Cv v0 v)) : FnOK c (n + 1) (.ref d.f) k where
 keep := keep_K c (hd.keep _)
 call := fun A s g m args vs hr I r => by
  rcases hk args m with h | ⟨P, v, m', a0, ea, e, h⟩
  ·exact fun Q E K KX hA => (h K KX hA).elim
  ·rw [e]
   refine Tri.req fun hP => ?_
   obtain ⟨fs, mu, v0, hfs, hi, cv⟩ := h hP
   subst ea
   obtain ⟨u, rfl, ru⟩ := reps1 r
   exact Tri.cvt (((call_body_c (fuel := fuel) O (cfg_ok (mu := mu) hfs) (hd.at_ c.w.params) (hd.code _) (hbind u) ru s1 s2 s3 s4 s5 hr I).tri).imp hi.imp) cv
noncomputable def isPen : AV → Bool
 | .hnd k => Nat.beq k 0
 | _ => false
theorem isPen_eq {a : AV} (h : isPen a = true) : a = .hnd 0 := by
 unfold isPen at h; split at h
 ·rw [Nat.eq_of_beq_eq_true h]
 ·cases h
noncomputable def drawA (l : List AV) : Option Int := ((Sh.hnd 0 (.int .nil)).dec l).map fun t => t.1
theorem drawA_some {l : List AV} {n : Int} (h : drawA l = some n) : l = [.hnd 0, .int n] := by
 obtain ⟨t, h1, rfl⟩ := Option.map_eq_some_iff.mp h
 exact Sh.dec_s _ h1
noncomputable def penA : List AV → Bool
 | [a] => isPen a
 | _ => false
theorem penA_eq {l : List AV} (h : penA l = true) : l = [.hnd 0] := by
 unfold penA at h; split at h
 ·rw [isPen_eq h]
 ·cases h
noncomputable def PenB (p : Pen) (e : Nat) : Prop := PenG p (2 ^ 50 - e)
theorem PenG.le {p : Pen} {b b' : Int} (g : PenG p b) (h : b ≤ b') : PenG p b' := ⟨g.len, g.most, g.i0, by have := g.ib; omega⟩
noncomputable def drawS : FSem := fun args m => match drawA args, penOf m with
 | some n, some p => .req (PenG p (2 ^ 50) ∧ 0 < n ∧ n < 1073741824) (.leaf (.int (p.draw n), [(p.next n).mo]))
 | _, _ => .stuck "_law_draw"
theorem draw_ok (O : ObjInt c) : FnOK c (n + 1) (.ref 931) drawS := d_law_draw.runV d_law_draw_ok O 15 drawS fun args m => by
 unfold drawS; split
 ·rename_i k p h1 h2
  refine .inr ⟨_, _, _, rfl, fun ⟨g, h3, h4⟩ => ?_⟩
  rw [drawA_some h1, penOf_some h2]
  exact ⟨_, _, _, _, mem1 len_ok (mem1 abs_ok mem0), d_law_draw_as c _ _, by kernel_rfl, draw_runs g (by omega) h3 h4, .refl _⟩
 ·exact .inl no_stuck
noncomputable def drawF : FK × FSem := (.ref 931, drawS)
end
section
variable {c : Cx} {n : Nat}
noncomputable def lfarS : FSem := fun args m => match args with
 | [] => .req True (.leaf (.int 536870912, m))
 | _ => .stuck "_law_far"
theorem far_runs (m : Mem) : Runs (bodyT (cfg [] []) 10 d_law_far.st [] m) (.int 536870912, m) := by
 have a : Runs (exT { cfg [] [] with scope := fdScope d_law_far.st } (run 9 { cfg [] [] with scope := fdScope d_law_far.st }) ((fdBody d_law_far.st).getD 0 (.Pass default)) [] m) ((.ret (.int 536870912), []), m) :=
  Runs.by [] ((0 ≤ (29 : Int) ∧ (29 : Int) ≤ 1000 ∧ (1 : Int).natAbs < 2 ^ 1000) ∧ True) (by kernel_rfl) (by kernel_rfl) ⟨⟨by decide, by decide, by decide +kernel⟩, trivial⟩
 exact Runs.body (by rw [show fdBody d_law_far.st = [(fdBody d_law_far.st).getD 0 (.Pass default)] by kernel_rfl]; exact a.ret)
theorem lfar_ok (O : ObjInt c) : FnOK c (n + 1) (.ref 924) lfarS := d_law_far.runV d_law_far_ok O 10 lfarS fun args m => by
 unfold lfarS; split
 ·exact .inr ⟨_, _, _, rfl, fun _ => ⟨[], [], [], _, mem0, d_law_far_as c, by kernel_rfl, far_runs m, .refl _⟩⟩
 ·exact .inl no_stuck
noncomputable def lfarF : FK × FSem := (.ref 924, lfarS)
noncomputable def bases : List Int := [0, 0, 0, 60, -40, 65530, 536870908, -536870910, 1099511627776]
noncomputable def Pen.whole (p : Pen) : Int := bases.getD ((p.next 9).draw 9).toNat 0 + (p.draw 9 - 3)
noncomputable def Pen.whole' (p : Pen) : Pen := (p.next 9).next 9
noncomputable def whC : Cfg := { cfg [drawF, lfarF] [] with scope := fdScope d_law_whole.st }
noncomputable def whR : Rec := run 14 whC
noncomputable def whSt (i : Nat) : Stmt := (fdBody d_law_whole.st).getD i (.Pass default)
theorem wh_body : fdBody d_law_whole.st = [whSt 0, whSt 1, whSt 2] := by kernel_rfl
noncomputable def drG (p : Pen) (n : Int) : Prop := PenG p (2 ^ 50) ∧ 0 < n ∧ n < 1073741824
theorem wh0 (p : Pen) (h : drG p 9) : Runs (exT whC whR (whSt 0) [(S "pen", .hnd 0)] [p.mo]) ((.next, [(S "pen", .hnd 0), (S "small", .int (p.draw 9 - 3))]), [(p.next 9).mo]) :=
 Runs.by [] (drG p 9 ∧ True) (by kernel_rfl) (by kernel_rfl) ⟨h, trivial⟩
noncomputable abbrev shlG (a k : Int) : Prop := 0 ≤ k ∧ k ≤ 1000 ∧ a.natAbs < 2 ^ 1000
theorem wh1 (q : Pen) (sm : Int) (h : drG q 9) (h1 : 0 ≤ q.draw 9 ∧ q.draw 9 < 9) (h2 : shlG 1 40) : Runs (exT whC whR (whSt 1) [(S "pen", .hnd 0), (S "small", .int sm)] [q.mo]) ((.next, [(S "pen", .hnd 0), (S "small", .int sm), (S "base", .int (bases.getD (q.draw 9).toNat 0))]), [(q.next 9).mo]) :=
 Runs.by [] (True ∧ True ∧ shlG 1 40 ∧ drG q 9 ∧ (0 ≤ q.draw 9 ∧ q.draw 9 < 9) ∧ True) (by kernel_rfl) (by kernel_rfl) ⟨trivial, trivial, h2, h, h1, trivial⟩
theorem wh2 (q : Pen) (sm b : Int) : Runs (exT whC whR (whSt 2) [(S "pen", .hnd 0), (S "small", .int sm), (S "base", .int b)] [q.mo]) ((.ret (.int (b + sm)), [(S "pen", .hnd 0), (S "small", .int sm), (S "base", .int b)]), [q.mo]) :=
 Runs.by [] True (by kernel_rfl) (by kernel_rfl) trivial
theorem shl140 : shlG 1 40 := ⟨by decide, by decide, by decide +kernel⟩
theorem whole_runs {p : Pen} (g : PenG p (2 ^ 50 - 10)) : Runs (bodyT (cfg [drawF, lfarF] []) 15 d_law_whole.st [(S "pen", .hnd 0)] [p.mo]) (.int p.whole, [p.whole'.mo]) := by
 have g0 : drG p 9 := ⟨g.le (by simp_all), by simp_all, by simp_all⟩
 have g1 : drG (p.next 9) 9 := ⟨(g.next 9).le (by simp_all), by simp_all, by simp_all⟩
 exact Runs.body (by rw [wh_body]; exact (wh0 p g0).cons ((wh1 _ _ g1 (draw_range _ (by simp_all)) shl140).cons (wh2 _ _ _).ret))
noncomputable def wholeS : FSem := fun args m => match penA args, penOf m with
 | true, some p => .req (PenG p (2 ^ 50 - 10)) (.leaf (.int p.whole, [p.whole'.mo]))
 | _, _ => .stuck "_law_whole"
theorem whole_ok (O : ObjInt c) : FnOK c (n + 2) (.ref 938) wholeS := d_law_whole.runV d_law_whole_ok O 15 wholeS fun args m => by
 unfold wholeS; split
 ·rename_i p h1 h2
  refine .inr ⟨_, _, _, rfl, fun g => ?_⟩
  rw [penA_eq h1, penOf_some h2]
  exact ⟨_, _, _, _, mem1 (draw_ok O) (mem1 (lfar_ok O) mem0), d_law_whole_as c _, by kernel_rfl, whole_runs g, .refl _⟩
 ·exact .inl no_stuck
noncomputable def lwholeF : FK × FSem := (.ref 938, wholeS)
theorem PenG.whole {p : Pen} {b : Int} (g : PenG p b) : PenG p.whole' (b + 2) := ((g.next 9).next 9).le (by lia)
end
noncomputable def drawK (k3 : Int) : FSem := fun args m => match drawA args, penOf m with
 | some n, some p => match n == 3 with
  | true => .req (drG p 3 ∧ p.draw 3 = k3) (.leaf (.int k3, [(p.next 3).mo]))
  | false => .req (drG p n) (.leaf (.int (p.draw n), [(p.next n).mo]))
 | _, _ => .stuck "_law_draw"
section
variable {c : Cx} {n : Nat}
theorem drawK_ok (O : ObjInt c) (k3 : Int) : FnOK c (n + 1) (.ref 931) (drawK k3) := (draw_ok O).imp fun args m => by
 unfold drawK
 split
 ·rename_i n p h1 h2
  have e : drawS args m = .req (drG p n) (.leaf (.int (p.draw n), [(p.next n).mo])) := by unfold drawS; rw [h1, h2]; rfl
  rw [e]
  split
  ·rename_i q
   have q := beq_iff_eq.mp q
   subst q
   intro K KX h
   obtain ⟨⟨h3, h4⟩, h5⟩ := h
   subst h4
   exact ⟨h3, h5⟩
  ·exact Imp.refl _
 ·exact stuck_imp
end
structure Var where
 s : Sc
 zs : List Int
 p : Pen
 ok : Prop
noncomputable def S64A : Int := -9223372036854775808
noncomputable def S64B : Int := 9223372036854775807
noncomputable def Pen.var0 (p : Pen) : Var := ⟨.const p.whole, [p.whole], p.whole', True⟩
noncomputable def Pen.var1 (p : Pen) : Var := ⟨madeZ 0 18446744073709551615 (topEn p.whole (p.whole + 1 + p.whole'.draw 40)), [p.whole, (p.whole + (p.whole + 1 + p.whole'.draw 40)).fdiv 2, p.whole + 1 + p.whole'.draw 40], p.whole'.next 40,
 madeOK 0 18446744073709551615 (topEn p.whole (p.whole + 1 + p.whole'.draw 40))⟩
noncomputable def Pen.bit (p : Pen) : Int := 1 * 2 ^ (p.draw 6).toNat
noncomputable def Pen.bits : Nat → Pen → List Int × Pen
 | 0, p => ([], p)
 | k + 1, p => (p.bit :: (Pen.bits k (p.next 6)).1, (Pen.bits k (p.next 6)).2)
noncomputable def orAll (bs : List Int) : Int := bs.foldl Builtin.bitOr 0
noncomputable def memsOf (value mask : Int) : List Int := ((((List.range (mask + 1 - 0).toNat).map fun (i : Nat) => (0 : Int) + i).filter fun i => Builtin.bitAnd i (Builtin.bitNot mask) == 0).map fun i => value + i)
noncomputable def Pen.val (p : Pen) (mask : Int) : Int := Builtin.bitAnd (p.draw 200 + 65536 * (p.next 200).draw 2) (Builtin.bitNot mask)
noncomputable def Pen.var3 (p : Pen) : Var :=
 let k := (1 + p.draw 3).toNat
 let bs := Pen.bits k (p.next 3)
 let mask := orAll bs.1
 let value := bs.2.val mask
 ⟨madeZ value mask (topEn S64A S64B), memsOf value mask, (bs.2.next 200).next 2, madeOK value mask (topEn S64A S64B)⟩
noncomputable def Pen.var (p : Pen) : Var := match p.draw 4 == 0, decide (p.draw 4 < 3) with
 | true, _ => (p.next 4).var0
 | false, true => (p.next 4).var1
 | false, false => (p.next 4).var3
noncomputable def vaFs (k3 : Int) : List (FK × FSem) := [(.ref 931, drawK k3), lwholeF, sconstF, with2F, ofb2F, tnumF, (.ty "range", rangeS)]
noncomputable def vaC (k3 : Int) : Cfg := { cfg (vaFs k3) [] with scope := fdScope d_law_varied.st }
noncomputable def vaR (k3 : Int) : Rec := run 18 (vaC k3)
noncomputable def vaSt (i : Nat) : Stmt := (fdBody d_law_varied.st).getD i (.Pass default)
theorem va_body : fdBody d_law_varied.st = [vaSt 0, vaSt 1, vaSt 2, vaSt 3, vaSt 4, vaSt 5, vaSt 6, vaSt 7, vaSt 8] := by kernel_rfl
noncomputable abbrev va0 : Lo := [(S "pen", .hnd 0)]
noncomputable abbrev va1 (w : Int) : Lo := [(S "pen", .hnd 0), (S "way", .int w)]
section
variable (k3 : Int)
theorem vs0 (p : Pen) (h : drG p 4) : Runs (exT (vaC k3) (vaR k3) (vaSt 0) va0 [p.mo]) ((.next, va1 (p.draw 4)), [(p.next 4).mo]) :=
 Runs.by [] (drG p 4 ∧ True) (by kernel_rfl) (by kernel_rfl) ⟨h, trivial⟩
noncomputable abbrev whG (p : Pen) : Prop := PenG p (2 ^ 50 - 10)
theorem vs1t (p : Pen) (w : Int) (h : (w == 0) = true ∧ whG p) : Runs (exT (vaC k3) (vaR k3) (vaSt 1) (va1 w) [p.mo]) ((.ret (.tup [p.var0.s.av, .lst [.int p.whole]]), va1 w ++ [(S "worth", .int p.whole)]), [p.var0.p.mo]) :=
 Runs.by [true] ((w == 0) = true ∧ whG p ∧ True) (by kernel_rfl) (by kernel_rfl) ⟨h.1, h.2, trivial⟩
theorem vs1f (p : Pen) (w : Int) (h : (w == 0) = false) : Runs (exT (vaC k3) (vaR k3) (vaSt 1) (va1 w) [p.mo]) ((.next, va1 w), [p.mo]) :=
 Runs.by [false] ((w == 0) = false ∧ True) (by kernel_rfl) (by kernel_rfl) ⟨h, trivial⟩
theorem vs2t (p : Pen) (w : Int) (h : decide (w < 3) = true) (g : whG p) (g2 : drG p.whole' 40) (ok : p.var1.ok) : Runs (exT (vaC k3) (vaR k3) (vaSt 2) (va1 w) [p.mo]) ((.ret (.tup [p.var1.s.av, .lst [.int p.whole, .int ((p.whole + (p.whole + 1 + p.whole'.draw 40)).fdiv 2), .int (p.whole + 1 + p.whole'.draw 40)]]), va1 w ++ [(S "least", .int p.whole), (S "most", .int (p.whole + 1 + p.whole'.draw 40))]), [p.var1.p.mo]) :=
 Runs.by [true] (decide (w < 3) = true ∧ whG p ∧ drG p.whole' 40 ∧ p.var1.ok ∧ ((0 : Int) < 2 ∧ (2 : Int) < 1073741824) ∧ True) (by kernel_rfl) (by kernel_rfl) ⟨h, g, g2, ok, ⟨by omega, by omega⟩, trivial⟩
theorem vs2f (p : Pen) (w : Int) (h : decide (w < 3) = false) : Runs (exT (vaC k3) (vaR k3) (vaSt 2) (va1 w) [p.mo]) ((.next, va1 w), [p.mo]) :=
 Runs.by [false] (decide (w < 3) = false ∧ True) (by kernel_rfl) (by kernel_rfl) ⟨h, trivial⟩
end
noncomputable abbrev va3 (w : Int) (bs : List AV) : Lo := va1 w ++ [(S "bits", .lst bs)]
noncomputable abbrev va4 (w : Int) (bs : List AV) : Lo := va3 w bs ++ [(S "mask", .int 0)]
noncomputable abbrev va5 (w : Int) (bs : List AV) (mask bit : Int) : Lo := va3 w bs ++ [(S "mask", .int mask), (S "bit", .int bit)]
noncomputable abbrev va6 (w : Int) (bs : List AV) (mask bit v : Int) : Lo := va5 w bs mask bit ++ [(S "value", .int v)]
noncomputable abbrev va7 (w : Int) (bs : List AV) (mask bit v : Int) (ms : List AV) : Lo := va6 w bs mask bit v ++ [(S "members", .lst ms)]
noncomputable abbrev rngG (hi : Int) : Prop := (0 : Int) = 0 ∧ 0 ≤ hi ∧ hi ≤ 1000
noncomputable abbrev shG (p : Pen) : Prop := 0 ≤ p.draw 6 ∧ p.draw 6 ≤ 1000 ∧ (1 : Int).natAbs < 2 ^ 1000
theorem vs3a (p : Pen) (w : Int) (h : drG p 3 ∧ p.draw 3 = 0) (g : drG (p.next 3) 6 ∧ shG (p.next 3)) : Runs (exT (vaC 0) (vaR 0) (vaSt 3) (va1 w) [p.mo]) ((.next, va3 w [.int (p.next 3).bit]), [(Pen.bits 1 (p.next 3)).2.mo]) :=
 Runs.by [] ((drG p 3 ∧ p.draw 3 = 0) ∧ rngG 1 ∧ drG (p.next 3) 6 ∧ shG (p.next 3) ∧ True) (by kernel_rfl) (by kernel_rfl) ⟨h, ⟨rfl, by decide, by decide⟩, g.1, g.2, trivial⟩
theorem vs3b (p : Pen) (w : Int) (h : drG p 3 ∧ p.draw 3 = 1) (g : drG (p.next 3) 6 ∧ shG (p.next 3)) (g1 : drG ((p.next 3).next 6) 6 ∧ shG ((p.next 3).next 6)) : Runs (exT (vaC 1) (vaR 1) (vaSt 3) (va1 w) [p.mo]) ((.next, va3 w [.int (p.next 3).bit, .int ((p.next 3).next 6).bit]), [(Pen.bits 2 (p.next 3)).2.mo]) :=
 Runs.by [] ((drG p 3 ∧ p.draw 3 = 1) ∧ rngG 2 ∧ drG (p.next 3) 6 ∧ shG (p.next 3) ∧ drG ((p.next 3).next 6) 6 ∧ shG ((p.next 3).next 6) ∧ True) (by kernel_rfl) (by kernel_rfl) ⟨h, ⟨rfl, by decide, by decide⟩, g.1, g.2, g1.1, g1.2, trivial⟩
theorem vs3c (p : Pen) (w : Int) (h : drG p 3 ∧ p.draw 3 = 2) (g : drG (p.next 3) 6 ∧ shG (p.next 3)) (g1 : drG ((p.next 3).next 6) 6 ∧ shG ((p.next 3).next 6)) (g2 : drG (((p.next 3).next 6).next 6) 6 ∧ shG (((p.next 3).next 6).next 6)) :
  Runs (exT (vaC 2) (vaR 2) (vaSt 3) (va1 w) [p.mo]) ((.next, va3 w [.int (p.next 3).bit, .int ((p.next 3).next 6).bit, .int (((p.next 3).next 6).next 6).bit]), [(Pen.bits 3 (p.next 3)).2.mo]) :=
 Runs.by [] ((drG p 3 ∧ p.draw 3 = 2) ∧ rngG 3 ∧ drG (p.next 3) 6 ∧ shG (p.next 3) ∧ drG ((p.next 3).next 6) 6 ∧ shG ((p.next 3).next 6) ∧ drG (((p.next 3).next 6).next 6) 6 ∧ shG (((p.next 3).next 6).next 6) ∧ True) (by kernel_rfl) (by kernel_rfl)
  ⟨h, ⟨rfl, by decide, by decide⟩, g.1, g.2, g1.1, g1.2, g2.1, g2.2, trivial⟩
section
variable (k3 : Int)
theorem vs4 (w : Int) (bs : List AV) (m : Mem) : Runs (exT (vaC k3) (vaR k3) (vaSt 4) (va3 w bs) m) ((.next, va4 w bs), m) :=
 Runs.by [] True (by kernel_rfl) (by kernel_rfl) trivial
theorem vs5a (w : Int) (a : Int) (m : Mem) : Runs (exT (vaC k3) (vaR k3) (vaSt 5) (va4 w [.int a]) m) ((.next, va5 w [.int a] (orAll [a]) a), m) :=
 Runs.by [] ((1 : Nat) ≤ 1000 ∧ True) (by kernel_rfl) (by kernel_rfl) ⟨by decide, trivial⟩
theorem vs5b (w : Int) (a b : Int) (m : Mem) : Runs (exT (vaC k3) (vaR k3) (vaSt 5) (va4 w [.int a, .int b]) m) ((.next, va5 w [.int a, .int b] (orAll [a, b]) b), m) :=
 Runs.by [] ((2 : Nat) ≤ 1000 ∧ True) (by kernel_rfl) (by kernel_rfl) ⟨by decide, trivial⟩
theorem vs5c (w : Int) (a b d : Int) (m : Mem) : Runs (exT (vaC k3) (vaR k3) (vaSt 5) (va4 w [.int a, .int b, .int d]) m) ((.next, va5 w [.int a, .int b, .int d] (orAll [a, b, d]) d), m) :=
 Runs.by [] ((3 : Nat) ≤ 1000 ∧ True) (by kernel_rfl) (by kernel_rfl) ⟨by decide, trivial⟩
theorem vs6 (w : Int) (bs : List AV) (mask bit : Int) (p : Pen) (h : drG p 200) (h1 : drG (p.next 200) 2) : Runs (exT (vaC k3) (vaR k3) (vaSt 6) (va5 w bs mask bit) [p.mo]) ((.next, va6 w bs mask bit (p.val mask)), [((p.next 200).next 2).mo]) :=
 Runs.by [] (drG p 200 ∧ shlG 1 16 ∧ drG (p.next 200) 2 ∧ (Builtin.Int.intBits 65536 ≤ 64 ∨ Builtin.Int.intBits ((p.next 200).draw 2) ≤ 64) ∧ True) (by kernel_rfl) (by kernel_rfl) ⟨h, ⟨by decide, by decide, by decide +kernel⟩, h1, .inl (by decide +kernel), trivial⟩
noncomputable def vs8P (mask v : Int) : Prop := madeOK v mask (topEn S64A S64B)
theorem vs8 (w : Int) (bs : List AV) (mask bit v : Int) (ms : List AV) (m : Mem) (h : vs8P mask v) : Runs (exT (vaC k3) (vaR k3) (vaSt 8) (va7 w bs mask bit v ms) m) ((.ret (.tup [(madeZ v mask (topEn S64A S64B)).av, .lst ms]), va7 w bs mask bit v ms), m) :=
 Runs.by [] (vs8P mask v ∧ True) (by kernel_rfl) (by kernel_rfl) ⟨h, trivial⟩
end
noncomputable def compPart : Stmt → Option ((Expr × Str) × (List Expr × Scope))
 | .Assign [_] (.ListComp elt [⟨.Name x _, iter, ifs, 0⟩] S _) _ => some ((elt, x), (ifs, S))
 | _ => none
noncomputable def mbrL (k3 : Int) (v mask : Int) (xs : List AV) (m : Mem) : T (List AV × Mem) := match compPart (vaSt 7) with
 | some ((elt, x), (ifs, S)) => compL (vaR k3) (relabelS S (vaC k3).scope) x ifs elt (freeLo S (va6 0 [] mask 0 v)) xs m
 | none => .stuck "members"
section
variable (k3 v mask : Int) (m : Mem)
theorem mbrL_nil : mbrL k3 v mask [] m = .leaf ([], m) := by kernel_rfl
theorem mbrL_cons (i : Int) (xs : List AV) : mbrL k3 v mask (.int i :: xs) m = .ite (Builtin.bitAnd i (Builtin.bitNot mask) == 0) ((mbrL k3 v mask xs m).bind fun r => .leaf (.int (v + i) :: r.1, r.2)) (mbrL k3 v mask xs m) := by kernel_rfl
theorem mbrL_runs : ∀ xs : List Int, Runs (mbrL k3 v mask (xs.map .int) m) (((xs.filter fun i => Builtin.bitAnd i (Builtin.bitNot mask) == 0).map fun i => AV.int (v + i)), m)
 | [] => ⟨fun K KX k => by rw [show mbrL k3 v mask (([] : List Int).map .int) m = .leaf ([], m) from mbrL_nil ..]; exact k⟩
 | i :: xs => ⟨fun K KX k => by
  rw [show mbrL k3 v mask ((i :: xs).map .int) m = _ from mbrL_cons k3 v mask m i (xs.map .int)]
  refine ⟨fun h => T.all_bind.mpr ((mbrL_runs xs).all _ _ ?_), fun h => (mbrL_runs xs).all _ _ ?_⟩
  ·rw [List.filter_cons, if_pos h] at k; exact k
  ·rw [List.filter_cons, if_neg (by rw [h]; decide)] at k; exact k⟩
theorem vs7_eq (w : Int) (bs : List AV) (bit : Int) : exT (vaC k3) (vaR k3) (vaSt 7) (va6 w bs mask bit v) m =
  (T.req (rngG (mask + 1)) (mbrL k3 v mask ((List.range (mask + 1 - 0).toNat).map fun (i : Nat) => .int (0 + i)) m).quiet).bind fun r => .leaf ((.next, va7 w bs mask bit v r.1), r.2) := by kernel_rfl
theorem vs7 (w : Int) (bs : List AV) (bit : Int) (h : 0 ≤ mask + 1 ∧ mask + 1 ≤ 1000) : Runs (exT (vaC k3) (vaR k3) (vaSt 7) (va6 w bs mask bit v) m) ((.next, va7 w bs mask bit v ((memsOf v mask).map .int)), m) :=
 ⟨fun K KX k => by
  rw [vs7_eq]
  refine T.all_bind.mpr ⟨⟨rfl, h⟩, T.all_quiet ?_⟩
  have e : ((List.range (mask + 1 - 0).toNat).map fun (i : Nat) => AV.int (0 + i)) = ((List.range (mask + 1 - 0).toNat).map fun (i : Nat) => (0 : Int) + i).map .int := by rw [List.map_map]; rfl
  rw [e]
  refine (mbrL_runs k3 v mask m _).all _ _ ?_
  have e2 : (memsOf v mask).map AV.int = (((List.range (mask + 1 - 0).toNat).map fun (i : Nat) => (0 : Int) + i).filter fun i => Builtin.bitAnd i (Builtin.bitNot mask) == 0).map fun i => AV.int (v + i) := by unfold memsOf; rw [List.map_map]; rfl
  rw [e2] at k
  exact k⟩
end
structure VarG (p : Pen) : Prop where
 g : PenG p (2 ^ 50 - 100)
 mask : ∀ k, 1 ≤ k → k ≤ 3 → 0 ≤ orAll (Pen.bits k ((p.next 4).next 3)).1 + 1 ∧ orAll (Pen.bits k ((p.next 4).next 3)).1 + 1 ≤ 1000
 ok : p.var.ok
theorem shl1 : (1 : Int).natAbs < 2 ^ 1000 := by decide +kernel
theorem PenG.sh {p : Pen} {b : Int} (g : PenG p b) : shG p := ⟨(draw_range p (by decide : (0:Int) < 6)).1, by have := (draw_range p (by decide : (0:Int) < 6)).2; lia, shl1⟩
theorem PenG.dr {p : Pen} {b : Int} (g : PenG p b) (h : b ≤ 2 ^ 50) {n : Int} (h1 : 0 < n) (h2 : n < 1073741824) : drG p n := ⟨g.le h, h1, h2⟩
theorem va_tail (k3 w : Int) (bs : List AV) (mask bit : Int) (p : Pen) (h : drG p 200) (h1 : drG (p.next 200) 2) (hm : 0 ≤ mask + 1 ∧ mask + 1 ≤ 1000) (ok : madeOK (p.val mask) mask (topEn S64A S64B)) :
  Runs (exsT (vaC k3) (vaR k3) [vaSt 6, vaSt 7, vaSt 8] (va5 w bs mask bit) [p.mo]) ((.ret (.tup [(madeZ (p.val mask) mask (topEn S64A S64B)).av, .lst ((memsOf (p.val mask) mask).map .int)]), va7 w bs mask bit (p.val mask) ((memsOf (p.val mask) mask).map .int)), [((p.next 200).next 2).mo]) :=
 (vs6 k3 w bs mask bit p h h1).cons ((vs7 k3 (p.val mask) mask _ w bs bit hm).cons (vs8 k3 w bs mask bit (p.val mask) _ _ ok).ret)
theorem va_low (p : Pen) (h4 : drG p 4) (h1 : (p.draw 4 == 0) = false) (h2 : decide (p.draw 4 < 3) = false) (k3 : Int) {x : (Fl × Lo) × Mem} (h : Runs (exsT (vaC k3) (vaR k3) [vaSt 3, vaSt 4, vaSt 5, vaSt 6, vaSt 7, vaSt 8] (va1 (p.draw 4)) [(p.next 4).mo]) x) :
  Runs (exsT (vaC k3) (vaR k3) (fdBody d_law_varied.st) va0 [p.mo]) x := by
 rw [va_body]
 exact (vs0 k3 p h4).cons ((vs1f k3 _ _ h1).cons ((vs2f k3 _ _ h2).cons h))
theorem var_runs3 (p : Pen) (G : VarG p) (h1 : (p.draw 4 == 0) = false) (h2 : decide (p.draw 4 < 3) = false) : ∃ k3 v0, Runs (bodyT (cfg (vaFs k3) []) 19 d_law_varied.st va0 [p.mo]) (v0, [p.var.p.mo]) ∧ Cv v0 (.tup [p.var.s.av, .ints p.var.zs]) := by
 have e : p.var = (p.next 4).var3 := by unfold Pen.var; rw [h1, h2]
 have ok := G.ok
 have hm := G.mask
 rw [e] at ok ⊢
 have g := G.g
 have g1 := g.next 4
 have g2 := g1.next 3
 have g3 := g2.next 6
 have g4 := g3.next 6
 have g5 := g4.next 6
 have h4 := g.dr (by simp_all) (show (0 : Int) < 4 by simp_all) (by simp_all)
 have d3 := g1.dr (by simp_all) (show (0 : Int) < 3 by simp_all) (by simp_all)
 have a1 := g2.dr (by simp_all) (show (0 : Int) < 6 by simp_all) (by simp_all)
 have a2 := g3.dr (by simp_all) (show (0 : Int) < 6 by simp_all) (by simp_all)
 have a3 := g4.dr (by simp_all) (show (0 : Int) < 6 by simp_all) (by simp_all)
 have r := draw_range (p.next 4) (show (0 : Int) < 3 by simp_all)
 generalize hp : p.next 4 = q at *
 have kk : q.draw 3 = 0 ∨ q.draw 3 = 1 ∨ q.draw 3 = 2 := by lia
 rcases kk with k | k | k
 ·have ev : q.var3 = (let bs := Pen.bits 1 (q.next 3); let mask := orAll bs.1; ⟨madeZ (bs.2.val mask) mask (topEn S64A S64B), memsOf (bs.2.val mask) mask, (bs.2.next 200).next 2, madeOK (bs.2.val mask) mask (topEn S64A S64B)⟩ : Var) := by unfold Pen.var3; rw [k]; rfl
  rw [ev] at ok ⊢
  have b := va_tail 0 (p.draw 4) [.int (q.next 3).bit] _ (q.next 3).bit ((q.next 3).next 6) (g3.dr (by simp_all) (by simp_all) (by simp_all)) ((g3.next 200).dr (by simp_all) (by simp_all) (by simp_all)) (hm 1 (by simp_all) (by simp_all)) ok
  have f := va_low p h4 h1 h2 0 (hp ▸ (vs3a q _ ⟨d3, k⟩ ⟨a1, g2.sh⟩).cons ((vs4 0 _ _ _).cons ((vs5a 0 _ _ _).cons b)))
  subst hp
  exact ⟨0, _, Runs.body f, .pair (.ints _)⟩
 ·have ev : q.var3 = (let bs := Pen.bits 2 (q.next 3); let mask := orAll bs.1; ⟨madeZ (bs.2.val mask) mask (topEn S64A S64B), memsOf (bs.2.val mask) mask, (bs.2.next 200).next 2, madeOK (bs.2.val mask) mask (topEn S64A S64B)⟩ : Var) := by unfold Pen.var3; rw [k]; rfl
  rw [ev] at ok ⊢
  have b := va_tail 1 (p.draw 4) [.int (q.next 3).bit, .int ((q.next 3).next 6).bit] _ ((q.next 3).next 6).bit (((q.next 3).next 6).next 6) (g4.dr (by simp_all) (by simp_all) (by simp_all)) ((g4.next 200).dr (by simp_all) (by simp_all) (by simp_all)) (hm 2 (by simp_all) (by simp_all)) ok
  have f := va_low p h4 h1 h2 1 (hp ▸ (vs3b q _ ⟨d3, k⟩ ⟨a1, g2.sh⟩ ⟨a2, g3.sh⟩).cons ((vs4 1 _ _ _).cons ((vs5b 1 _ _ _ _).cons b)))
  subst hp
  exact ⟨1, _, Runs.body f, .pair (.ints _)⟩
 ·have ev : q.var3 = (let bs := Pen.bits 3 (q.next 3); let mask := orAll bs.1; ⟨madeZ (bs.2.val mask) mask (topEn S64A S64B), memsOf (bs.2.val mask) mask, (bs.2.next 200).next 2, madeOK (bs.2.val mask) mask (topEn S64A S64B)⟩ : Var) := by unfold Pen.var3; rw [k]; rfl
  rw [ev] at ok ⊢
  have b := va_tail 2 (p.draw 4) [.int (q.next 3).bit, .int ((q.next 3).next 6).bit, .int (((q.next 3).next 6).next 6).bit] _ (((q.next 3).next 6).next 6).bit ((((q.next 3).next 6).next 6).next 6) (g5.dr (by simp_all) (by simp_all) (by simp_all)) ((g5.next 200).dr (by simp_all) (by simp_all) (by simp_all)) (hm 3 (by simp_all) (by simp_all)) ok
  have f := va_low p h4 h1 h2 2 (hp ▸ (vs3c q _ ⟨d3, k⟩ ⟨a1, g2.sh⟩ ⟨a2, g3.sh⟩ ⟨a3, g4.sh⟩).cons ((vs4 2 _ _ _).cons ((vs5c 2 _ _ _ _ _).cons b)))
  subst hp
  exact ⟨2, _, Runs.body f, .pair (.ints _)⟩
theorem va_any {k3 : Int} {lo : Lo} {m : Mem} {x : (Fl × Lo) × Mem} (h : Runs (exsT (vaC k3) (vaR k3) [vaSt 0, vaSt 1, vaSt 2, vaSt 3, vaSt 4, vaSt 5, vaSt 6, vaSt 7, vaSt 8] lo m) x) : Runs (exsT (vaC k3) (vaR k3) (fdBody d_law_varied.st) lo m) x := by
 rw [va_body]; exact h
theorem var_runs (p : Pen) (G : VarG p) : ∃ k3 v0, Runs (bodyT (cfg (vaFs k3) []) 19 d_law_varied.st va0 [p.mo]) (v0, [p.var.p.mo]) ∧ Cv v0 (.tup [p.var.s.av, .ints p.var.zs]) := by
 cases h1 : p.draw 4 == 0 with
 | true =>
  have e : p.var = (p.next 4).var0 := by unfold Pen.var; rw [h1]
  rw [e]
  have f := va_any ((vs0 0 p (G.g.dr (by simp_all) (by simp_all) (by simp_all))).cons (vs1t 0 _ _ ⟨h1, (G.g.next 4).le (by simp_all)⟩).ret)
  exact ⟨0, _, Runs.body f, .pair (.ints [_])⟩
 | false =>
  cases h2 : decide (p.draw 4 < 3) with
  | false => exact var_runs3 p G h1 h2
  | true =>
   have e : p.var = (p.next 4).var1 := by unfold Pen.var; rw [h1, h2]
   have ok := G.ok
   rw [e] at ok ⊢
   have f := va_any ((vs0 0 p (G.g.dr (by simp_all) (by simp_all) (by simp_all))).cons ((vs1f 0 _ _ h1).cons (vs2t 0 _ _ h2 ((G.g.next 4).le (by simp_all)) ((G.g.next 4).whole.dr (by simp_all) (by simp_all) (by simp_all)) ok).ret))
   exact ⟨0, _, Runs.body f, .pair (.ints [_, _, _])⟩
section
variable {c : Cx} {n : Nat}
theorem vaFs_ok (O : ObjInt c) (k3 : Int) : ∀ p ∈ vaFs k3, FnOK c 7 p.1.val p.2 :=
 mem1 ((drawK_ok O k3 : FnOK c 7 _ _)) (mem1 ((whole_ok O : FnOK c 7 _ _)) (mem1 ((sconst_ok O).le (by decide)) (mem1 (with2_ok O) (mem1 (ofb2_ok O) (mem1 ((tnum_ok O : FnOK c 7 _ _)) (mem1 range_ok mem0))))))
noncomputable def variedS : FSem := fun args m => match penA args, penOf m with
 | true, some p => .req (VarG p) (.leaf (.tup [p.var.s.av, .ints p.var.zs], [p.var.p.mo]))
 | _, _ => .stuck "_law_varied"
theorem varied_ok (O : ObjInt c) : FnOK c 8 (.ref 943) variedS := d_law_varied.runC d_law_varied_ok O 19 variedS (S "pen") d_law_varied_b (by kernel_rfl) (by kernel_rfl) (by kernel_rfl) (by kernel_rfl) (by kernel_rfl) fun args m => by
 unfold variedS; split
 ·rename_i p h1 h2
  refine .inr ⟨_, _, _, _, penA_eq h1, rfl, fun g => ?_⟩
  rw [penOf_some h2]
  obtain ⟨k3, v0, r, cv⟩ := var_runs p g
  exact ⟨vaFs k3, [], v0, vaFs_ok O k3, r, cv⟩
 ·exact .inl no_stuck
noncomputable def variedF : FK × FSem := (.ref 943, variedS)
end
end
section
open PySem
noncomputable abbrev W64 : Int := 18446744073709551616
noncomputable def ZS (zs : List Int) : Int → Prop := fun z => ∃ u ∈ zs, z = u % W64
structure Hold (s : Sc) (zs : List Int) (B : Int) : Prop where
 good : Good (ZS zs) s.v s.w s.x
 ne : zs ≠ []
 lo : s.x.d = minL zs
 hi : s.x.e = maxL zs
 one : s.w = 0 → ∃ z, zs = [z] ∧ s.v = z % W64
 many : s.w ≠ 0 → 2 ≤ zs.length
 bnd : ∀ u ∈ zs, -B ≤ u ∧ u ≤ B
 len : zs.length ≤ 100
theorem e64 : (2 : Int) ^ 64 = W64 := by decide
theorem sgn_small {u : Int} (h0 : -9223372036854775808 ≤ u) (h1 : u < 9223372036854775808) : sgnZ 64 (u % W64) = u := by
 rw [sgn64_num]
 have e : u % W64 % 18446744073709551616 = u % 18446744073709551616 := by show u % 18446744073709551616 % 18446744073709551616 = _; simp_all
 rw [e]; split <;> lia
theorem gam_wrap (a : Int) : gam (wrapZ 64 a) 0 (a % W64) := by
 rw [wrap64, e64]; exact gam_const _
theorem sgn32_bnd (z : Int) : -2147483648 ≤ sgnZ 32 z ∧ sgnZ 32 z ≤ 2147483647 := by rw [sgn32_num]; split <;> lia
theorem sgn64_bnd (z : Int) : -9223372036854775808 ≤ sgnZ 64 z ∧ sgnZ 64 z < 9223372036854775808 := by rw [sgn64_num]; split <;> lia
theorem em0 (u : Int) : 0 ≤ u % W64 := Int.emod_nonneg u (by decide)
theorem em1 (u : Int) : u % W64 < W64 := Int.emod_lt_of_pos u (by decide)
theorem em2 (u : Int) : 0 ≤ u % 4294967296 := Int.emod_nonneg u (by decide)
theorem em3 (u : Int) : u % 4294967296 < 4294967296 := Int.emod_lt_of_pos u (by decide)
theorem em4 (u : Int) : u % W64 % 4294967296 = u % 4294967296 := Int.emod_emod_of_dvd u (by decide)
theorem hold_const {a B : Int} (h : -B ≤ a ∧ a ≤ B) (hB : B < 9223372036854775808) : Hold (.const a) [a] B where
 good := by
  have w1 : wrapZ 64 a = a % W64 := wrap64_num a
  have w2 : wrapZ 32 a = a % 4294967296 := wrap32_num a
  have h0 : -9223372036854775808 ≤ a := by lia
  have h1 : a < 9223372036854775808 := by lia
  have s4 : sgnZ 64 (a % W64) = a := sgn_small h0 h1
  have s1 : sgnZ 64 (wrapZ 64 a) = a := by rw [w1]; exact s4
  have s2 : sgnZ 32 (wrapZ 32 a) = sgnZ 32 a := sgn32_wrap a
  have m2 : sgnZ 32 (a % W64) = sgnZ 32 a := by rw [sgn32_num, sgn32_num, em4]
  have e1 : wrapZ 32 a = a % W64 % 4294967296 := by rw [w2, em4]
  have n0 : 0 ≤ wrapZ 64 a := w1 ▸ em0 a
  have n1 : wrapZ 64 a < 18446744073709551616 := w1 ▸ em1 a
  have n2 : 0 ≤ wrapZ 32 a := w2 ▸ em2 a
  have n3 : wrapZ 32 a < 4294967296 := w2 ▸ em3 a
  have b1 := sgn32_bnd (wrapZ 32 a)
  have b2 := sgn64_bnd (wrapZ 64 a)
  refine ⟨n0, Int.le_refl _, ⟨n0, n1, b2.1, b2.2, n2, n3, b1.1, Int.lt_of_le_of_lt b1.2 (by decide)⟩, ?_⟩
  rintro z ⟨u, hu, rfl⟩
  rw [List.mem_singleton] at hu
  subst hu
  exact ⟨em0 u, em1 u, gam_wrap u, Int.le_of_eq w1, Int.le_of_eq w1.symm, Int.le_of_eq (s1.trans s4.symm), Int.le_of_eq (s4.trans s1.symm), Int.le_of_eq e1, Int.le_of_eq e1.symm, Int.le_of_eq (s2.trans m2.symm), Int.le_of_eq (m2.trans s2.symm)⟩
 ne := by simp
 lo := by show sgnZ 64 (wrapZ 64 a) = a; rw [wrap64_num]; exact sgn_small (by lia) (by lia)
 hi := by show sgnZ 64 (wrapZ 64 a) = a; rw [wrap64_num]; exact sgn_small (by lia) (by lia)
 one := fun _ => ⟨a, rfl, wrap64_num a⟩
 many := fun h => absurd rfl h
 bnd := fun u hu => by rw [List.mem_singleton.mp hu]; exact h
 len := by simp
theorem good_top {v w a b : Int} {zs : List Int} (hv : 0 ≤ v) (hw : 0 ≤ w) (ha : -9223372036854775808 ≤ a) (hb : b < 9223372036854775808) (h : ∀ u ∈ zs, gam v w (u % W64) ∧ a ≤ u ∧ u ≤ b) : Good (ZS zs) v w (topEn a b) := by
 refine ⟨hv, hw, ⟨Int.le_refl 0, (by decide : (18446744073709551615 : Int) < 18446744073709551616), ha, hb, Int.le_refl 0, (by decide : (4294967295 : Int) < 4294967296), Int.le_refl (-2147483648), (by decide : (2147483647 : Int) < 2147483648)⟩, ?_⟩
 rintro z ⟨u, hu, rfl⟩
 obtain ⟨g, h1, h2⟩ := h u hu
 have s4 : sgnZ 64 (u % W64) = u := sgn_small (Int.le_trans ha h1) (Int.lt_of_le_of_lt h2 hb)
 obtain ⟨b1, b2⟩ := sgn32_bnd (u % W64)
 exact ⟨em0 u, em1 u, g, em0 u, Int.le_of_lt_add_one (em1 u), s4.symm ▸ h1, s4.symm ▸ h2, em2 _, Int.le_of_lt_add_one (em3 _), b1, b2⟩
theorem two_free {v z1 z2 : Int} (h1 : 0 ≤ z1) (h2 : 0 ≤ z2) (g1 : gam v 0 z1) (g2 : gam v 0 z2) : z1 = z2 := eq_of_tb h1 h2 fun i => by
 have a := g1 i
 have b := g2 i
 rw [tb_zero] at a b
 simp at a b
 rw [← a, ← b]
theorem hold_made {s : Sc} {zs : List Int} {a b B u1 u2 : Int} (G : Good (ZS zs) s.v s.w s.x) (hd : a ≤ s.x.d) (he : s.x.e ≤ b) (ha : a = minL zs) (hb : b = maxL zs) (m1 : u1 ∈ zs) (m2 : u2 ∈ zs) (hne : u1 ≠ u2)
  (bnd : ∀ u ∈ zs, -B ≤ u ∧ u ≤ B) (hB : B < 9223372036854775808) (len : zs.length ≤ 100) : Hold s zs B where
 good := G
 ne := fun h => by rw [h] at m1; cases m1
 lo := by
  obtain ⟨q1, q2⟩ := minL_spec (xs := zs) (fun h => by rw [h] at m1; cases m1)
  have := (G.mem _ ⟨_, q1, rfl⟩).d
  obtain ⟨b1, b2⟩ := bnd _ q1
  rw [sgn_small (by lia) (by lia)] at this
  lia
 hi := by
  obtain ⟨q1, q2⟩ := maxL_spec (xs := zs) (fun h => by rw [h] at m1; cases m1)
  have := (G.mem _ ⟨_, q1, rfl⟩).e
  obtain ⟨b1, b2⟩ := bnd _ q1
  rw [sgn_small (by lia) (by lia)] at this
  lia
 one := fun h => by
  have M1 := G.mem _ ⟨_, m1, rfl⟩
  have M2 := G.mem _ ⟨_, m2, rfl⟩
  have g1 := M1.g
  have g2 := M2.g
  rw [h] at g1 g2
  have e := two_free M1.z0 M2.z0 g1 g2
  have b1 := bnd _ m1
  have b2 := bnd _ m2
  have s1 := sgn_small (u := u1) (by lia) (by lia)
  rw [e, sgn_small (by lia) (by lia)] at s1
  exact absurd s1.symm hne
 many := fun _ => by
  match zs, m1, m2 with
  | [x], m1, m2 => exact absurd ((List.mem_singleton.mp m1).trans (List.mem_singleton.mp m2).symm) hne
  | _ :: _ :: _, _, _ => simp
 bnd := bnd
 len := len
theorem gam_any {z : Int} (h0 : 0 ≤ z) (h1 : z < W64) : gam 0 18446744073709551615 z := fun i => by
 rw [tb_zero]
 have e : (18446744073709551615 : Int) = 2 ^ 64 - 1 := by decide
 rw [e, tb_ones]
 by_cases h : i < 64
 ·rw [decide_eq_true h]; simp
 ·rw [tb_high (k := 64) h0 (by rw [e64]; exact h1) (by simp_all)]; rfl
theorem hold_var1 {a b m B : Int} (h : a < b) (hm : a ≤ m ∧ m ≤ b) (h0 : -B ≤ a) (h1 : b ≤ B) (hB : B < 9223372036854775808) : madeOK 0 18446744073709551615 (topEn a b) ∧ Hold (madeZ 0 18446744073709551615 (topEn a b)) [a, m, b] B := by
 have mem : ∀ u ∈ [a, m, b], a ≤ u ∧ u ≤ b := fun u hu => by
  rcases List.mem_cons.mp hu with rfl | hu
  ·lia
  ·rcases List.mem_cons.mp hu with rfl | hu
   ·omega
   ·rw [List.mem_singleton.mp hu]; lia
 have G : Good (ZS [a, m, b]) 0 18446744073709551615 (topEn a b) := good_top (by simp_all) (by simp_all) (by lia) (by lia) fun u hu => ⟨gam_any (by show 0 ≤ u % 18446744073709551616; lia) (by show u % 18446744073709551616 < 18446744073709551616; lia), mem u hu⟩
 obtain ⟨ok, g, r⟩ := made_good ⟨_, a, .head _, rfl⟩ G
 refine ⟨ok, hold_made (a := a) (b := b) (u1 := a) (u2 := b) g r.d r.e ?_ ?_ (.head _) (.tail _ (.tail _ (.head _))) (by lia) (fun u hu => by have := mem u hu; lia) hB (by simp)⟩
 ·show a = min a (min m b); lia
 ·show b = max a (max m b); lia
end
section
open PySem
theorem tb_foldl : ∀ (bs : List Int) (a : Int) (i : Nat), tb (bs.foldl Builtin.bitOr a) i = (tb a i || bs.any fun b => tb b i)
 | [], a, i => by simp
 | b :: bs, a, i => by
  rw [List.foldl_cons, tb_foldl bs, tb_or, List.any_cons, Bool.or_assoc]
theorem nn_foldl : ∀ (bs : List Int) (a : Int), 0 ≤ a → (∀ b ∈ bs, 0 ≤ b) → 0 ≤ bs.foldl Builtin.bitOr a
 | [], a, h, _ => h
 | b :: bs, a, h, hb => by
  rw [List.foldl_cons]
  exact nn_foldl bs _ (or_nonneg h (hb b (.head _))) fun x hx => hb x (.tail _ hx)
noncomputable def Bits6 (bs : List Int) : Prop := ∀ b ∈ bs, ∃ j : Nat, j < 6 ∧ b = 2 ^ j
theorem orAll_bnd {bs : List Int} (h : Bits6 bs) : 0 ≤ orAll bs ∧ orAll bs < 64 := by
 have h0 : 0 ≤ orAll bs := nn_foldl bs 0 (by simp_all) fun b hb => by
  obtain ⟨j, _, rfl⟩ := h b hb
  exact Int.le_of_lt (p2 j)
 refine ⟨h0, ?_⟩
 have e : (64 : Int) = 2 ^ 6 := by decide
 rw [e]
 refine lt_of_tb h0 fun i hi => ?_
 show tb (bs.foldl Builtin.bitOr 0) i = false
 rw [tb_foldl, tb_zero, Bool.false_or, List.any_eq_false]
 intro b hb
 obtain ⟨j, hj, rfl⟩ := h b hb
 rw [tb_pow]
 simp; lia
theorem orAll_ne {bs : List Int} (h : Bits6 bs) (hn : bs ≠ []) : orAll bs ≠ 0 := by
 intro e
 match bs, hn, h, e with
 | b :: r, _, h, e =>
  obtain ⟨j, hj, hb⟩ := h b (.head _)
  have : tb (orAll (b :: r)) j = true := by
   show tb ((b :: r).foldl Builtin.bitOr 0) j = true
   rw [tb_foldl, List.any_cons, hb, tb_pow]; simp
  rw [e, tb_zero] at this; cases this
theorem bits_six : ∀ (k : Nat) (p : Pen), Bits6 (Pen.bits k p).1
 | 0, p => fun b hb => by cases hb
 | k + 1, p => fun b hb => by
  rcases List.mem_cons.mp hb with rfl | hb
  ·obtain ⟨h1, h2⟩ := draw_range p (show (0 : Int) < 6 by simp_all)
   exact ⟨(p.draw 6).toNat, by simp_all, by unfold Pen.bit; rw [Int.one_mul]⟩
  ·exact bits_six k (p.next 6) b hb
theorem bits_ne (k : Nat) (p : Pen) (h : 1 ≤ k) : (Pen.bits k p).1 ≠ [] := by
 match k, h with
 | k + 1, _ => exact fun e => by cases e
theorem PenG.bits {b : Int} : ∀ (k : Nat) {p : Pen}, PenG p b → PenG (Pen.bits k p).2 (b + k)
 | 0, p, g => g.le (by simp_all)
 | k + 1, p, g => (PenG.bits k (g.next 6)).le (by lia)
theorem mems_mem {v m u : Int} : u ∈ memsOf v m ↔ ∃ i : Nat, (i : Int) < m + 1 ∧ Builtin.bitAnd i (Builtin.bitNot m) = 0 ∧ u = v + i := by
 unfold memsOf
 simp only [List.mem_map, List.mem_filter, List.mem_range, beq_iff_eq]
 constructor
 ·rintro ⟨a, ⟨⟨i, hi, rfl⟩, h⟩, rfl⟩
  exact ⟨i, by simp_all, by rw [Int.zero_add] at h; exact h, by rw [Int.zero_add]⟩
 ·rintro ⟨i, hi, h, rfl⟩
  exact ⟨0 + (i : Int), ⟨⟨i, by simp_all, rfl⟩, by rw [Int.zero_add]; exact h⟩, by rw [Int.zero_add]⟩
theorem tb_bnot (x : Int) (i : Nat) : tb (Builtin.bitNot x) i = !tb x i := tb_not x i
theorem part_sub {m : Int} {i : Nat} (h : Builtin.bitAnd i (Builtin.bitNot m) = 0) (j : Nat) (q : tb i j = true) : tb m j = true := by
 have : tb (Builtin.bitAnd i (Builtin.bitNot m)) j = false := by rw [h, tb_zero]
 rw [tb_and, tb_bnot, q] at this
 simpa using this
theorem val_low (p : Pen) {m : Int} (h0 : 0 ≤ m) : 0 ≤ p.val m ∧ p.val m < 262144 ∧ ∀ j, tb (p.val m) j = true → tb m j = false := by
 obtain ⟨a1, a2⟩ := draw_range p (show (0 : Int) < 200 by simp_all)
 obtain ⟨b1, b2⟩ := draw_range (p.next 200) (show (0 : Int) < 2 by simp_all)
 have x0 : 0 ≤ p.draw 200 + 65536 * (p.next 200).draw 2 := by lia
 have v0 : 0 ≤ p.val m := and_nonneg' x0
 have le : p.val m ≤ p.draw 200 + 65536 * (p.next 200).draw 2 := le_of_tb v0 x0 fun i q => by
  unfold Pen.val at q; rw [tb_and] at q; simp at q; exact q.1
 refine ⟨v0, by lia, fun j q => ?_⟩
 unfold Pen.val at q; rw [tb_and, tb_bnot] at q; simp at q; exact q.2
theorem hold_var3 {v m : Int} (hv : 0 ≤ v) (hv1 : v < 262144) (hm : 0 ≤ m) (hm1 : m < 64) (hne : m ≠ 0) (dis : ∀ j, tb v j = true → tb m j = false) {B : Int} (hB0 : 300000 ≤ B) (hB : B < 9223372036854775808) :
  madeOK v m (topEn S64A S64B) ∧ Hold (madeZ v m (topEn S64A S64B)) (memsOf v m) B := by
 have mem : ∀ u ∈ memsOf v m, v ≤ u ∧ u ≤ v + m := fun u hu => by
  obtain ⟨i, h1, h2, rfl⟩ := mems_mem.mp hu
  lia
 have g : ∀ u ∈ memsOf v m, gam v m (u % W64) := fun u hu => by
  obtain ⟨i, h1, h2, rfl⟩ := mems_mem.mp hu
  have e : (v + (i : Int)) % W64 = v + i := Int.emod_eq_of_lt (by lia) (by show _ < 18446744073709551616; lia)
  rw [e]
  intro j
  have d := part_sub h2 j
  have q := dis j
  rw [tb_disj (fun k hk => by
   cases hv : tb v k with
   | false => rfl
   | true =>
    have a := dis k hv
    rw [part_sub h2 k hk] at a; cases a) j]
  cases h3 : tb v j with
  | true => rw [q h3]; rfl
  | false =>
   cases h4 : tb (i : Int) j with
   | false => rfl
   | true => rw [d h4]; rfl
 have G : Good (ZS (memsOf v m)) v m (topEn S64A S64B) := good_top hv hm (by unfold S64A; simp_all) (by unfold S64B; simp_all) fun u hu => ⟨g u hu, by have := mem u hu; unfold S64A; lia, by have := mem u hu; unfold S64B; lia⟩
 have m1 : v ∈ memsOf v m := mems_mem.mpr ⟨0, by lia, by
  refine eq_of_tb (and_nonneg' (by simp_all)) (by simp_all) fun i => by
   rw [tb_and, show ((0 : Nat) : Int) = 0 from rfl, tb_zero, Bool.false_and], by simp_all⟩
 have m2 : v + m ∈ memsOf v m := mems_mem.mpr ⟨m.toNat, by lia, by
  rw [Int.toNat_of_nonneg hm]
  refine eq_of_tb (and_nonneg' (by omega)) (by simp_all) fun i => by
   rw [tb_and, tb_bnot, tb_zero]; cases tb m i <;> rfl, by rw [Int.toNat_of_nonneg hm]⟩
 obtain ⟨ok, g', r⟩ := made_good2 ⟨_, v, m1, rfl⟩ G
 have hL : Builtin.bitOr v (Builtin.bitAnd m (2 ^ 63)) = v := by
  have : Builtin.bitAnd m (2 ^ 63) = 0 := eq_of_tb (and_nonneg' hm) (by simp_all) fun i => by
   rw [tb_and, tb_pow, tb_zero]
   by_cases h : i = 63
   ·rw [tb_high (k := 6) hm (by simp_all) (by simp_all)]; rfl
   ·rw [decide_eq_false h, Bool.and_false]
  rw [this]
  exact eq_of_tb (or_nonneg hv (by simp_all)) hv fun i => by rw [tb_or, tb_zero, Bool.or_false]
 have hR : Builtin.bitOr v (Builtin.bitAnd m (2 ^ 63 - 1)) = v + m := by
  refine eq_of_tb (or_nonneg hv (and_nonneg' hm)) (by lia) fun i => ?_
  rw [tb_or, tb_and, tb_ones, tb_disj (fun k hk => by
   cases hv : tb v k with
   | false => rfl
   | true => rw [dis k hv] at hk; cases hk) i]
  by_cases h : i < 63
  ·rw [decide_eq_true h, Bool.and_true]
  ·rw [tb_high (k := 6) hm (by simp_all) (by lia)]; rfl
 have s1 : sleastZ 64 v m = v := by
  show sgnZ 64 (Builtin.bitOr v (Builtin.bitAnd m (2 ^ 63))) = v
  rw [hL, sgn64_num]; split <;> lia
 have s2 : smostZ 64 v m = v + m := by
  show sgnZ 64 (Builtin.bitOr v (Builtin.bitAnd m (2 ^ 63 - 1))) = v + m
  rw [hR, sgn64_num]; split <;> lia
 have r1 : v ≤ (madeZ v m (topEn S64A S64B)).x.d := by
  have := r.d
  have e : (bitsE v m (topEn S64A S64B)).d = max S64A (sleastZ 64 v m) := rfl
  rw [e, s1] at this; lia
 have r2 : (madeZ v m (topEn S64A S64B)).x.e ≤ v + m := by
  have := r.e
  have e : (bitsE v m (topEn S64A S64B)).e = min S64B (smostZ 64 v m) := rfl
  rw [e, s2] at this; lia
 have ne : memsOf v m ≠ [] := fun h => by rw [h] at m1; cases m1
 obtain ⟨l1, l2⟩ := minL_spec ne
 obtain ⟨l3, l4⟩ := maxL_spec ne
 refine ⟨ok, hold_made (a := v) (b := v + m) g' r1 r2 ?_ ?_ m1 m2 (by lia) (fun u hu => by have := mem u hu; lia) hB ?_⟩
 ·have := l2 _ m1; have := mem _ l1; lia
 ·have := l4 _ m2; have := mem _ l3; lia
 ·unfold memsOf
  rw [List.length_map]
  refine Nat.le_trans (List.length_filter_le _ _) ?_
  rw [List.length_map, List.length_range]; lia
end
section
open PySem PySem.W PyProof.Rows PySem.Calls
noncomputable def Pen.kd (p : Pen) : Bool → Str × Pen
 | true => (kinds9.getD ((p.next 3).draw 5).toNat Str.empty, (p.next 3).next 5)
 | false => (kinds9.getD ((p.next 3).draw 9).toNat Str.empty, (p.next 3).next 9)
noncomputable def Pen.of (p : Pen) : Bool → Int
 | true => p.whole.fmod 536870912 * 1
 | false => p.whole.fmod 536870912 * (-1)
noncomputable def kb (k : Str) : Bool := (S "value" == k) || ((S "packet" == k) || ((S "room" == k) || false))
noncomputable def Pen.sc (p : Pen) : Bool → Bool → Var
 | true, true => (p.next 2).var
 | true, false => ⟨.const 0, [0], p.next 2, True⟩
 | false, _ => ⟨.const 0, [0], p, True⟩
structure Ptr where
 r : Rg
 zs : List Int
 p : Pen
noncomputable def Pen.kd1 (p : Pen) : Str × Pen := p.kd (decide (0 < p.draw 3))
noncomputable def Pen.of1 (p : Pen) : Int := p.of (p.whole'.draw 2 == 0)
noncomputable def Pen.sc1 (p : Pen) (k : Str) : Var := p.sc (kb k) (p.draw 2 == 1)
noncomputable def Pen.fin (p : Pen) : Pen := ((((p.next 3).next 2).next 30).next 50).next 2
noncomputable def Pen.reg (p : Pen) (k : Str) (o : Int) (s : Sc) : Rg := ⟨k, o, s, p.draw 3, (p.next 3).draw 2, ((p.next 3).next 2).draw 30, (((p.next 3).next 2).next 30).draw 50, ((((p.next 3).next 2).next 30).next 50).draw 2⟩
noncomputable def Pen.pn (p : Pen) : Pen := p.kd1.2.whole'.next 2
noncomputable def Pen.pv (p : Pen) : Var := p.pn.sc1 p.kd1.1
noncomputable def Pen.ptr (p : Pen) : Ptr := ⟨p.pv.p.reg p.kd1.1 p.kd1.2.of1 p.pv.s, p.pv.zs, p.pv.p.fin⟩
noncomputable def ptFs : List (FK × FSem) := [drawF, lwholeF, lfarF, sconstF, variedF, regF]
noncomputable def ptC : Cfg := { cfg ptFs [] with scope := fdScope d_law_pointer.st }
noncomputable def ptR : Rec := run 18 ptC
noncomputable def ptSt (i : Nat) : Stmt := (fdBody d_law_pointer.st).getD i (.Pass default)
theorem pt_body : fdBody d_law_pointer.st = [ptSt 0, ptSt 1, ptSt 2, ptSt 3, ptSt 4] := by kernel_rfl
noncomputable abbrev pl0 : Lo := [(S "pen", .hnd 0)]
noncomputable abbrev pl1 (k : Str) : Lo := pl0 ++ [(S "kind", .str k)]
noncomputable abbrev pl2 (k : Str) (o : Int) : Lo := pl1 k ++ [(S "off", .int o)]
noncomputable abbrev pl3 (k : Str) (o : Int) (ms : AV) (s : Sc) : Lo := pl2 k o ++ [(S "members", ms), (S "scalar", s.av)]
noncomputable abbrev nineG (k : Int) : Prop := 0 ≤ k ∧ k < 9
theorem ps0 (p : Pen) (b : Bool) (hb : decide (0 < p.draw 3) = b) (h : drG p 3) (h5 : drG (p.next 3) 5) (h9 : drG (p.next 3) 9) (r5 : nineG ((p.next 3).draw 5)) (r9 : nineG ((p.next 3).draw 9)) :
  Runs (exT ptC ptR (ptSt 0) pl0 [p.mo]) ((.next, pl1 (p.kd b).1), [(p.kd b).2.mo]) := by
 cases b
 ·exact Runs.by [false] (drG p 3 ∧ decide (0 < p.draw 3) = false ∧ drG (p.next 3) 9 ∧ nineG ((p.next 3).draw 9) ∧ True) (by kernel_rfl) (by kernel_rfl) ⟨h, hb, h9, r9, trivial⟩
 ·exact Runs.by [true] (drG p 3 ∧ decide (0 < p.draw 3) = true ∧ drG (p.next 3) 5 ∧ nineG ((p.next 3).draw 5) ∧ True) (by kernel_rfl) (by kernel_rfl) ⟨h, hb, h5, r5, trivial⟩
noncomputable abbrev mulG (a b : Int) : Prop := Builtin.Int.intBits a ≤ 64 ∨ Builtin.Int.intBits b ≤ 64
theorem ps1 (p : Pen) (k : Str) (b : Bool) (hb : (p.whole'.draw 2 == 0) = b) (h : whG p) (h2 : drG p.whole' 2) :
  Runs (exT ptC ptR (ptSt 1) (pl1 k) [p.mo]) ((.next, pl2 k (p.of b)), [(p.whole'.next 2).mo]) := by
 cases b
 ·exact Runs.by [false] (whG p ∧ True ∧ (536870912 : Int) ≠ 0 ∧ drG p.whole' 2 ∧ (p.whole'.draw 2 == 0) = false ∧ mulG (p.whole.fmod 536870912) (-1) ∧ True) (by kernel_rfl) (by kernel_rfl) ⟨h, trivial, by decide, h2, hb, .inr (by decide +kernel), trivial⟩
 ·exact Runs.by [true] (whG p ∧ True ∧ (536870912 : Int) ≠ 0 ∧ drG p.whole' 2 ∧ (p.whole'.draw 2 == 0) = true ∧ mulG (p.whole.fmod 536870912) 1 ∧ True) (by kernel_rfl) (by kernel_rfl) ⟨h, trivial, by decide, h2, hb, .inr (by decide +kernel), trivial⟩
theorem ps2 (k : Str) (o : Int) (m : Mem) : Runs (exT ptC ptR (ptSt 2) (pl2 k o) m) ((.next, pl3 k o (.lst [.int 0]) (.const 0)), m) :=
 Runs.by [] True (by kernel_rfl) (by kernel_rfl) trivial
theorem ps3f (p : Pen) (k : Str) (o : Int) (ms : AV) (s : Sc) (h : kb k = false) : Runs (exT ptC ptR (ptSt 3) (pl3 k o ms s) [p.mo]) ((.next, pl3 k o ms s), [p.mo]) :=
 Runs.by [false, false] (kb k = false ∧ false = false ∧ True) (by kernel_rfl) (by kernel_rfl) ⟨h, rfl, trivial⟩
theorem ps3n (p : Pen) (k : Str) (o : Int) (ms : AV) (s : Sc) (h : kb k = true) (h2 : drG p 2) (h3 : (p.draw 2 == 1) = false) : Runs (exT ptC ptR (ptSt 3) (pl3 k o ms s) [p.mo]) ((.next, pl3 k o ms s), [(p.next 2).mo]) :=
 Runs.by [true, false, false] (kb k = true ∧ drG p 2 ∧ (p.draw 2 == 1) = false ∧ false = false ∧ True) (by kernel_rfl) (by kernel_rfl) ⟨h, h2, h3, rfl, trivial⟩
theorem ps3t (p : Pen) (k : Str) (o : Int) (ms : AV) (s : Sc) (h : kb k = true) (h2 : drG p 2) (h3 : (p.draw 2 == 1) = true) (g : VarG (p.next 2)) : Runs (exT ptC ptR (ptSt 3) (pl3 k o ms s) [p.mo]) ((.next, pl3 k o (.ints (p.next 2).var.zs) (p.next 2).var.s), [(p.next 2).var.p.mo]) :=
 Runs.by [true, true, true] (kb k = true ∧ drG p 2 ∧ (p.draw 2 == 1) = true ∧ true = true ∧ VarG (p.next 2) ∧ True) (by kernel_rfl) (by kernel_rfl) ⟨h, h2, h3, rfl, g, trivial⟩
noncomputable def p4P (p : Pen) : Prop := drG p 3 ∧ drG (p.next 3) 2 ∧ drG ((p.next 3).next 2) 30 ∧ drG (((p.next 3).next 2).next 30) 50 ∧ drG ((((p.next 3).next 2).next 30).next 50) 2 ∧ True
theorem ps4 (p : Pen) (k : Str) (o : Int) (ms : AV) (s : Sc) (h : p4P p) : Runs (exT ptC ptR (ptSt 4) (pl3 k o ms s) [p.mo]) ((.ret (.tup [(p.reg k o s).av, ms]), pl3 k o ms s), [p.fin.mo]) :=
 Runs.by [] (p4P p) (by kernel_rfl) (by kernel_rfl) h
structure PtrG (p : Pen) : Prop where
 g : PenG p (2 ^ 50 - 1000)
 vg : kb p.kd1.1 = true → (p.pn.draw 2 == 1) = true → VarG (p.pn.next 2)
 pg : PenG p.pv.p (2 ^ 50 - 500)
theorem PenG.kd1 {p : Pen} {b : Int} (g : PenG p b) : PenG p.kd1.2 (b + 2) := by
 unfold Pen.kd1 Pen.kd
 split <;> exact ((g.next 3).next _).le (by lia)
theorem PenG.pn {p : Pen} {b : Int} (g : PenG p b) : PenG p.pn (b + 5) := ((g.kd1.whole).next 2).le (by lia)
theorem pt_any {lo : Lo} {m : Mem} {x : (Fl × Lo) × Mem} (h : Runs (exsT ptC ptR [ptSt 0, ptSt 1, ptSt 2, ptSt 3, ptSt 4] lo m) x) : Runs (exsT ptC ptR (fdBody d_law_pointer.st) lo m) x := by
 rw [pt_body]; exact h
theorem ptr_runs (p : Pen) (G : PtrG p) : ∃ v0, Runs (bodyT (cfg ptFs []) 19 d_law_pointer.st pl0 [p.mo]) (v0, [p.ptr.p.mo]) ∧ Cv v0 (.tup [p.ptr.r.av, .ints p.ptr.zs]) := by
 have g := G.g
 have a0 := ps0 p _ rfl (g.dr (by simp_all) (by simp_all) (by simp_all)) ((g.next 3).dr (by simp_all) (by simp_all) (by simp_all)) ((g.next 3).dr (by simp_all) (by simp_all) (by simp_all))
  (by have := draw_range (p.next 3) (show (0 : Int) < 5 by simp_all); lia) (draw_range (p.next 3) (show (0 : Int) < 9 by simp_all))
 have gk := g.kd1
 have a1 := ps1 p.kd1.2 p.kd1.1 _ rfl (gk.le (by simp_all)) (gk.whole.dr (by simp_all) (by simp_all) (by simp_all))
 have gn := g.pn
 have vg := G.vg
 have pg := G.pg
 unfold Pen.ptr
 have a2 : ∃ ms, Runs (exT ptC ptR (ptSt 3) (pl3 p.kd1.1 p.kd1.2.of1 (.lst [.int 0]) (.const 0)) [p.pn.mo]) ((.next, pl3 p.kd1.1 p.kd1.2.of1 ms p.pv.s), [p.pv.p.mo]) ∧ Cv ms (.ints p.pv.zs) := by
  unfold Pen.pv Pen.sc1 at *
  cases h1 : kb p.kd1.1 with
  | false => exact ⟨_, ps3f p.pn _ _ _ _ h1, .ints [0]⟩
  | true =>
   cases h2 : p.pn.draw 2 == 1 with
   | false => exact ⟨_, ps3n p.pn _ _ _ _ h1 (gn.dr (by simp_all) (by simp_all) (by simp_all)) h2, .ints [0]⟩
   | true => exact ⟨_, ps3t p.pn _ _ _ _ h1 (gn.dr (by simp_all) (by simp_all) (by simp_all)) h2 (vg h1 h2), .refl _⟩
 obtain ⟨ms, a2, cv⟩ := a2
 generalize p.pv = v at *
 have a3 := ps4 v.p p.kd1.1 p.kd1.2.of1 ms v.s ⟨pg.dr (by simp_all) (by simp_all) (by simp_all), (pg.next _).dr (by simp_all) (by simp_all) (by simp_all), ((pg.next _).next _).dr (by simp_all) (by simp_all) (by simp_all), (((pg.next _).next _).next _).dr (by simp_all) (by simp_all) (by simp_all), ((((pg.next _).next _).next _).next _).dr (by simp_all) (by simp_all) (by simp_all), trivial⟩
 have f := pt_any (a0.cons (a1.cons ((ps2 _ _ _).cons (a2.cons a3.ret))))
 exact ⟨_, Runs.body f, .pair cv⟩
section
variable {c : Cx} {n : Nat}
theorem ptFs_ok (O : ObjInt c) : ∀ p ∈ ptFs, FnOK c 8 p.1.val p.2 :=
 mem1 ((draw_ok O : FnOK c 8 _ _)) (mem1 ((whole_ok O : FnOK c 8 _ _)) (mem1 (lfar_ok O) (mem1 ((sconst_ok O).le (by decide)) (mem1 (varied_ok O) (mem1 ((reg_ok O).le (by decide)) mem0)))))
noncomputable def pointS : FSem := fun args m => match penA args, penOf m with
 | true, some p => .req (PtrG p) (.leaf (.tup [p.ptr.r.av, .ints p.ptr.zs], [p.ptr.p.mo]))
 | _, _ => .stuck "_law_pointer"
theorem point_ok (O : ObjInt c) : FnOK c 9 (.ref 950) pointS := d_law_pointer.runV d_law_pointer_ok O 19 pointS fun args m => by
 unfold pointS; split
 ·rename_i p h1 h2
  refine .inr ⟨_, _, _, rfl, fun g => ?_⟩
  rw [penA_eq h1, penOf_some h2]
  obtain ⟨v0, r, cv⟩ := ptr_runs p g
  exact ⟨_, _, _, v0, ptFs_ok O, d_law_pointer_as c _, by kernel_rfl, r, cv⟩
 ·exact .inl no_stuck
end
end
section
open PySem
noncomputable abbrev BB : Int := 2199023255552
theorem bases_bnd : ∀ n : Nat, -536870910 ≤ bases.getD n 0 ∧ bases.getD n 0 ≤ 1099511627776
 | 0 => by decide
 | 1 => by decide
 | 2 => by decide
 | 3 => by decide
 | 4 => by decide
 | 5 => by decide
 | 6 => by decide
 | 7 => by decide
 | 8 => by decide
 | n + 9 => by
  have : bases.getD (n + 9) 0 = 0 := by simp [bases]
  rw [this]; decide
theorem whole_bnd (p : Pen) : -600000000 ≤ p.whole ∧ p.whole ≤ 1099511627800 := by
 have h := bases_bnd ((p.next 9).draw 9).toNat
 obtain ⟨a1, a2⟩ := draw_range p (show (0 : Int) < 9 by simp_all)
 unfold Pen.whole
 lia
theorem var_all {p : Pen} {b : Int} (g : PenG p b) (hb : b ≤ 2 ^ 50 - 100) : VarG p ∧ Hold p.var.s p.var.zs BB ∧ PenG p.var.p (b + 20) := by
 have g' := g.le hb
 have hm : ∀ k, 1 ≤ k → k ≤ 3 → 0 ≤ orAll (Pen.bits k ((p.next 4).next 3)).1 + 1 ∧ orAll (Pen.bits k ((p.next 4).next 3)).1 + 1 ≤ 1000 := fun k h1 h2 => by
  have := orAll_bnd (bits_six k ((p.next 4).next 3)); lia
 suffices h : p.var.ok ∧ Hold p.var.s p.var.zs BB ∧ PenG p.var.p (b + 20) from ⟨⟨g', hm, h.1⟩, h.2⟩
 have g1 := g.next 4
 unfold Pen.var
 generalize p.next 4 = q at g1 ⊢
 cases p.draw 4 == 0 with
 | true =>
  have := whole_bnd q
  exact ⟨trivial, hold_const (by show -2199023255552 ≤ q.whole ∧ q.whole ≤ 2199023255552; lia) (by decide), (g1.whole).le (by lia)⟩
 | false =>
  cases decide (p.draw 4 < 3) with
  | true =>
   have h1 := whole_bnd q
   obtain ⟨h2, h3⟩ := draw_range q.whole' (show (0 : Int) < 40 by simp_all)
   have hm : q.whole ≤ (q.whole + (q.whole + 1 + q.whole'.draw 40)).fdiv 2 ∧ (q.whole + (q.whole + 1 + q.whole'.draw 40)).fdiv 2 ≤ q.whole + 1 + q.whole'.draw 40 := by
    rw [Int.fdiv_eq_ediv_of_nonneg _ (by simp_all)]; lia
   obtain ⟨ok, H⟩ := hold_var1 (a := q.whole) (b := q.whole + 1 + q.whole'.draw 40) (B := BB) (by lia) hm (by show -2199023255552 ≤ q.whole; lia) (by show _ ≤ (2199023255552 : Int); lia) (by decide)
   exact ⟨ok, H, (g1.whole.next 40).le (by lia)⟩
  | false =>
   have g2 := g1.next 3
   obtain ⟨k1, k2⟩ := draw_range q (show (0 : Int) < 3 by simp_all)
   show (Pen.var3 q).ok ∧ Hold (Pen.var3 q).s (Pen.var3 q).zs BB ∧ PenG (Pen.var3 q).p (b + 20)
   unfold Pen.var3
   have hk1 : 1 ≤ (1 + q.draw 3).toNat := by lia
   have hk2 : (1 + q.draw 3).toNat ≤ 3 := by lia
   generalize (1 + q.draw 3).toNat = k at hk1 hk2 ⊢
   have g3 := PenG.bits k g2
   obtain ⟨o1, o2⟩ := orAll_bnd (bits_six k (q.next 3))
   have o3 := orAll_ne (bits_six k (q.next 3)) (bits_ne k _ hk1)
   dsimp only
   generalize orAll (Pen.bits k (q.next 3)).1 = m at o1 o2 o3 ⊢
   generalize (Pen.bits k (q.next 3)).2 = r at g3 ⊢
   obtain ⟨v1, v2, v3⟩ := val_low r o1
   obtain ⟨ok, H⟩ := hold_var3 v1 v2 o1 o2 o3 v3 (B := BB) (by decide) (by decide)
   exact ⟨ok, H, ((g3.next 200).next 2).le (by lia)⟩
theorem kinds_get : ∀ n : Nat, n < 9 → kinds9.getD n Str.empty ∈ kinds9
 | 0, _ => .head _
 | 1, _ => .tail _ (.head _)
 | 2, _ => .tail _ (.tail _ (.head _))
 | 3, _ => .tail _ (.tail _ (.tail _ (.head _)))
 | 4, _ => .tail _ (.tail _ (.tail _ (.tail _ (.head _))))
 | 5, _ => .tail _ (.tail _ (.tail _ (.tail _ (.tail _ (.head _)))))
 | 6, _ => .tail _ (.tail _ (.tail _ (.tail _ (.tail _ (.tail _ (.head _))))))
 | 7, _ => .tail _ (.tail _ (.tail _ (.tail _ (.tail _ (.tail _ (.tail _ (.head _)))))))
 | 8, _ => .tail _ (.tail _ (.tail _ (.tail _ (.tail _ (.tail _ (.tail _ (.tail _ (.head _))))))))
 | n + 9, h => absurd h (by simp)
theorem kd1_kind (p : Pen) : p.kd1.1 ∈ kinds9 := by
 unfold Pen.kd1 Pen.kd
 split
 ·exact kinds_get _ (by have := draw_range (p.next 3) (show (0 : Int) < 5 by simp_all); lia)
 ·exact kinds_get _ (by have := draw_range (p.next 3) (show (0 : Int) < 9 by simp_all); simp_all)
theorem of1_bnd (p : Pen) : -536870912 < p.of1 ∧ p.of1 < 536870912 := by
 have h1 := Int.fmod_nonneg_of_pos p.whole (show (0 : Int) < 536870912 by simp_all)
 have h2 := Int.fmod_lt_of_pos p.whole (show (0 : Int) < 536870912 by simp_all)
 unfold Pen.of1 Pen.of
 split <;> omega
theorem hold_zero : Hold (.const 0) [0] BB := hold_const (by decide) (by decide)
theorem sc1_all {p : Pen} {b : Int} (g : PenG p b) (hb : b ≤ 2 ^ 50 - 200) (k : Str) : (kb k = true → (p.draw 2 == 1) = true → VarG (p.next 2)) ∧ Hold (p.sc1 k).s (p.sc1 k).zs BB ∧ PenG (p.sc1 k).p (b + 30) := by
 have V := var_all (g.next 2) (by lia)
 refine ⟨fun _ _ => V.1, ?_⟩
 unfold Pen.sc1
 cases kb k with
 | false => exact ⟨hold_zero, g.le (by lia)⟩
 | true =>
  cases p.draw 2 == 1 with
  | false => exact ⟨hold_zero, (g.next 2).le (by simp_all)⟩
  | true => exact ⟨V.2.1, V.2.2.le (by lia)⟩
structure PtrOK (r : Rg) (zs : List Int) : Prop where
 k : r.k ∈ kinds9
 o : -536870912 < r.o ∧ r.o < 536870912
 s : Hold r.s zs BB
theorem PenG.fin {p : Pen} {b : Int} (g : PenG p b) : PenG p.fin (b + 5) := (((((g.next 3).next 2).next 30).next 50).next 2).le (by lia)
theorem ptr_all {p : Pen} {b : Int} (g : PenG p b) (hb : b ≤ 2 ^ 50 - 1000) : PtrG p ∧ PtrOK p.ptr.r p.ptr.zs ∧ PenG p.ptr.p (b + 50) := by
 obtain ⟨a1, a2, a3⟩ := sc1_all g.pn (by lia) p.kd1.1
 refine ⟨⟨g.le hb, a1, a3.le (by lia)⟩, ⟨kd1_kind p, of1_bnd _, a2⟩, ?_⟩
 exact (PenG.fin a3).le (by lia)
end
section
open PySem PySem.W PyProof.Rows PySem.Calls
noncomputable def duFs : List (FK × FSem) := [wrapF, signedF, lfarF, (.bi "min", min1S), (.bi "max", max1S), (.bi "abs", absS), lenF]
noncomputable def duC : Cfg := { cfg duFs [] with scope := fdScope d_law_due.st }
noncomputable def duR : Rec := run 18 duC
noncomputable def duSt (i : Nat) : Stmt := (fdBody d_law_due.st).getD i (.Pass default)
theorem du_any {lo : Lo} {m : Mem} {x : (Fl × Lo) × Mem} (h : Runs (exsT duC duR [duSt 0, duSt 1, duSt 2, duSt 3, duSt 4, duSt 5, duSt 6] lo m) x) : Runs (exsT duC duR (fdBody d_law_due.st) lo m) x := by
 rw [show fdBody d_law_due.st = [duSt 0, duSt 1, duSt 2, duSt 3, duSt 4, duSt 5, duSt 6] by kernel_rfl]; exact h
noncomputable def nb4 (k : Str) : Bool := !((S "value" == k) || ((S "packet" == k) || ((S "room" == k) || ((S "stack" == k) || false))))
noncomputable abbrev duLA (p q : Rg) (ms : List Int) (za : AV) (t : Bool) (fr : Int) : Lo := [(S "tip", p.av), (S "members", .ints ms), (S "number", q.av), (S "others", za), (S "is_minus", .bool t), (S "fresh", .int fr)]
noncomputable abbrev duL (p q : Rg) (ms zs : List Int) (t : Bool) (fr : Int) : Lo := [(S "tip", p.av), (S "members", .ints ms), (S "number", q.av), (S "others", .ints zs), (S "is_minus", .bool t), (S "fresh", .int fr)]
noncomputable abbrev duL2 (p q : Rg) (ms zs : List Int) (t : Bool) (fr least most : Int) : Lo := duL p q ms zs t fr ++ [(S "most", .int most), (S "least", .int least)]
noncomputable abbrev duL3 (p q : Rg) (ms zs : List Int) (t : Bool) (fr least most low high : Int) : Lo := duL2 p q ms zs t fr least most ++ [(S "high", .int high), (S "low", .int low)]
noncomputable abbrev FARZ : Int := 536870912
noncomputable def five (a b d e f : Int) : AV := .tup [.int a, .int b, .int d, .int e, .int f]
noncomputable def stepD (z : Int) : Int := sgnZ 64 (wrapZ 64 z)
noncomputable def offD (o z : Int) : Bool → Int
 | true => o - stepD z
 | false => o + stepD z
noncomputable def lowD (ms : List Int) (least most : Int) : Bool → Int
 | true => minL ms - most
 | false => minL ms + least
noncomputable def highD (ms : List Int) (least most : Int) : Bool → Int
 | true => maxL ms - least
 | false => maxL ms + most
section
variable (p q : Rg) (ms zs : List Int) (t : Bool) (fr : Int) (m : Mem)
noncomputable abbrev DueR (v : AV) : Prop := Runs (bodyT (cfg duFs []) 19 d_law_due.st (duL p q ms zs t fr) m) (v, m)
theorem due_n1 (za : AV) (h : nb4 p.k = true) : Runs (bodyT (cfg duFs []) 19 d_law_due.st (duLA p q ms za t fr) m) (.none, m) := by
 have a : Runs (exT duC duR (duSt 0) (duLA p q ms za t fr) m) ((.ret .none, duLA p q ms za t fr), m) :=
  Runs.by [true, true] (nb4 p.k = true ∧ true = true ∧ True) (by kernel_rfl) (by kernel_rfl) ⟨h, rfl, trivial⟩
 exact Runs.body (du_any a.ret)
theorem due_n2 (za : AV) (h : nb4 p.k = false) (h2 : (!(q.k == S "scalar")) = true) : Runs (bodyT (cfg duFs []) 19 d_law_due.st (duLA p q ms za t fr) m) (.none, m) := by
 have a : Runs (exT duC duR (duSt 0) (duLA p q ms za t fr) m) ((.ret .none, duLA p q ms za t fr), m) :=
  Runs.by [false, true, true] (nb4 p.k = false ∧ (!(q.k == S "scalar")) = true ∧ true = true ∧ True) (by kernel_rfl) (by kernel_rfl) ⟨h, h2, rfl, trivial⟩
 exact Runs.body (du_any a.ret)
theorem du0 (h : nb4 p.k = false) (h2 : (!(q.k == S "scalar")) = false) : Runs (exT duC duR (duSt 0) (duL p q ms zs t fr) m) ((.next, duL p q ms zs t fr), m) :=
 Runs.by [false, false, false] (nb4 p.k = false ∧ (!(q.k == S "scalar")) = false ∧ false = false ∧ True) (by kernel_rfl) (by kernel_rfl) ⟨h, h2, rfl, trivial⟩
noncomputable abbrev duK1 : Prop := (1 : Nat) ≤ 1000000
noncomputable abbrev duK2 : Prop := (0 : Int) ≤ 0 ∧ (0 : Int) < (1 : Nat) ∧ (1 : Nat) < 2 ^ 40
noncomputable def f1D (z : Int) : Bool := decide (FARZ ≤ ((stepD z).natAbs : Int))
noncomputable def f2D (o z : Int) (t : Bool) : Bool := decide (FARZ ≤ ((offD o z t).natAbs : Int))
theorem due_k1 (z : Int) (h : nb4 p.k = false) (h2 : (!(q.k == S "scalar")) = false) (h3 : f1D z = true) : DueR p q ms [z] t fr m .none := by
 have a : Runs (exT duC duR (duSt 1) (duL p q ms [z] t fr) m) ((.ret .none, duL p q ms [z] t fr ++ [(S "step", .int (stepD z)), (S "off", .int (offD p.o z t))]), m) := by
  cases t
  ·exact Runs.by [true, false, true, true] (duK1 ∧ true = true ∧ duK2 ∧ false = false ∧ True ∧ f1D z = true ∧ true = true ∧ True) (by kernel_rfl) (by kernel_rfl) ⟨by decide, rfl, by decide, rfl, trivial, h3, rfl, trivial⟩
  ·exact Runs.by [true, true, true, true] (duK1 ∧ true = true ∧ duK2 ∧ true = true ∧ True ∧ f1D z = true ∧ true = true ∧ True) (by kernel_rfl) (by kernel_rfl) ⟨by decide, rfl, by decide, rfl, trivial, h3, rfl, trivial⟩
 exact Runs.body (du_any ((du0 p q ms [z] t fr m h h2).cons a.ret))
theorem due_k2 (z : Int) (h : nb4 p.k = false) (h2 : (!(q.k == S "scalar")) = false) (h3 : f1D z = false) (h4 : f2D p.o z t = true) : DueR p q ms [z] t fr m .none := by
 have a : Runs (exT duC duR (duSt 1) (duL p q ms [z] t fr) m) ((.ret .none, duL p q ms [z] t fr ++ [(S "step", .int (stepD z)), (S "off", .int (offD p.o z t))]), m) := by
  cases t
  ·exact Runs.by [true, false, false, true, true] (duK1 ∧ true = true ∧ duK2 ∧ false = false ∧ True ∧ f1D z = false ∧ True ∧ f2D p.o z false = true ∧ true = true ∧ True) (by kernel_rfl) (by kernel_rfl) ⟨by decide, rfl, by decide, rfl, trivial, h3, trivial, h4, rfl, trivial⟩
  ·exact Runs.by [true, true, false, true, true] (duK1 ∧ true = true ∧ duK2 ∧ true = true ∧ True ∧ f1D z = false ∧ True ∧ f2D p.o z true = true ∧ true = true ∧ True) (by kernel_rfl) (by kernel_rfl) ⟨by decide, rfl, by decide, rfl, trivial, h3, trivial, h4, rfl, trivial⟩
 exact Runs.body (du_any ((du0 p q ms [z] t fr m h h2).cons a.ret))
theorem due_k3 (z : Int) (h : nb4 p.k = false) (h2 : (!(q.k == S "scalar")) = false) (h3 : f1D z = false) (h4 : f2D p.o z t = false) (h5 : ms ≠ []) : DueR p q ms [z] t fr m (five (offD p.o z t) (minL ms) (maxL ms) p.nu p.re) := by
 have a : Runs (exT duC duR (duSt 1) (duL p q ms [z] t fr) m) ((.ret (five (offD p.o z t) (minL ms) (maxL ms) p.nu p.re), duL p q ms [z] t fr ++ [(S "step", .int (stepD z)), (S "off", .int (offD p.o z t))]), m) := by
  cases t
  ·exact Runs.by [true, false, false, false, false] (duK1 ∧ true = true ∧ duK2 ∧ false = false ∧ True ∧ f1D z = false ∧ True ∧ f2D p.o z false = false ∧ false = false ∧ ms ≠ [] ∧ ms ≠ [] ∧ True) (by kernel_rfl) (by kernel_rfl) ⟨by decide, rfl, by decide, rfl, trivial, h3, trivial, h4, rfl, h5, h5, trivial⟩
  ·exact Runs.by [true, true, false, false, false] (duK1 ∧ true = true ∧ duK2 ∧ true = true ∧ True ∧ f1D z = false ∧ True ∧ f2D p.o z true = false ∧ false = false ∧ ms ≠ [] ∧ ms ≠ [] ∧ True) (by kernel_rfl) (by kernel_rfl) ⟨by decide, rfl, by decide, rfl, trivial, h3, trivial, h4, rfl, h5, h5, trivial⟩
 exact Runs.body (du_any ((du0 p q ms [z] t fr m h h2).cons a.ret))
theorem du1 (h : zs.length ≤ 1000000) (h1 : ((zs.length : Int) == 1) = false) : Runs (exT duC duR (duSt 1) (duL p q ms zs t fr) m) ((.next, duL p q ms zs t fr), m) :=
 Runs.by [false] (zs.length ≤ 1000000 ∧ ((zs.length : Int) == 1) = false ∧ True) (by kernel_rfl) (by kernel_rfl) ⟨h, h1, trivial⟩
theorem du2 (h : zs ≠ []) : Runs (exT duC duR (duSt 2) (duL p q ms zs t fr) m) ((.next, duL2 p q ms zs t fr (minL zs) (maxL zs)), m) :=
 Runs.by [] (zs ≠ [] ∧ zs ≠ [] ∧ True) (by kernel_rfl) (by kernel_rfl) ⟨h, h, trivial⟩
theorem du3 (least most : Int) (h : ms ≠ []) : Runs (exT duC duR (duSt 3) (duL2 p q ms zs t fr least most) m) ((.next, duL3 p q ms zs t fr least most (lowD ms least most t) (highD ms least most t)), m) := by
 cases t
 ·exact Runs.by [false] (false = false ∧ ms ≠ [] ∧ ms ≠ [] ∧ True) (by kernel_rfl) (by kernel_rfl) ⟨rfl, h, h, trivial⟩
 ·exact Runs.by [true] (true = true ∧ ms ≠ [] ∧ ms ≠ [] ∧ True) (by kernel_rfl) (by kernel_rfl) ⟨rfl, h, h, trivial⟩
variable (least most low high : Int)
theorem du4a (h : (p.k == S "stack") = true) : Runs (exT duC duR (duSt 4) (duL3 p q ms zs t fr least most low high) m) ((.ret .none, duL3 p q ms zs t fr least most low high), m) :=
 Runs.by [true, true] ((p.k == S "stack") = true ∧ true = true ∧ True) (by kernel_rfl) (by kernel_rfl) ⟨h, rfl, trivial⟩
theorem du4b (h : (p.k == S "stack") = false) (h2 : decide (min least low < -FARZ) = true) : Runs (exT duC duR (duSt 4) (duL3 p q ms zs t fr least most low high) m) ((.ret .none, duL3 p q ms zs t fr least most low high), m) :=
 Runs.by [false, true, true] ((p.k == S "stack") = false ∧ True ∧ decide (min least low < -FARZ) = true ∧ true = true ∧ True) (by kernel_rfl) (by kernel_rfl) ⟨h, trivial, h2, rfl, trivial⟩
theorem du4c (h : (p.k == S "stack") = false) (h2 : decide (min least low < -FARZ) = false) (h3 : decide (FARZ < max most high) = true) : Runs (exT duC duR (duSt 4) (duL3 p q ms zs t fr least most low high) m) ((.ret .none, duL3 p q ms zs t fr least most low high), m) :=
 Runs.by [false, false, true, true] ((p.k == S "stack") = false ∧ True ∧ decide (min least low < -FARZ) = false ∧ True ∧ decide (FARZ < max most high) = true ∧ true = true ∧ True) (by kernel_rfl) (by kernel_rfl) ⟨h, trivial, h2, trivial, h3, rfl, trivial⟩
theorem du4d (h : (p.k == S "stack") = false) (h2 : decide (min least low < -FARZ) = false) (h3 : decide (FARZ < max most high) = false) : Runs (exT duC duR (duSt 4) (duL3 p q ms zs t fr least most low high) m) ((.next, duL3 p q ms zs t fr least most low high), m) :=
 Runs.by [false, false, false, false] ((p.k == S "stack") = false ∧ True ∧ decide (min least low < -FARZ) = false ∧ True ∧ decide (FARZ < max most high) = false ∧ false = false ∧ True) (by kernel_rfl) (by kernel_rfl) ⟨h, trivial, h2, trivial, h3, rfl, trivial⟩
theorem du5a (h : (!(p.k == S "packet")) = true) : Runs (exT duC duR (duSt 5) (duL3 p q ms zs t fr least most low high) m) ((.ret (five p.o low high p.nu p.re), duL3 p q ms zs t fr least most low high), m) :=
 Runs.by [true] ((!(p.k == S "packet")) = true ∧ True) (by kernel_rfl) (by kernel_rfl) ⟨h, trivial⟩
theorem du5b (h : (!(p.k == S "packet")) = false) : Runs (exT duC duR (duSt 5) (duL3 p q ms zs t fr least most low high) m) ((.next, duL3 p q ms zs t fr least most low high), m) :=
 Runs.by [false] ((!(p.k == S "packet")) = false ∧ True) (by kernel_rfl) (by kernel_rfl) ⟨h, trivial⟩
theorem du6a (h : decide (low < 0) = true) : Runs (exT duC duR (duSt 6) (duL3 p q ms zs t fr least most low high) m) ((.ret .none, duL3 p q ms zs t fr least most low high), m) :=
 Runs.by [true, true] (decide (low < 0) = true ∧ true = true ∧ True) (by kernel_rfl) (by kernel_rfl) ⟨h, rfl, trivial⟩
theorem du6b (h : decide (low < 0) = false) (h2 : decide (65535 < high) = true) : Runs (exT duC duR (duSt 6) (duL3 p q ms zs t fr least most low high) m) ((.ret .none, duL3 p q ms zs t fr least most low high), m) :=
 Runs.by [false, true, true] (decide (low < 0) = false ∧ decide (65535 < high) = true ∧ true = true ∧ True) (by kernel_rfl) (by kernel_rfl) ⟨h, h2, rfl, trivial⟩
theorem du6c (h : decide (low < 0) = false) (h2 : decide (65535 < high) = false) : Runs (exT duC duR (duSt 6) (duL3 p q ms zs t fr least most low high) m) ((.ret (five p.o low high fr 0), duL3 p q ms zs t fr least most low high), m) :=
 Runs.by [false, false, false] (decide (low < 0) = false ∧ decide (65535 < high) = false ∧ false = false ∧ True) (by kernel_rfl) (by kernel_rfl) ⟨h, h2, rfl, trivial⟩
end
noncomputable def vN (p : Rg) (least most low high : Int) : Bool := (p.k == S "stack") || decide (min least low < -FARZ) || decide (FARZ < max most high) || ((p.k == S "packet") && (decide (low < 0) || decide (65535 < high)))
noncomputable def vV (p : Rg) (fr low high : Int) : AV := match p.k == S "packet" with
 | true => five p.o low high fr 0
 | false => five p.o low high p.nu p.re
theorem due_v (p q : Rg) (ms zs : List Int) (t : Bool) (fr : Int) (m : Mem) (h : nb4 p.k = false) (h2 : (!(q.k == S "scalar")) = false) (h3 : zs.length ≤ 1000000) (h4 : ((zs.length : Int) == 1) = false) (h5 : zs ≠ []) (h6 : ms ≠ []) {low high : Int} (hl : low = lowD ms (minL zs) (maxL zs) t) (hh : high = highD ms (minL zs) (maxL zs) t) :
  DueR p q ms zs t fr m (match vN p (minL zs) (maxL zs) low high with | true => .none | false => vV p fr low high) := by
 subst hl hh
 have a := fun x (b : Runs (exsT duC duR [duSt 4, duSt 5, duSt 6] _ m) x) => du_any ((du0 p q ms zs t fr m h h2).cons ((du1 p q ms zs t fr m h3 h4).cons ((du2 p q ms zs t fr m h5).cons ((du3 p q ms zs t fr m (minL zs) (maxL zs) h6).cons b))))
 generalize minL zs = least at *
 generalize maxL zs = most at *
 generalize lowD ms least most t = low at *
 generalize highD ms least most t = high at *
 unfold vN
 cases c1 : (p.k == S "stack") with
 | true => exact Runs.body (a _ (du4a p q ms zs t fr m _ _ _ _ c1).ret)
 | false =>
  cases c2 : decide (min least low < -FARZ) with
  | true => exact Runs.body (a _ (du4b p q ms zs t fr m _ _ _ _ c1 c2).ret)
  | false =>
   cases c3 : decide (FARZ < max most high) with
   | true => exact Runs.body (a _ (du4c p q ms zs t fr m _ _ _ _ c1 c2 c3).ret)
   | false =>
    have b := fun x (d : Runs (exsT duC duR [duSt 5, duSt 6] _ m) x) => a x ((du4d p q ms zs t fr m _ _ _ _ c1 c2 c3).cons d)
    unfold vV
    cases c4 : (p.k == S "packet") with
    | false => exact Runs.body (b _ (du5a p q ms zs t fr m _ _ _ _ (by rw [c4]; rfl)).ret)
    | true =>
     have e := fun x (d : Runs (exsT duC duR [duSt 6] _ m) x) => b x ((du5b p q ms zs t fr m _ _ _ _ (by rw [c4]; rfl)).cons d)
     cases c5 : decide (low < 0) with
     | true => exact Runs.body (e _ (du6a p q ms zs t fr m _ _ _ _ c5).ret)
     | false =>
      cases c6 : decide (65535 < high) with
      | true => exact Runs.body (e _ (du6b p q ms zs t fr m _ _ _ _ c5 c6).ret)
      | false => exact Runs.body (e _ (du6c p q ms zs t fr m _ _ _ _ c5 c6).ret)
theorem forL_cons {C : Cfg} {R : Rec} {t : Expr} {b : List Stmt} {v : AV} {vs : List AV} {lo lo' lo1 : Lo} {m m1 : Mem} {x : (Fl × Lo) × Mem} (ha : asgT C t v lo = some lo') (hb : Runs (R.exs b lo' m) ((.next, lo1), m1)) (h : Runs (forL C R t b vs lo1 m1) x) : Runs (forL C R t b (v :: vs) lo m) x :=
 ⟨fun K KX k => by
  unfold forL; rw [ha]
  exact T.all_bind.mpr (hb.all _ _ (h.all K KX k))⟩
theorem forL_nil {C : Cfg} {R : Rec} {t : Expr} {b : List Stmt} {lo : Lo} {m : Mem} : Runs (forL C R t b [] lo m) ((.next, lo), m) := ⟨fun K KX k => by unfold forL; exact k⟩
noncomputable def isFs : List (FK × FSem) := [wrapF, (.ref 328, scontS)]
noncomputable def isC : Cfg := { cfg isFs [] with scope := fdScope d_law_is_sum.st }
noncomputable def isR : Rec := run 18 isC
noncomputable def isSt (i : Nat) : Stmt := (fdBody d_law_is_sum.st).getD i (.Pass default)
theorem is_any {lo : Lo} {m : Mem} {x : (Fl × Lo) × Mem} (h : Runs (exsT isC isR [isSt 0, isSt 1, isSt 2, isSt 3] lo m) x) : Runs (exsT isC isR (fdBody d_law_is_sum.st) lo m) x := by
 rw [show fdBody d_law_is_sum.st = [isSt 0, isSt 1, isSt 2, isSt 3] by kernel_rfl]; exact h
noncomputable def forPart : Stmt → Expr × List Stmt
 | .For t _ b _ _ => (t, b)
 | _ => (.Name (S "x") default, [])
noncomputable def isOut : Expr × List Stmt := forPart (isSt 2)
noncomputable def isIn0 : Stmt := isOut.2.getD 0 (.Pass default)
noncomputable def isIn : Expr × List Stmt := forPart isIn0
noncomputable def inSt (i : Nat) : Stmt := isIn.2.getD i (.Pass default)
section
variable (f p : Rg) (ms zs : List Int) (t : Bool) (due : AV) (m : Mem)
noncomputable abbrev isL : Lo := [(S "found", f.av), (S "tip", p.av), (S "members", .ints ms), (S "others", .ints zs), (S "is_minus", .bool t), (S "due", due)]
noncomputable def isLo (a : Int) : Option (Int × Int) → Lo
 | none => isL f p ms zs t due ++ [(S "one", .int a)]
 | some (b, pl) => isL f p ms zs t due ++ [(S "one", .int a), (S "other", .int b), (S "place", .int pl)]
noncomputable def isLo2 (a b : Int) : Option Int → Lo
 | none => isL f p ms zs t due ++ [(S "one", .int a), (S "other", .int b)]
 | some pl => isL f p ms zs t due ++ [(S "one", .int a), (S "other", .int b), (S "place", .int pl)]
noncomputable def isLo0 : Option (Int × Option (Int × Int)) → Lo
 | none => isL f p ms zs t due
 | some (a, o) => isLo f p ms zs t due a o
noncomputable def placeZ (a b : Int) : Int := match t with
 | true => p.o + a - b
 | false => p.o + a + b
theorem is_place (a b : Int) (o : Option Int) : Runs (exT isC (run 16 isC) (inSt 0) (isLo2 f p ms zs t due a b o) m) ((.next, isLo f p ms zs t due a (some (b, placeZ p t a b))), m) := by
 cases o <;> cases t
 ·exact Runs.by [false] (false = false ∧ True) (by kernel_rfl) (by kernel_rfl) ⟨rfl, trivial⟩
 ·exact Runs.by [true] (true = true ∧ True) (by kernel_rfl) (by kernel_rfl) ⟨rfl, trivial⟩
 ·exact Runs.by [false] (false = false ∧ True) (by kernel_rfl) (by kernel_rfl) ⟨rfl, trivial⟩
 ·exact Runs.by [true] (true = true ∧ True) (by kernel_rfl) (by kernel_rfl) ⟨rfl, trivial⟩
noncomputable def holdsB (a b : Int) : Bool := containsB f.s.v f.s.w f.s.x (wrapZ 64 (placeZ p t a b - f.o))
theorem is_test (a b pl : Int) (h : containsB f.s.v f.s.w f.s.x (wrapZ 64 (pl - f.o)) = true) : Runs (exT isC (run 16 isC) (inSt 1) (isLo f p ms zs t due a (some (b, pl))) m) ((.next, isLo f p ms zs t due a (some (b, pl))), m) :=
 Runs.by [false] ((!(containsB f.s.v f.s.w f.s.x (wrapZ 64 (pl - f.o)))) = false ∧ True) (by kernel_rfl) (by kernel_rfl) ⟨by rw [h]; rfl, trivial⟩
theorem is_asg (a b : Int) (o : Option (Int × Int)) : asgT isC isIn.1 (.int b) (isLo f p ms zs t due a o) = some (isLo2 f p ms zs t due a b (o.map (·.2))) := by
 cases o with
 | none => kernel_rfl
 | some x => obtain ⟨x, y⟩ := x; kernel_rfl
theorem is_asg0 (a : Int) (o : Option (Int × Option (Int × Int))) : asgT isC isOut.1 (.int a) (isLo0 f p ms zs t due o) = some (isLo f p ms zs t due a (o.bind (·.2))) := by
 cases o with
 | none => kernel_rfl
 | some x =>
  obtain ⟨x, y⟩ := x
  cases y with
  | none => kernel_rfl
  | some y => obtain ⟨y, z⟩ := y; kernel_rfl
theorem is_in (a : Int) : ∀ (bs : List Int) (o : Option (Int × Int)), (∀ b ∈ bs, holdsB f p t a b = true) → ∃ o', Runs (forL isC (run 17 isC) isIn.1 isIn.2 (bs.map .int) (isLo f p ms zs t due a o) m) ((.next, isLo f p ms zs t due a o'), m)
 | [], o, _ => ⟨o, forL_nil⟩
 | b :: bs, o, h => by
  obtain ⟨o', r⟩ := is_in a bs (some (b, placeZ p t a b)) fun x hx => h x (.tail _ hx)
  refine ⟨o', forL_cons (is_asg f p ms zs t due a b o) ?_ r⟩
  have e : (run 17 isC).exs isIn.2 (isLo2 f p ms zs t due a b (o.map (·.2))) m = exsT isC (run 16 isC) [inSt 0, inSt 1] (isLo2 f p ms zs t due a b (o.map (·.2))) m := by kernel_rfl
  rw [e]
  exact (is_place f p ms zs t due m a b _).cons ((is_test f p ms zs t due m a b _ (h b (.head _))).cons Runs.nil)
theorem is_in0 (a : Int) (o : Option (Int × Int)) : exT isC (run 17 isC) isIn0 (isLo f p ms zs t due a o) m = T.req (zs.length ≤ 1000) (forL isC (run 17 isC) isIn.1 isIn.2 (zs.map .int) (isLo f p ms zs t due a o) m).quiet := by
 cases o with
 | none => kernel_rfl
 | some x => obtain ⟨x, y⟩ := x; kernel_rfl
theorem is_out (hz : zs.length ≤ 1000) : ∀ (as : List Int) (o : Option (Int × Option (Int × Int))), (∀ a ∈ as, ∀ b ∈ zs, holdsB f p t a b = true) → ∃ o', Runs (forL isC isR isOut.1 isOut.2 (as.map .int) (isLo0 f p ms zs t due o) m) ((.next, isLo0 f p ms zs t due o'), m)
 | [], o, _ => ⟨o, forL_nil⟩
 | a :: as, o, h => by
  obtain ⟨o1, r1⟩ := is_in f p ms zs t due m a zs (o.bind (·.2)) (h a (.head _))
  obtain ⟨o', r⟩ := is_out hz as (some (a, o1)) fun x hx => h x (.tail _ hx)
  refine ⟨o', forL_cons (is_asg0 f p ms zs t due a o) ?_ r⟩
  have e : isR.exs isOut.2 (isLo f p ms zs t due a (o.bind (·.2))) m = exsT isC (run 17 isC) [isIn0] (isLo f p ms zs t due a (o.bind (·.2))) m := by kernel_rfl
  rw [e]
  refine Runs.cons (lo1 := isLo f p ms zs t due a o1) (m1 := m) ?_ Runs.nil
  rw [is_in0]
  exact ⟨fun K KX k => ⟨hz, T.all_quiet (r1.all _ _ k)⟩⟩
theorem is2_eq : exT isC isR (isSt 2) (isL f p ms zs t due) m = T.req (ms.length ≤ 1000) (forL isC isR isOut.1 isOut.2 (ms.map .int) (isL f p ms zs t due) m).quiet := by kernel_rfl
noncomputable def ne5 (a b d e f a' b' d' e' f' : Int) : Bool := !((a == a') && ((b == b') && ((d == d') && ((e == e') && ((f == f') && true)))))
noncomputable def neK : Bool := !((f.k == p.k) && ((f.mn == p.mn) && ((f.ro == p.ro) && ((f.fr == p.fr) && true))))
theorem is0 (x1 x2 x3 x4 x5 : Int) (h : ne5 f.o f.s.x.d f.s.x.e f.nu f.re x1 x2 x3 x4 x5 = false) : Runs (exT isC isR (isSt 0) (isL f p ms zs t (five x1 x2 x3 x4 x5)) m) ((.next, isL f p ms zs t (five x1 x2 x3 x4 x5)), m) :=
 Runs.by [false] (ne5 f.o f.s.x.d f.s.x.e f.nu f.re x1 x2 x3 x4 x5 = false ∧ True) (by kernel_rfl) (by kernel_rfl) ⟨h, trivial⟩
theorem is1 (h : neK f p = false) : Runs (exT isC isR (isSt 1) (isL f p ms zs t due) m) ((.next, isL f p ms zs t due), m) :=
 Runs.by [false] (neK f p = false ∧ True) (by kernel_rfl) (by kernel_rfl) ⟨h, trivial⟩
theorem is3 (o : Option (Int × Option (Int × Int))) : Runs (exT isC isR (isSt 3) (isLo0 f p ms zs t due o) m) ((.ret (.bool true), isLo0 f p ms zs t due o), m) := by
 refine Runs.by [] True ?_ ?_ trivial <;> kernel_rfl
theorem sum_runs (x1 x2 x3 x4 x5 : Int) (h : ne5 f.o f.s.x.d f.s.x.e f.nu f.re x1 x2 x3 x4 x5 = false) (hk : neK f p = false) (hm : ms.length ≤ 1000) (hz : zs.length ≤ 1000) (hh : ∀ a ∈ ms, ∀ b ∈ zs, holdsB f p t a b = true) :
  Runs (bodyT (cfg isFs []) 19 d_law_is_sum.st (isL f p ms zs t (five x1 x2 x3 x4 x5)) m) (.bool true, m) := by
 obtain ⟨o, r⟩ := is_out f p ms zs t (five x1 x2 x3 x4 x5) m hz ms none hh
 have a2 : Runs (exT isC isR (isSt 2) (isL f p ms zs t (five x1 x2 x3 x4 x5)) m) ((.next, isLo0 f p ms zs t (five x1 x2 x3 x4 x5) o), m) := by
  rw [is2_eq]
  exact ⟨fun K KX k => ⟨hm, T.all_quiet (r.all _ _ k)⟩⟩
 exact Runs.body (is_any ((is0 f p ms zs t m x1 x2 x3 x4 x5 h).cons ((is1 f p ms zs t _ m hk).cons (a2.cons (is3 f p ms zs t _ m o).ret))))
end
structure DueA where
 p : Rg
 q : Rg
 ms : List Int
 za : AV
 t : Bool
 fr : Int
noncomputable def dueA (l : List AV) : Option DueA := ((shRg (.ints (shRg (.any (.bool (.int .nil)))))).dec l).map fun t => ⟨toRg t.1, toRg t.2.2.1, t.2.1, t.2.2.2.1, t.2.2.2.2.1, t.2.2.2.2.2.1⟩
theorem dueA_some {l : List AV} {d : DueA} (h : dueA l = some d) : l = [d.p.av, .ints d.ms, d.q.av, d.za, .bool d.t, .int d.fr] := by
 obtain ⟨t, h1, rfl⟩ := Option.map_eq_some_iff.mp h
 exact Sh.dec_s _ h1
noncomputable def zsA : AV → List Int
 | .ints zs => zs
 | _ => []
noncomputable def dueV2 (p q : Rg) (ms : List Int) (t : Bool) (fr : Int) : List Int → AV
 | [z] => match f1D z || f2D p.o z t with
  | true => .none
  | false => five (offD p.o z t) (minL ms) (maxL ms) p.nu p.re
 | zs => match vN p (minL zs) (maxL zs) (lowD ms (minL zs) (maxL zs) t) (highD ms (minL zs) (maxL zs) t) with
  | true => .none
  | false => vV p fr (lowD ms (minL zs) (maxL zs) t) (highD ms (minL zs) (maxL zs) t)
noncomputable def dueVal (d : DueA) : AV := match nb4 d.p.k, d.q.k == S "scalar" with
 | false, true => dueV2 d.p d.q d.ms d.t d.fr (zsA d.za)
 | _, _ => .none
noncomputable def DueG (d : DueA) : Prop := nb4 d.p.k = false → (d.q.k == S "scalar") = true → d.za = .ints (zsA d.za) ∧ zsA d.za ≠ [] ∧ d.ms ≠ [] ∧ (zsA d.za).length ≤ 1000000
theorem due_runs (d : DueA) (G : DueG d) (m : Mem) : Runs (bodyT (cfg duFs []) 19 d_law_due.st (duLA d.p d.q d.ms d.za d.t d.fr) m) (dueVal d, m) := by
 obtain ⟨p, q, ms, za, t, fr⟩ := d
 unfold dueVal
 dsimp only
 cases h1 : nb4 p.k with
 | true => exact due_n1 p q ms t fr m za h1
 | false =>
  cases h2 : (q.k == S "scalar") with
  | false => exact due_n2 p q ms t fr m za h1 (by rw [h2]; rfl)
  | true =>
   obtain ⟨e, n1, n2, n3⟩ := G h1 h2
   dsimp only at e n1 n2 n3
   have h3 : (!(q.k == S "scalar")) = false := by rw [h2]; rfl
   rw [e]
   show Runs _ (dueV2 p q ms t fr (zsA za), m)
   generalize zsA za = zs at *
   have many : ((zs.length : Int) == 1) = false → Runs (bodyT (cfg duFs []) 19 d_law_due.st (duLA p q ms (.ints zs) t fr) m) ((match vN p (minL zs) (maxL zs) (lowD ms (minL zs) (maxL zs) t) (highD ms (minL zs) (maxL zs) t) with
    | true => .none
    | false => vV p fr (lowD ms (minL zs) (maxL zs) t) (highD ms (minL zs) (maxL zs) t)), m) := fun h4 => due_v p q ms zs t fr m h1 h3 n3 h4 n1 n2 rfl rfl
   unfold dueV2
   split
   ·rename_i z
    cases c1 : f1D z with
    | true => exact due_k1 p q ms t fr m z h1 h3 c1
    | false =>
     cases c2 : f2D p.o z t with
     | true => exact due_k2 p q ms t fr m z h1 h3 c1 c2
     | false => exact due_k3 p q ms t fr m z h1 h3 c1 c2 n2
   ·rename_i hne
    refine many ?_
    match zs, n1, hne with
    | [z], _, hne => exact absurd rfl (hne z)
    | a :: b :: r, _, _ => simp only [List.length_cons, beq_eq_false_iff_ne]; omega
section
variable {c : Cx} {n : Nat}
noncomputable def dueS : FSem := fun args m => match dueA args with
 | some d => .req (DueG d) (.leaf (dueVal d, m))
 | none => .stuck "_law_due"
theorem due_scope (p q : Rg) (ms : List Int) (za : AV) (t : Bool) (fr : Int) : scopeOK (fdScope d_law_due.st) (duLA p q ms za t fr) = true := by kernel_rfl
theorem due_ok (O : ObjInt c) : FnOK c 7 (.ref 957) dueS := d_law_due.runV d_law_due_ok O 19 dueS fun args m => by
 unfold dueS; split
 ·rename_i d h
  refine .inr ⟨_, _, _, rfl, fun g => ?_⟩
  rw [dueA_some h]
  exact ⟨duFs, _, _, _, mem1 ((wrap_ok O : FnOK c 6 _ _)) (mem1 ((signed_ok O : FnOK c 6 _ _)) (mem1 (lfar_ok O) (mem1 min1_ok (mem1 max1_ok (mem1 abs_ok (mem1 len_ok mem0)))))), d_law_due_as c _ _ _ _ _ _, due_scope _ _ _ _ _ _, due_runs d g m, .refl _⟩
 ·exact .inl no_stuck
structure SumA where
 f : Rg
 p : Rg
 ms : List Int
 za : AV
 t : Bool
 due : AV
noncomputable def sumA (l : List AV) : Option SumA := ((shRg (shRg (.ints (.any (.bool (.any .nil)))))).dec l).map fun t => ⟨toRg t.1, toRg t.2.1, t.2.2.1, t.2.2.2.1, t.2.2.2.2.1, t.2.2.2.2.2.1⟩
theorem sumA_some {l : List AV} {d : SumA} (h : sumA l = some d) : l = [d.f.av, d.p.av, .ints d.ms, d.za, .bool d.t, d.due] := by
 obtain ⟨t, h1, rfl⟩ := Option.map_eq_some_iff.mp h
 exact Sh.dec_s _ h1
structure SumG (d : SumA) : Prop where
 due : ∃ x1 x2 x3 x4 x5, d.due = five x1 x2 x3 x4 x5 ∧ ne5 d.f.o d.f.s.x.d d.f.s.x.e d.f.nu d.f.re x1 x2 x3 x4 x5 = false
 za : d.za = .ints (zsA d.za)
 k : neK d.f d.p = false
 hm : d.ms.length ≤ 1000
 hz : (zsA d.za).length ≤ 1000
 hh : ∀ a ∈ d.ms, ∀ b ∈ zsA d.za, holdsB d.f d.p d.t a b = true
noncomputable def sumS' : FSem := fun args m => match sumA args with
 | some d => .req (SumG d) (.leaf (.bool true, m))
 | none => .stuck "_law_is_sum"
theorem sum_scope (f p : Rg) (ms zs : List Int) (t : Bool) (due : AV) : scopeOK (fdScope d_law_is_sum.st) (isL f p ms zs t due) = true := by kernel_rfl
theorem issum_ok (O : ObjInt c) : FnOK c 7 (.ref 971) sumS' := d_law_is_sum.runV d_law_is_sum_ok O 19 sumS' fun args m => by
 unfold sumS'; split
 ·rename_i d h
  refine .inr ⟨_, _, _, rfl, fun g => ?_⟩
  rw [sumA_some h]
  obtain ⟨x1, x2, x3, x4, x5, e, h5⟩ := g.due
  rw [g.za, e]
  exact ⟨isFs, _, _, _, mem1 ((wrap_ok O : FnOK c 6 _ _)) (mem1 ((scont_ok O).le (by decide)) mem0), d_law_is_sum_as c _ _ _ _ _ _, sum_scope _ _ _ _ _ _, sum_runs d.f d.p d.ms (zsA d.za) d.t m x1 x2 x3 x4 x5 h5 g.k g.hm g.hz g.hh, .refl _⟩
 ·exact .inl no_stuck
noncomputable def Pen.raw (p : Pen) : MO := .lst [.lst (p.xs.map .int), .int p.i, .int p.d]
noncomputable def pointO (p0 : Pen) : FSem := fun args m => match penA args with
 | true => match penOf m with
  | some p => .req (PtrG p) (.leaf (.tup [p.ptr.r.av, .ints p.ptr.zs], [p.ptr.p.mo]))
  | none => .req (m = [p0.raw] ∧ PtrG p0) (.leaf (.tup [p0.ptr.r.av, .ints p0.ptr.zs], [p0.ptr.p.mo]))
 | false => .stuck "_law_pointer"
theorem Inv.cook {A : Around} {g : Gh} {s : Shared} {p : Pen} (I : Inv c A g s [p.raw]) : Inv c A g s [p.mo] where
 frz := I.frz
 base := I.base
 len := I.len
 cell := fun k mo l e1 e2 => by
  cases k with
  | zero =>
   cases e1
   obtain ⟨a, vs, h1, h2, h3⟩ := I.cell 0 p.raw l rfl e2
   refine ⟨a, vs, h1, h2, ?_⟩
   cases h3 with | cons r1 r => exact .cons (Cv.ints p.xs _ _ _ r1) r
  | succ k => cases e1
 nd := I.nd
 free := I.free
 stk := I.stk
theorem pointO_ok (O : ObjInt c) (p0 : Pen) : FnOK c 9 (.ref 950) (pointO p0) where
 keep := (point_ok O).keep
 call := fun A s g m args vs hr I r => by
  unfold pointO
  split
  ·rename_i h1
   have ea := penA_eq h1
   split
   ·rename_i p hp
    have := (point_ok O).call A s g m args vs hr I r
    unfold pointS at this
    rw [h1, hp] at this
    exact this
   ·refine Tri.req fun ⟨e, G⟩ => ?_
    subst e
    have := (point_ok O).call A s g _ args vs hr I.cook r
    unfold pointS at this
    rw [h1, show penOf [p0.mo] = some p0 from rfl] at this
    exact fun Q E K KX hA hQ hE => this Q E K KX ⟨G, hA⟩ hQ hE
  ·exact Tri.stuck
end
noncomputable def lawStm : Stmt := stmtAt 108
noncomputable def lawFs (p0 : Pen) : List (FK × FSem) := [(.ty "int", intS), (.ref 950, pointO p0), variedF, (.ref 505, numS), drawF, noneF, regF, rtoldF, addedF, rightF, sconstF, lfarF, (.bi "abs", absS), (.ty "range", rangeS), (.ref 957, dueS), (.ref 971, sumS')]
noncomputable def lawC (p0 : Pen) : Cfg := { cfg (lawFs p0) ["pen"] with scope := fdScope lawStm }
noncomputable def lawSt (i : Nat) : Stmt := (fdBody lawStm).getD i (.Pass default)
noncomputable def turnB : Expr × List Stmt := forPart (lawSt 1)
noncomputable def tuSt (i : Nat) : Stmt := turnB.2.getD i (.Pass default)
noncomputable def lawR1 (p0 : Pen) : Rec := run 19 (lawC p0)
noncomputable def lawR2 (p0 : Pen) : Rec := run 18 (lawC p0)
noncomputable def waysB : Expr × List Stmt := forPart (tuSt 6)
noncomputable def lbSt (i : Nat) : Stmt := waysB.2.getD i (.Pass default)
inductive Tl where
 | nil
 | three (a b d : AV)
 | four (a b d e : AV)
noncomputable def Tl.l7 : Tl → Lo
 | .nil => []
 | .three a b d => [(S "is_minus", a), (S "due", b), (S "found", d)]
 | .four a b d e => [(S "is_minus", a), (S "due", b), (S "found", d), (S "other_tip", e)]
noncomputable def Tl.l8 : Tl → Lo
 | .nil => []
 | .three a b d => [(S "due", b), (S "found", d)]
 | .four a b d e => [(S "due", b), (S "found", d), (S "other_tip", e)]
noncomputable def Tl.l9 : Tl → Lo
 | .nil => []
 | .three a b d => [(S "found", d)]
 | .four a b d e => [(S "found", d), (S "other_tip", e)]
noncomputable def Tl.l10 : Tl → Lo
 | .four a b d e => [(S "other_tip", e)]
 | _ => []
structure Old where
 tip : AV
 ms : AV
 sc : AV
 zs : AV
 num : AV
 way : AV
 told : AV
 a : AV
 b : AV
 d : AV
 e : AV
noncomputable def Old.l : Option Old → Lo
 | none => []
 | some o => [(S "tip", o.tip), (S "members", o.ms), (S "scalar", o.sc), (S "others", o.zs), (S "number", o.num), (S "way", o.way), (S "told", o.told), (S "is_minus", o.a), (S "due", o.b), (S "found", o.d), (S "other_tip", o.e)]
noncomputable def Old.tl : Option Old → Tl
 | none => .nil
 | some o => .four o.a o.b o.d o.e
section
variable (p0 : Pen) (xs : List Int) (k : Int) (o : Option Old) (tl : Tl) (tip num : Rg) (ms : List Int) (s : Sc) (za : AV) (w : Int) (t : Bool) (due found : AV) (ot : Rg)
noncomputable abbrev lb0 : Lo := [(S "script", .ints xs), (S "pen", .hnd 0), (S "turn", .int k)]
noncomputable abbrev T0 : Lo := lb0 xs k ++ Old.l o
noncomputable abbrev T1 : Lo := lb0 xs k ++ [(S "tip", tip.av), (S "members", .ints ms)] ++ (Old.l o).drop 2
noncomputable abbrev T2 : Lo := lb0 xs k ++ [(S "tip", tip.av), (S "members", .ints ms), (S "scalar", s.av), (S "others", za)] ++ (Old.l o).drop 4
noncomputable abbrev T3 : Lo := lb0 xs k ++ [(S "tip", tip.av), (S "members", .ints ms), (S "scalar", s.av), (S "others", za), (S "number", num.av)] ++ (Old.l o).drop 5
noncomputable abbrev T4 : Lo := lb0 xs k ++ [(S "tip", tip.av), (S "members", .ints ms), (S "scalar", s.av), (S "others", za), (S "number", num.av), (S "way", .int w)] ++ (Old.l o).drop 6
noncomputable abbrev TB : Lo := lb0 xs k ++ [(S "tip", tip.av), (S "members", .ints ms), (S "scalar", s.av), (S "others", za), (S "number", num.av), (S "way", .int w), (S "told", tip.told)]
noncomputable abbrev T5 : Lo := TB xs k tip num ms s za w ++ tl.l7
noncomputable abbrev T6 : Lo := TB xs k tip num ms s za w ++ [(S "is_minus", .bool t)] ++ tl.l8
noncomputable abbrev T7 : Lo := TB xs k tip num ms s za w ++ [(S "is_minus", .bool t), (S "due", due)] ++ tl.l9
noncomputable abbrev T8 : Lo := TB xs k tip num ms s za w ++ [(S "is_minus", .bool t), (S "due", due), (S "found", found)] ++ tl.l10
noncomputable abbrev T9 : Lo := TB xs k tip num ms s za w ++ [(S "is_minus", .bool t), (S "due", due), (S "found", found), (S "other_tip", ot.av)]
noncomputable abbrev lexT (i : Nat) (lo : Lo) (m : Mem) := exT (lawC p0) (lawR2 p0) (tuSt i) lo m
theorem ts0 (p : Pen) (h : PtrG p) : Runs (lexT p0 0 (T0 xs k o) [p.mo]) ((.next, T1 xs k o p.ptr.r p.ptr.zs), [p.ptr.p.mo]) := by
 cases o <;> exact Runs.by [] (PtrG p ∧ True) (by kernel_rfl) (by kernel_rfl) ⟨h, trivial⟩
theorem ts0r (h : PtrG p0) : Runs (lexT p0 0 (T0 xs k o) [p0.raw]) ((.next, T1 xs k o p0.ptr.r p0.ptr.zs), [p0.ptr.p.mo]) := by
 cases o <;> exact Runs.by [] (([p0.raw] = [p0.raw] ∧ PtrG p0) ∧ True) (by kernel_rfl) (by kernel_rfl) ⟨⟨rfl, h⟩, trivial⟩
theorem ts1 (p : Pen) (h : VarG p) : Runs (lexT p0 1 (T1 xs k o tip ms) [p.mo]) ((.next, T2 xs k o tip ms p.var.s (.ints p.var.zs)), [p.var.p.mo]) := by
 cases o <;> exact Runs.by [] (VarG p ∧ True) (by kernel_rfl) (by kernel_rfl) ⟨h, trivial⟩
theorem ts2 (m : Mem) : Runs (lexT p0 2 (T2 xs k o tip ms s za) m) ((.next, T3 xs k o tip (rnum s 0) ms s za), m) := by
 cases o <;> exact Runs.by [] True (by kernel_rfl) (by kernel_rfl) trivial
theorem ts3 (p : Pen) (h : drG p 9) : Runs (lexT p0 3 (T3 xs k o tip num ms s za) [p.mo]) ((.next, T4 xs k o tip num ms s za (p.draw 9)), [(p.next 9).mo]) := by
 cases o <;> exact Runs.by [] (drG p 9 ∧ True) (by kernel_rfl) (by kernel_rfl) ⟨h, trivial⟩
theorem ts4f (m : Mem) (h : decide (w < 2) = false) : Runs (lexT p0 4 (T4 xs k o tip num ms s za w) m) ((.next, T4 xs k o tip num ms s za w), m) := by
 cases o <;> exact Runs.by [false] (decide (w < 2) = false ∧ True) (by kernel_rfl) (by kernel_rfl) ⟨h, trivial⟩
noncomputable def rpe : Rg := ⟨S "packet_end", 0, .const 0, 0, -1, 0, 0, 0⟩
theorem ts4a (m : Mem) : Runs (lexT p0 4 (T4 xs k o tip num ms s za 0) m) ((.next, T4 xs k o tip rnone ms s (.lst [.int 0]) 0), m) := by
 cases o <;> exact Runs.by [true] (true = true ∧ True) (by kernel_rfl) (by kernel_rfl) ⟨rfl, trivial⟩
theorem ts4b (m : Mem) : Runs (lexT p0 4 (T4 xs k o tip num ms s za 1) m) ((.next, T4 xs k o tip rpe ms s (.lst [.int 0]) 1), m) := by
 cases o <;> exact Runs.by [true] (true = true ∧ True) (by kernel_rfl) (by kernel_rfl) ⟨rfl, trivial⟩
theorem ts5 (m : Mem) : Runs (lexT p0 5 (T4 xs k o tip num ms s za w) m) ((.next, T5 xs k (Old.tl o) tip num ms s za w), m) := by
 cases o <;> exact Runs.by [] True (by kernel_rfl) (by kernel_rfl) trivial
noncomputable abbrev bexT (i : Nat) (lo : Lo) (m : Mem) := exT (lawC p0) (run 17 (lawC p0)) (lbSt i) lo m
theorem bs0 (m : Mem) (h : DueG ⟨tip, num, ms, za, t, 5⟩) : Runs (bexT p0 0 (T6 xs k tl tip num ms s za w t) m) ((.next, T7 xs k tl tip num ms s za w t (dueVal ⟨tip, num, ms, za, t, 5⟩)), m) := by
 cases tl <;> exact Runs.by [] (DueG ⟨tip, num, ms, za, t, 5⟩ ∧ True) (by kernel_rfl) (by kernel_rfl) ⟨h, trivial⟩
theorem bs1 (m : Mem) (b : Bool) (h : addOK tip num t) (hb : addB tip num t = b) : Runs (bexT p0 1 (T7 xs k tl tip num ms s za w t due) m) ((.next, T8 xs k tl tip num ms s za w t due (addV b (addR tip num t 5))), m) := by
 cases b
 ·cases tl <;> exact Runs.by [false] (addOK tip num t ∧ addB tip num t = false ∧ True) (by kernel_rfl) (by kernel_rfl) ⟨h, hb, trivial⟩
 ·cases tl <;> exact Runs.by [true] (addOK tip num t ∧ addB tip num t = true ∧ True) (by kernel_rfl) (by kernel_rfl) ⟨h, hb, trivial⟩
theorem bs2n (m : Mem) : Runs (bexT p0 2 (T8 xs k tl tip num ms s za w t .none (.int 7)) m) ((.next, T8 xs k tl tip num ms s za w t .none (.int 7)), m) := by
 cases tl <;> exact Runs.by [true, false] (true = true ∧ (!((7 : Int) == 7)) = false ∧ True) (by kernel_rfl) (by kernel_rfl) ⟨rfl, rfl, trivial⟩
theorem bs2s (m : Mem) (f : Rg) (x1 x2 x3 x4 x5 : Int) (h : SumG ⟨f, tip, ms, za, t, five x1 x2 x3 x4 x5⟩) : Runs (bexT p0 2 (T8 xs k tl tip num ms s za w t (five x1 x2 x3 x4 x5) f.av) m) ((.next, T8 xs k tl tip num ms s za w t (five x1 x2 x3 x4 x5) f.av), m) := by
 cases tl <;> exact Runs.by [false, false, false, false] (false = false ∧ false = false ∧ SumG ⟨f, tip, ms, za, t, five x1 x2 x3 x4 x5⟩ ∧ false = false ∧ false = false ∧ True) (by kernel_rfl) (by kernel_rfl) ⟨rfl, rfl, h, rfl, rfl, trivial⟩
theorem ts7 (p : Pen) (h : PtrG p) : Runs (lexT p0 7 (T8 xs k tl tip num ms s za w t due found) [p.mo]) ((.next, T9 xs k tip num ms s za w t due found p.ptr.r), [p.ptr.p.mo]) := by
 cases tl <;> exact Runs.by [] (PtrG p ∧ True) (by kernel_rfl) (by kernel_rfl) ⟨h, trivial⟩
theorem ts8a (p : Pen) (hw : decide (1 < w) = true) (h : drG p 90) (hn : num = rnum num.s 0 ∧ DArg tip num.s ot (p.draw 90 - 40)) : Runs (lexT p0 8 (T9 xs k tip num ms s za w t due found ot) [p.mo]) ((.next, T9 xs k tip num ms s za w t due found ot), [(p.next 90).mo]) :=
 Runs.by [true, false] (decide (1 < w) = true ∧ drG p 90 ∧ (num = rnum num.s 0 ∧ DArg tip num.s ot (p.draw 90 - 40)) ∧ false = false ∧ True) (by kernel_rfl) (by kernel_rfl) ⟨hw, h, hn, rfl, trivial⟩
theorem ts8b (p : Pen) (hw : decide (1 < w) = false) (h : drG p 90) (hn : rnum s 0 = rnum s 0 ∧ DArg tip s ot (p.draw 90 - 40)) : Runs (lexT p0 8 (T9 xs k tip num ms s za w t due found ot) [p.mo]) ((.next, T9 xs k tip num ms s za w t due found ot), [(p.next 90).mo]) :=
 Runs.by [false, false] (decide (1 < w) = false ∧ drG p 90 ∧ (rnum s 0 = rnum s 0 ∧ DArg tip s ot (p.draw 90 - 40)) ∧ false = false ∧ True) (by kernel_rfl) (by kernel_rfl) ⟨hw, h, hn, rfl, trivial⟩
theorem ts9 (m : Mem) : Runs (lexT p0 9 (T9 xs k tip num ms s za w t due found ot) m) ((.next, T9 xs k tip num ms s za w t due found ot), m) :=
 Runs.by [false] (neB false tip = false ∧ True) (by kernel_rfl) (by kernel_rfl) ⟨ne_same _ _, trivial⟩
end
structure OneG (tip num : Rg) (ms : List Int) (za : AV) (t : Bool) : Prop where
 dueg : DueG ⟨tip, num, ms, za, t, 5⟩
 ok : addOK tip num t
 agree : (addB tip num t = true ∧ dueVal ⟨tip, num, ms, za, t, 5⟩ = .none) ∨ (addB tip num t = false ∧ ∃ x1 x2 x3 x4 x5, dueVal ⟨tip, num, ms, za, t, 5⟩ = five x1 x2 x3 x4 x5 ∧ SumG ⟨addR tip num t 5, tip, ms, za, t, five x1 x2 x3 x4 x5⟩)
noncomputable def Tl.next (due found : AV) (t : Bool) : Tl → Tl
 | .four _ _ _ e => .four (.bool t) due found e
 | _ => .three (.bool t) due found
section
variable (p0 : Pen) (xs : List Int) (k : Int) (o : Option Old) (tl : Tl) (tip num : Rg) (ms : List Int) (s : Sc) (za : AV) (w : Int) (t : Bool) (due found : AV) (ot : Rg) (m : Mem)
theorem lb_asg : asgT (lawC p0) waysB.1 (.bool t) (T5 xs k tl tip num ms s za w) = some (T6 xs k tl tip num ms s za w t) := by
 cases tl <;> kernel_rfl
theorem T8_T5 : T8 xs k tl tip num ms s za w t due found = T5 xs k (tl.next due found t) tip num ms s za w := by
 cases tl <;> kernel_rfl
theorem lb_run (h : OneG tip num ms za t) : ∃ due found, Runs ((lawR2 p0).exs waysB.2 (T6 xs k tl tip num ms s za w t) m) ((.next, T8 xs k tl tip num ms s za w t due found), m) := by
 have e : (lawR2 p0).exs waysB.2 (T6 xs k tl tip num ms s za w t) m = exsT (lawC p0) (run 17 (lawC p0)) [lbSt 0, lbSt 1, lbSt 2] (T6 xs k tl tip num ms s za w t) m := by kernel_rfl
 have a0 := bs0 p0 xs k tl tip num ms s za w t m h.dueg
 rcases h.agree with ⟨h1, h2⟩ | ⟨h1, x1, x2, x3, x4, x5, h2, h3⟩
 ·refine ⟨dueVal ⟨tip, num, ms, za, t, 5⟩, .int 7, ?_⟩
  rw [e]
  have a1 := bs1 p0 xs k tl tip num ms s za w t (dueVal ⟨tip, num, ms, za, t, 5⟩) m true h.ok h1
  have a2 := bs2n p0 xs k tl tip num ms s za w t m
  rw [← h2] at a2
  exact a0.cons (a1.cons (a2.cons Runs.nil))
 ·refine ⟨dueVal ⟨tip, num, ms, za, t, 5⟩, (addR tip num t 5).av, ?_⟩
  rw [e]
  have a1 := bs1 p0 xs k tl tip num ms s za w t (dueVal ⟨tip, num, ms, za, t, 5⟩) m false h.ok h1
  have a2 := bs2s p0 xs k tl tip num ms s za w t m (addR tip num t 5) x1 x2 x3 x4 x5 h3
  rw [← h2] at a2
  exact a0.cons (a1.cons (a2.cons Runs.nil))
theorem ts6_eq : lexT p0 6 (T5 xs k tl tip num ms s za w) m = T.req ((2 : Nat) ≤ 1000) (forL (lawC p0) (lawR2 p0) waysB.1 waysB.2 [.bool false, .bool true] (T5 xs k tl tip num ms s za w) m).quiet := by kernel_rfl
theorem ts6 (h : ∀ t, OneG tip num ms za t) : ∃ tl due found, Runs (lexT p0 6 (T5 xs k (Old.tl o) tip num ms s za w) m) ((.next, T8 xs k tl tip num ms s za w true due found), m) := by
 obtain ⟨d1, f1, r1⟩ := lb_run p0 xs k (Old.tl o) tip num ms s za w false m (h false)
 obtain ⟨d2, f2, r2⟩ := lb_run p0 xs k ((Old.tl o).next d1 f1 false) tip num ms s za w true m (h true)
 refine ⟨(Old.tl o).next d1 f1 false, d2, f2, ?_⟩
 rw [ts6_eq]
 have a2 := forL_cons (t := waysB.1) (lb_asg p0 xs k ((Old.tl o).next d1 f1 false) tip num ms s za w true) r2 forL_nil
 rw [← T8_T5 xs k (Old.tl o) tip num ms s za w false d1 f1] at a2
 have a1 := forL_cons (lb_asg p0 xs k (Old.tl o) tip num ms s za w false) r1 a2
 exact ⟨fun K KX q => ⟨by decide, T.all_quiet (a1.all _ _ q)⟩⟩
end
noncomputable def numOf (w : Int) (s : Sc) : Rg := if w = 0 then rnone else if w = 1 then rpe else rnum s 0
noncomputable def zaOf (w : Int) (zs : List Int) : AV := if w = 0 ∨ w = 1 then .lst [.int 0] else .ints zs
noncomputable def Pen.tv (p : Pen) : Var := p.ptr.p.var
noncomputable def Pen.tw (p : Pen) : Int := p.tv.p.draw 9
noncomputable def Pen.tq (p : Pen) : Pen := p.tv.p.next 9
noncomputable def Pen.to (p : Pen) : Ptr := p.tq.ptr
noncomputable def Pen.tn (p : Pen) : Pen := p.to.p.next 90
structure TurnG (p : Pen) : Prop where
 a : PtrG p
 b : VarG p.ptr.p
 d : drG p.tv.p 9
 e : PtrG p.tq
 f : drG p.to.p 90
 one : ∀ t, OneG p.ptr.r (numOf p.tw p.tv.s) p.ptr.zs (zaOf p.tw p.tv.zs) t
 arg : DArg p.ptr.r p.tv.s p.to.r (p.to.p.draw 90 - 40)
theorem tu_eq (p0 : Pen) (lo : Lo) (m : Mem) : (lawR1 p0).exs turnB.2 lo m = exsT (lawC p0) (lawR2 p0) [tuSt 0, tuSt 1, tuSt 2, tuSt 3, tuSt 4, tuSt 5, tuSt 6, tuSt 7, tuSt 8, tuSt 9] lo m := by kernel_rfl
theorem ts4 (p0 : Pen) (xs : List Int) (k : Int) (o : Option Old) (tip : Rg) (ms zs : List Int) (s : Sc) (w : Int) (m : Mem) (h : 0 ≤ w) :
  Runs (lexT p0 4 (T4 xs k o tip (rnum s 0) ms s (.ints zs) w) m) ((.next, T4 xs k o tip (numOf w s) ms s (zaOf w zs) w), m) := by
 unfold numOf zaOf
 by_cases h0 : w = 0
 ·subst h0; exact ts4a p0 xs k o tip (rnum s 0) ms s (.ints zs) m
 ·by_cases h1 : w = 1
  ·subst h1; exact ts4b p0 xs k o tip (rnum s 0) ms s (.ints zs) m
  ·rw [if_neg h0, if_neg h1, if_neg (by simp_all)]
   exact ts4f p0 xs k o tip (rnum s 0) ms s (.ints zs) w m (by simp; lia)
theorem ts8 (p0 : Pen) (xs : List Int) (k : Int) (tip : Rg) (ms : List Int) (s : Sc) (za : AV) (w : Int) (t : Bool) (due found : AV) (ot : Rg) (p : Pen) (hw : 0 ≤ w) (h : drG p 90) (hn : DArg tip s ot (p.draw 90 - 40)) :
  Runs (lexT p0 8 (T9 xs k tip (numOf w s) ms s za w t due found ot) [p.mo]) ((.next, T9 xs k tip (numOf w s) ms s za w t due found ot), [(p.next 90).mo]) := by
 by_cases h1 : 1 < w
 ·have e : numOf w s = rnum s 0 := by unfold numOf; rw [if_neg (by lia), if_neg (by lia)]
  rw [e]
  exact ts8a p0 xs k tip (rnum s 0) ms s za w t due found ot p (by simpa using h1) h ⟨rfl, hn⟩
 ·exact ts8b p0 xs k tip (numOf w s) ms s za w t due found ot p (by simpa using h1) h ⟨rfl, hn⟩
theorem turn_runs (p0 : Pen) (xs : List Int) (k : Int) (o : Option Old) (p : Pen) (c0 : MO) (hc : c0 = p.mo ∨ (c0 = p0.raw ∧ p = p0)) (G : TurnG p) :
  ∃ o', Runs ((lawR1 p0).exs turnB.2 (T0 xs k o) [c0]) ((.next, T0 xs k (some o')), [p.tn.mo]) := by
 have a0 : Runs (lexT p0 0 (T0 xs k o) [c0]) ((.next, T1 xs k o p.ptr.r p.ptr.zs), [p.ptr.p.mo]) := by
  rcases hc with rfl | ⟨rfl, rfl⟩
  ·exact ts0 p0 xs k o p G.a
  ·exact ts0r p xs k o G.a
 have a1 := ts1 p0 xs k o p.ptr.r p.ptr.zs p.ptr.p G.b
 have a2 := ts2 p0 xs k o p.ptr.r p.ptr.zs p.tv.s (.ints p.tv.zs) [p.tv.p.mo]
 have a3 := ts3 p0 xs k o p.ptr.r (rnum p.tv.s 0) p.ptr.zs p.tv.s (.ints p.tv.zs) p.tv.p G.d
 have hw : 0 ≤ p.tw := (draw_range p.tv.p (show (0 : Int) < 9 by decide)).1
 have a4 := ts4 p0 xs k o p.ptr.r p.ptr.zs p.tv.zs p.tv.s p.tw [p.tq.mo] hw
 have a5 := ts5 p0 xs k o p.ptr.r (numOf p.tw p.tv.s) p.ptr.zs p.tv.s (zaOf p.tw p.tv.zs) p.tw [p.tq.mo]
 obtain ⟨tl, due, found, a6⟩ := ts6 p0 xs k o p.ptr.r (numOf p.tw p.tv.s) p.ptr.zs p.tv.s (zaOf p.tw p.tv.zs) p.tw [p.tq.mo] G.one
 have a7 := ts7 p0 xs k tl p.ptr.r (numOf p.tw p.tv.s) p.ptr.zs p.tv.s (zaOf p.tw p.tv.zs) p.tw true due found p.tq G.e
 have a8 := ts8 p0 xs k p.ptr.r p.ptr.zs p.tv.s (zaOf p.tw p.tv.zs) p.tw true due found p.to.r p.to.p hw G.f G.arg
 have a9 := ts9 p0 xs k p.ptr.r (numOf p.tw p.tv.s) p.ptr.zs p.tv.s (zaOf p.tw p.tv.zs) p.tw true due found p.to.r [p.tn.mo]
 refine ⟨⟨p.ptr.r.av, .ints p.ptr.zs, p.tv.s.av, zaOf p.tw p.tv.zs, (numOf p.tw p.tv.s).av, .int p.tw, p.ptr.r.told, .bool true, due, found, p.to.r.av⟩, ?_⟩
 rw [tu_eq]
 exact a0.cons (a1.cons (a2.cons (a3.cons (a4.cons (a5.cons (a6.cons (a7.cons (a8.cons (a9.cons Runs.nil)))))))))
end
section
open PySem
noncomputable def pm (t : Bool) (a b : Int) : Int := match t with
 | true => a - b
 | false => a + b
noncomputable def sumsOf (ms zs : List Int) (t : Bool) : List Int := ms.flatMap fun a => zs.map fun b => pm t a b
theorem sums_mem {ms zs : List Int} {t : Bool} {u : Int} : u ∈ sumsOf ms zs t ↔ ∃ a ∈ ms, ∃ b ∈ zs, pm t a b = u := by
 unfold sumsOf
 simp only [List.mem_flatMap, List.mem_map]
theorem wo_nonneg (v w : Int) : 0 ≤ without1 v w := by
 unfold without1
 have h0 : 0 ≤ wrapZ 64 v := by rw [wrap64]; exact mod_nonneg _ 64
 have h1 : 0 ≤ wrapZ 64 w := by rw [wrap64]; exact mod_nonneg _ 64
 have := le_of_tb (x := Builtin.bitAnd (wrapZ 64 v) (wrapZ 64 w)) (y := wrapZ 64 v) (and_nonneg h1) h0 fun i q => by rw [tb_and] at q; simp at q; exact q.1
 simp_all
theorem wrap_nonneg (v : Int) : 0 ≤ wrapZ 64 v := by rw [wrap64]; exact mod_nonneg _ 64
theorem Hold.range {s : Sc} {zs : List Int} {B : Int} (H : Hold s zs B) : (∀ u ∈ zs, s.x.d ≤ u ∧ u ≤ s.x.e) ∧ s.x.d ∈ zs ∧ s.x.e ∈ zs := by
 obtain ⟨l1, l2⟩ := minL_spec H.ne
 obtain ⟨l3, l4⟩ := maxL_spec H.ne
 rw [H.lo, H.hi]
 exact ⟨fun u hu => ⟨l2 u hu, l4 u hu⟩, l1, l3⟩
theorem sum_good {p q : Sc} {ms zs : List Int} (hp : Hold p ms BB) (hq : Hold q zs BB) (t : Bool) :
  sumOK t p q ∧ Good (ZS (sumsOf ms zs t)) (sumZ t p q).v (sumZ t p q).w (sumZ t p q).x ∧ (sumZ t p q).x.d = lowD ms (minL zs) (maxL zs) t ∧ (sumZ t p q).x.e = highD ms (minL zs) (maxL zs) t := by
 obtain ⟨p1, p2, p3⟩ := hp.range
 obtain ⟨q1, q2, q3⟩ := hq.range
 have bb : BB = 2199023255552 := rfl
 have bp2 := hp.bnd _ p2
 have bp3 := hp.bnd _ p3
 have bq2 := hq.bnd _ q2
 have bq3 := hq.bnd _ q3
 rw [bb] at bp2 bp3 bq2 bq3
 have fin : ∀ {v w a b u1 u2 : Int}, 0 ≤ v → 0 ≤ w → -9223372036854775808 ≤ a → b < 9223372036854775808 → (∀ u ∈ sumsOf ms zs t, gam v w (u % W64) ∧ a ≤ u ∧ u ≤ b) → a ∈ sumsOf ms zs t → b ∈ sumsOf ms zs t →
   madeOK v w (topEn a b) ∧ Good (ZS (sumsOf ms zs t)) (madeZ v w (topEn a b)).v (madeZ v w (topEn a b)).w (madeZ v w (topEn a b)).x ∧ (madeZ v w (topEn a b)).x.d = a ∧ (madeZ v w (topEn a b)).x.e = b := by
  intro v w a b u1 u2 hv hw ha hb h m1 m2
  obtain ⟨ok, g, r⟩ := made_good ⟨_, a, m1, rfl⟩ (good_top hv hw ha hb h)
  have c1 := (g.mem _ ⟨a, m1, rfl⟩).d
  have c2 := (g.mem _ ⟨b, m2, rfl⟩).e
  have := (h a m1).2
  have := (h b m2).2
  rw [sgn_small (by lia) (by omega)] at c1 c2
  have r1 : a ≤ _ := r.d
  have r2 : _ ≤ b := r.e
  exact ⟨ok, g, by lia, by lia⟩
 cases t with
 | true =>
  have := fin (v := without1 (p.v - q.v) (tsubM p.v p.w q.v q.w)) (w := wrapZ 64 (tsubM p.v p.w q.v q.w)) (a := p.x.d - q.x.e) (b := p.x.e - q.x.d) (u1 := 0) (u2 := 0) (wo_nonneg _ _) (wrap_nonneg _) (by lia) (by omega)
   (fun u hu => by
    obtain ⟨a, ha, b, hb, rfl⟩ := sums_mem.mp hu
    have e : (a % W64 - b % W64) % 2 ^ 64 = pm true a b % W64 := by
     rw [e64]; show (a % 18446744073709551616 - b % 18446744073709551616) % 18446744073709551616 = (a - b) % 18446744073709551616; simp_all
    refine ⟨e ▸ sub_sound (hp.good.mem _ ⟨a, ha, rfl⟩).g (hq.good.mem _ ⟨b, hb, rfl⟩).g, ?_⟩
    have := p1 a ha
    have := q1 b hb
    show _ ≤ a - b ∧ a - b ≤ _
    omega)
   (sums_mem.mpr ⟨_, p2, _, q3, rfl⟩) (sums_mem.mpr ⟨_, p3, _, q2, rfl⟩)
  refine ⟨this.1, this.2.1, ?_, ?_⟩
  ·show (sumZ true p q).x.d = minL ms - maxL zs
   rw [← hp.lo, ← hq.hi]; exact this.2.2.1
  ·show (sumZ true p q).x.e = maxL ms - minL zs
   rw [← hp.hi, ← hq.lo]; exact this.2.2.2
 | false =>
  have := fin (v := without1 (p.v + q.v) (taddM p.v p.w q.v q.w)) (w := wrapZ 64 (taddM p.v p.w q.v q.w)) (a := p.x.d + q.x.d) (b := p.x.e + q.x.e) (u1 := 0) (u2 := 0) (wo_nonneg _ _) (wrap_nonneg _) (by lia) (by lia)
   (fun u hu => by
    obtain ⟨a, ha, b, hb, rfl⟩ := sums_mem.mp hu
    have e : (a % W64 + b % W64) % 2 ^ 64 = pm false a b % W64 := by
     rw [e64]; show (a % 18446744073709551616 + b % 18446744073709551616) % 18446744073709551616 = (a + b) % 18446744073709551616; simp_all
    refine ⟨e ▸ add_sound (hp.good.mem _ ⟨a, ha, rfl⟩).g (hq.good.mem _ ⟨b, hb, rfl⟩).g, ?_⟩
    have := p1 a ha
    have := q1 b hb
    show _ ≤ a + b ∧ a + b ≤ _
    omega)
   (sums_mem.mpr ⟨_, p2, _, q2, rfl⟩) (sums_mem.mpr ⟨_, p3, _, q3, rfl⟩)
  refine ⟨this.1, this.2.1, ?_, ?_⟩
  ·show (sumZ false p q).x.d = minL ms + minL zs
   rw [← hp.lo, ← hq.lo]; exact this.2.2.1
  ·show (sumZ false p q).x.e = maxL ms + maxL zs
   rw [← hp.hi, ← hq.hi]; exact this.2.2.2
theorem nb4_mov {k : Str} (h : k ∈ kinds9) : nb4 k = !(movB k) := by
 simp only [kinds9, List.mem_cons, List.not_mem_nil, or_false] at h
 rcases h with h | h | h | h | h | h | h | h | h <;> subst h <;> kernel_rfl
theorem one_off {P num : Rg} {ms : List Int} {za : AV} {t : Bool} (h : (num.k == S "scalar") = false) : OneG P num ms za t where
 dueg := fun _ q => by
  have q : (num.k == S "scalar") = true := q
  rw [h] at q; cases q
 ok := fun _ q => by rw [h] at q; cases q
 agree := .inl ⟨by unfold addB; rw [h]; simp, by unfold dueVal; dsimp only; rw [h]; cases nb4 P.k <;> rfl⟩
theorem dueV2_many {p q : Rg} {ms zs : List Int} {t : Bool} {fr : Int} (h : 2 ≤ zs.length) : dueV2 p q ms t fr zs = match vN p (minL zs) (maxL zs) (lowD ms (minL zs) (maxL zs) t) (highD ms (minL zs) (maxL zs) t) with
  | true => .none
  | false => vV p fr (lowD ms (minL zs) (maxL zs) t) (highD ms (minL zs) (maxL zs) t) := by
 match zs, h with
 | _ :: _ :: _, _ => rfl
theorem ne5_same (a b d e f : Int) : ne5 a b d e f a b d e f = false := by simp [ne5]
theorem contains_good {s : Sc} {Z : Int → Prop} (G : Good Z s.v s.w s.x) {x : Int} (h : Z (x % W64)) : containsB s.v s.w s.x (wrapZ 64 x) = true := by
 rw [wrap64_num]; exact contains_of (G.mem _ h) G.v0 G.w0
theorem far_eq (x : Int) : farB x = decide (FARZ ≤ (x.natAbs : Int)) := by
 unfold farB
 by_cases h : -536870912 < x ∧ x < 536870912
 ·rw [decide_eq_true h.1, decide_eq_true h.2, decide_eq_false (by show ¬ (536870912 : Int) ≤ _; omega)]; rfl
 ·by_cases h1 : -536870912 < x
  ·rw [decide_eq_true h1, decide_eq_false (by simp_all), decide_eq_true (by show (536870912 : Int) ≤ _; lia)]; rfl
  ·rw [decide_eq_false h1, Bool.false_and, decide_eq_true (show FARZ ≤ (x.natAbs : Int) from by show (536870912 : Int) ≤ _; omega)]; rfl
theorem same_ends (a b d e : Int) : ((decide (a < -536870912) || decide (b > 536870912)) || (decide (d < -536870912) || decide (e > 536870912))) = (decide (min a d < -FARZ) || decide (FARZ < max b e)) := by
 rw [Bool.eq_iff_iff]
 simp only [Bool.or_eq_true, decide_eq_true_eq]
 show _ ↔ min a d < -536870912 ∨ 536870912 < max b e
 lia
theorem neK_same (P f : Rg) (h1 : f.k = P.k) (h2 : f.mn = P.mn) (h3 : f.ro = P.ro) (h4 : f.fr = P.fr) : neK f P = false := by unfold neK; rw [h1, h2, h3, h4]; simp
theorem one_num {P : Rg} {ms zs : List Int} {s : Sc} (hp : PtrOK P ms) (hs : Hold s zs BB) (t : Bool) : OneG P (rnum s 0) ms (.ints zs) t := by
 obtain ⟨sok, sG, sd, se⟩ := sum_good hp.s hs t
 have hk := nb4_mov hp.k
 have sk : ((rnum s 0).k == S "scalar") = true := (num_ptr s).2.2.1
 have hl := hs.len
 have hl2 := hp.s.len
 refine ⟨fun _ _ => ⟨rfl, hs.ne, hp.s.ne, by show zs.length ≤ _; lia⟩, fun _ _ _ _ _ => sok, ?_⟩
 cases hm : movB P.k with
 | false =>
  rw [hm] at hk
  exact .inl ⟨by unfold addB; rw [hm]; rfl, by unfold dueVal; dsimp only; rw [hk, sk]; rfl⟩
 | true =>
  rw [hm] at hk
  have dv : dueVal ⟨P, rnum s 0, ms, .ints zs, t, 5⟩ = dueV2 P (rnum s 0) ms t 5 zs := by unfold dueVal; dsimp only; rw [hk, sk]; rfl
  by_cases hw : s.w = 0
  ·obtain ⟨z, rfl, hv⟩ := hs.one hw
   have hz := hs.bnd z (.head _)
   have bb : BB = 2199023255552 := rfl
   rw [bb] at hz
   have e1 : stepZ (rnum s 0) = z := by show sgnZ 64 s.v = z; rw [hv]; exact sgn_small (by lia) (by omega)
   have e2 : stepD z = z := by show sgnZ 64 (wrapZ 64 z) = z; rw [wrap64_num]; exact sgn_small (by lia) (by lia)
   have e3 : koff P (rnum s 0) t = offD P.o z t := by unfold koff offD; rw [e1, e2]; cases t <;> rfl
   have ab : addB P (rnum s 0) t = (f1D z || f2D P.o z t) := by
    unfold addB knownB
    rw [hm, sk, show ((rnum s 0).s.w == 0) = true from by show (s.w == 0) = true; rw [hw]; rfl, e1, e3, far_eq, far_eq]
    unfold f1D f2D
    rw [e2]; rfl
   have ar : addR P (rnum s 0) t 5 = P.off (offD P.o z t) := by
    unfold addR
    rw [sk, show ((rnum s 0).s.w == 0) = true from by show (s.w == 0) = true; rw [hw]; rfl, e3]; rfl
   have dv2 : dueV2 P (rnum s 0) ms t 5 [z] = match f1D z || f2D P.o z t with
    | true => .none
    | false => five (offD P.o z t) (minL ms) (maxL ms) P.nu P.re := rfl
   rw [dv, dv2, ab, ar]
   cases (f1D z || f2D P.o z t) with
   | true => exact .inl ⟨rfl, rfl⟩
   | false =>
    refine .inr ⟨rfl, _, _, _, _, _, rfl, ⟨⟨_, _, _, _, _, rfl, ?_⟩, rfl, neK_same _ _ rfl rfl rfl rfl, by show ms.length ≤ _; lia, by show [z].length ≤ _; simp, fun a ha b hb => ?_⟩⟩
    ·show ne5 (offD P.o z t) P.s.x.d P.s.x.e P.nu P.re _ _ _ _ _ = false
     rw [hp.s.lo, hp.s.hi]; exact ne5_same _ _ _ _ _
    ·rw [List.mem_singleton.mp hb]
     unfold holdsB
     have e : placeZ P t a z - (P.off (offD P.o z t)).o = a := by
      show placeZ P t a z - offD P.o z t = a
      unfold placeZ offD; rw [e2]; cases t <;> first | omega | (dsimp only; lia)
     rw [e]
     exact contains_good hp.s.good ⟨a, ha, rfl⟩
  ·have hn := hs.many hw
   have w0 : ((rnum s 0).s.w == 0) = false := by show (s.w == 0) = false; exact beq_eq_false_iff_ne.mpr hw
   have ab : addB P (rnum s 0) t = vN P (minL zs) (maxL zs) (lowD ms (minL zs) (maxL zs) t) (highD ms (minL zs) (maxL zs) t) := by
    unfold addB vB vN
    rw [hm, sk, w0]
    have e := same_ends s.x.d s.x.e (sumZ t P.s s).x.d (sumZ t P.s s).x.e
    show (!true || !true || if (true && false) = true then _ else _) = _
    rw [if_neg (by decide)]
    show (P.k == S "stack" || variesB s || variesB (sumZ t P.s s) || _) = _
    rw [Bool.or_assoc (P.k == S "stack") (variesB s)]
    unfold variesB
    rw [e, hs.lo, hs.hi, sd, se, ← Bool.or_assoc]
    show (_ || (P.k == S "packet" && (decide ((sumZ t P.s s).x.d < 0) || decide (65535 < (sumZ t P.s s).x.e)))) = _
    rw [sd, se]
   have ar : addR P (rnum s 0) t 5 = vR P (rnum s 0) t 5 := by unfold addR; rw [sk, w0]; rfl
   rw [dv, dueV2_many hn, ab, ar]
   cases vN P (minL zs) (maxL zs) (lowD ms (minL zs) (maxL zs) t) (highD ms (minL zs) (maxL zs) t) with
   | true => exact .inl ⟨rfl, rfl⟩
   | false =>
    have hh : ∀ (f : Rg), f.s = sumZ t P.s s → f.o = P.o → ∀ a ∈ ms, ∀ b ∈ zs, holdsB f P t a b = true := fun f h1 h2 a ha b hb => by
     unfold holdsB
     have e : placeZ P t a b - f.o = pm t a b := by rw [h2]; unfold placeZ pm; cases t <;> first | omega | (dsimp only; lia)
     rw [e, h1]
     exact contains_good sG ⟨_, sums_mem.mpr ⟨a, ha, b, hb, rfl⟩, rfl⟩
    unfold vV vR
    cases hq : (P.k == S "packet") with
    | true =>
     refine .inr ⟨rfl, _, _, _, _, _, rfl, ⟨⟨_, _, _, _, _, rfl, ?_⟩, rfl, neK_same _ _ rfl rfl rfl rfl, by show ms.length ≤ _; lia, by show zs.length ≤ _; lia, hh _ rfl rfl⟩⟩
     show ne5 P.o (sumZ t P.s s).x.d (sumZ t P.s s).x.e 5 0 _ _ _ _ _ = false
     rw [sd, se]; exact ne5_same _ _ _ _ _
    | false =>
     refine .inr ⟨rfl, _, _, _, _, _, rfl, ⟨⟨_, _, _, _, _, rfl, ?_⟩, rfl, neK_same _ _ rfl rfl rfl rfl, by show ms.length ≤ _; lia, by show zs.length ≤ _; lia, hh _ rfl rfl⟩⟩
     show ne5 P.o (sumZ t P.s s).x.d (sumZ t P.s s).x.e P.nu P.re _ _ _ _ _ = false
     rw [sd, se]; exact ne5_same _ _ _ _ _
end
section
open PySem PySem.W PyProof.Rows PySem.Calls
theorem T.runs_bind {α β : Type} {t : T α} {f : α → T β} {a : α} {b : β} (h : Runs t a) (h2 : Runs (f a) b) : Runs (t.bind f) b := ⟨fun K KX k => T.all_bind.mpr (h.all _ _ (h2.all K KX k))⟩
theorem T.runs_quiet {α : Type} {t : T α} {a : α} (h : Runs t a) : Runs t.quiet a := ⟨fun K KX k => T.all_quiet (h.all _ _ k)⟩
theorem T.runs_req {α : Type} {t : T α} {a : α} {p : Prop} (hp : p) (h : Runs t a) : Runs (.req p t) a := ⟨fun K KX k => ⟨hp, h.all _ _ k⟩⟩
theorem T.runs_leaf {α : Type} {a : α} : Runs (.leaf a) a := ⟨fun K KX k => k⟩
noncomputable def penPart : Stmt → Option ((Expr × Str) × (List Expr × Scope))
 | .Assign [_] (.List (.BinOp (.ListComp elt [⟨.Name x _, _, ifs, 0⟩] S _) _ _ _ :: _) _) _ => some ((elt, x), (ifs, S))
 | _ => none
noncomputable def scrL (p0 : Pen) (xs : List AV) (m : Mem) : T (List AV × Mem) := match penPart (lawSt 0) with
 | some ((elt, x), (ifs, S)) => compL (run 17 (lawC p0)) (relabelS S (lawC p0).scope) x ifs elt [] xs m
 | none => .stuck "pen"
section
variable (p0 : Pen) (xs : List Int) (m : Mem)
theorem scrL_nil : scrL p0 [] m = .leaf ([], m) := by kernel_rfl
theorem scrL_cons (i : Int) (vs : List AV) : scrL p0 (.int i :: vs) m = (scrL p0 vs m).bind fun r => .leaf (.int i :: r.1, r.2) := by kernel_rfl
theorem scrL_runs : ∀ is : List Int, Runs (scrL p0 (is.map .int) m) (is.map .int, m)
 | [] => by rw [show scrL p0 (([] : List Int).map .int) m = _ from scrL_nil p0 m]; exact T.runs_leaf
 | i :: is => by
  rw [show scrL p0 ((i :: is).map .int) m = _ from scrL_cons p0 m i (is.map .int)]
  exact T.runs_bind (scrL_runs is) T.runs_leaf
theorem law0_eq : exT (lawC p0) (lawR1 p0) (lawSt 0) [(S "script", .ints xs)] [] = T.req ((0 : Int) ≤ 40 ∧ xs.length ≤ 1000) (T.req ((xs.take 40).length ≤ 1000)
  (((((scrL p0 ((xs.take 40).map .int) []).quiet.bind fun r => T.leaf (AV.lst r.1, r.2)).bind fun x => binT .Add x.1 (.lst [.int 23, .int 6]) x.2).bind fun x => T.leaf ([x.1, .int 0, .int 0], x.2)).bind fun r => T.leaf ((Fl.next, [(S "script", .ints xs), (S "pen", .hnd r.2.length)]), r.2 ++ [MO.lst r.1]))) := by kernel_rfl
noncomputable def penIn (xs : List Int) : Pen := ⟨xs.take 40 ++ [23, 6], 0, 0⟩
theorem law0 (h : xs.length ≤ 63) : Runs (exT (lawC p0) (lawR1 p0) (lawSt 0) [(S "script", .ints xs)] []) ((.next, [(S "script", .ints xs), (S "pen", .hnd 0)]), [(penIn xs).raw]) := by
 rw [law0_eq]
 have hl : (xs.take 40).length ≤ 40 := List.length_take_le _ _
 refine T.runs_req ⟨by decide, by lia⟩ (T.runs_req (by lia) ?_)
 refine T.runs_bind (T.runs_bind (T.runs_bind (a := (AV.lst ((xs.take 40).map .int), ([] : Mem))) (b := (AV.lst ((xs.take 40).map .int ++ [.int 23, .int 6]), ([] : Mem))) (T.runs_bind (T.runs_quiet (scrL_runs p0 [] (xs.take 40))) T.runs_leaf) ?_) T.runs_leaf) ?_
 ·exact T.runs_req (by rw [List.length_map]; show _ + 2 ≤ 1000; lia) T.runs_leaf
 ·have e : (penIn xs).raw = MO.lst [AV.lst ((xs.take 40).map .int ++ [.int 23, .int 6]), .int 0, .int 0] := by unfold Pen.raw penIn; simp only [List.map_append]; rfl
  rw [e]
  exact T.runs_leaf
theorem law1_eq : exT (lawC p0) (lawR1 p0) (lawSt 1) [(S "script", .ints xs), (S "pen", .hnd 0)] m = T.req (rngG 3) (forL (lawC p0) (lawR1 p0) turnB.1 turnB.2 [.int 0, .int 1, .int 2] [(S "script", .ints xs), (S "pen", .hnd 0)] m).quiet := by kernel_rfl
theorem tu_asg0 : asgT (lawC p0) turnB.1 (.int 0) [(S "script", .ints xs), (S "pen", .hnd 0)] = some (T0 xs 0 none) := by kernel_rfl
theorem tu_asg (k k' : Int) (o : Old) : asgT (lawC p0) turnB.1 (.int k') (T0 xs k (some o)) = some (T0 xs k' (some o)) := by kernel_rfl
noncomputable def vO (off : Int) : Rg := ⟨S "value", off, .const 0, 0, -1, 0, 0, 0⟩
noncomputable def cN (st : Int) : Rg := rnum (.const st) 0
noncomputable def cOK (off st : Int) : Prop := addOK (vO off) (cN st) false
theorem cOK_all (off st : Int) : cOK off st := fun _ _ h => by cases h
noncomputable def laL (xs : List Int) (o : Old) : Lo := T0 xs 2 (some ⟨o.tip, o.ms, o.sc, o.zs, o.num, o.way, o.told, o.a, o.b, .int 7, o.e⟩) ++ [(S "off", .int (-10)), (S "step", .int 536870912)]
noncomputable abbrev tt : Prop := true = true
noncomputable abbrev ff : Prop := false = false
theorem law2 (o : Old) : Runs (exT (lawC p0) (lawR1 p0) (lawSt 2) (T0 xs 2 (some o)) m) ((.next, laL xs o), m) :=
 Runs.by [false, false, false, false, false, false, true, true, false, true, true, false, true, false, false, true, true, false]
  (True ∧ True ∧ True ∧ True ∧ True ∧ True ∧ True ∧ (6 : Nat) ≤ 1000 ∧ (cOK 0 536870911 ∧ ff ∧ True ∧ ff ∧ True ∧ ff ∧ (cOK (-536870911) 536870911 ∧ ff ∧ True ∧ ff ∧ True ∧ ff ∧
   (cOK 0 536870912 ∧ tt ∧ True ∧ tt ∧ ff ∧ (cOK 0 (-536870912) ∧ tt ∧ True ∧ tt ∧ ff ∧ (cOK 5 536870907 ∧ tt ∧ True ∧ ff ∧ True ∧ ff ∧ (cOK (-10) 536870912 ∧ tt ∧ True ∧ tt ∧ ff ∧ True)))))))
  (by kernel_rfl) (by kernel_rfl)
  ⟨trivial, trivial, trivial, trivial, trivial, trivial, trivial, by decide, cOK_all _ _, rfl, trivial, rfl, trivial, rfl, cOK_all _ _, rfl, trivial, rfl, trivial, rfl, cOK_all _ _, rfl, trivial, rfl, rfl, cOK_all _ _, rfl, trivial, rfl, rfl, cOK_all _ _, rfl, trivial, rfl, trivial, rfl, cOK_all _ _, rfl, trivial, rfl, rfl, trivial⟩
theorem law3 (lo : Lo) : Runs (exT (lawC p0) (lawR1 p0) (lawSt 3) lo m) ((.ret (.bool true), lo), m) := Runs.by [] True (by kernel_rfl) (by kernel_rfl) trivial
end
theorem law_any {p0 : Pen} {lo : Lo} {m : Mem} {x : (Fl × Lo) × Mem} (h : Runs (exsT (lawC p0) (lawR1 p0) [lawSt 0, lawSt 1, lawSt 2, lawSt 3] lo m) x) : Runs (exsT (lawC p0) (lawR1 p0) (fdBody lawStm) lo m) x := by
 rw [show fdBody lawStm = [lawSt 0, lawSt 1, lawSt 2, lawSt 3] by kernel_rfl]; exact h
theorem law_runs (xs : List Int) (h : xs.length ≤ 63) (G0 : TurnG (penIn xs)) (G1 : TurnG (penIn xs).tn) (G2 : TurnG (penIn xs).tn.tn) :
  Runs (bodyT (cfg (lawFs (penIn xs)) ["pen"]) 20 lawStm [(S "script", .ints xs)] []) (.bool true, [(penIn xs).tn.tn.tn.mo]) := by
 generalize hp : penIn xs = p0 at *
 have a0 := law0 p0 xs h
 rw [hp] at a0
 obtain ⟨o1, r1⟩ := turn_runs p0 xs 0 none p0 p0.raw (.inr ⟨rfl, rfl⟩) G0
 obtain ⟨o2, r2⟩ := turn_runs p0 xs 1 (some o1) p0.tn p0.tn.mo (.inl rfl) G1
 obtain ⟨o3, r3⟩ := turn_runs p0 xs 2 (some o2) p0.tn.tn p0.tn.tn.mo (.inl rfl) G2
 have f := forL_cons (tu_asg0 p0 xs) r1 (forL_cons (tu_asg p0 xs 0 1 o1) r2 (forL_cons (tu_asg p0 xs 1 2 o2) r3 forL_nil))
 have a1 : Runs (exT (lawC p0) (lawR1 p0) (lawSt 1) [(S "script", .ints xs), (S "pen", .hnd 0)] [p0.raw]) ((.next, T0 xs 2 (some o3)), [p0.tn.tn.tn.mo]) := by
  rw [law1_eq]
  exact T.runs_req ⟨rfl, by decide, by decide⟩ (T.runs_quiet f)
 exact Runs.body (law_any (a0.cons (a1.cons ((law2 p0 xs _ o3).cons (law3 p0 _ _).ret))))
end
section
open PySem
theorem const_ok (p : Rg) (imm : Int) (t : Bool) : addOK p (rnum (.const imm) 0) t := fun _ _ h => by cases h
theorem num_one {P : Rg} {ms : List Int} (hp : PtrOK P ms) {s : Sc} {zs : List Int} (hs : Hold s zs BB) (w : Int) (t : Bool) : OneG P (numOf w s) ms (zaOf w zs) t := by
 unfold numOf zaOf
 by_cases h0 : w = 0
 ·rw [if_pos h0]; exact one_off none_ptr.2.2
 ·by_cases h1 : w = 1
  ·rw [if_neg h0, if_pos h1]; exact one_off (by kernel_rfl)
  ·rw [if_neg h0, if_neg h1, if_neg (by simp_all)]; exact one_num hp hs t
theorem turn_good1 {p : Pen} {b : Int} (g : PenG p b) (hb : b ≤ 2 ^ 49) : TurnG p ∧ PenG p.tn (b + 150) := by
 obtain ⟨a1, a2, a3⟩ := ptr_all g (by lia)
 obtain ⟨b1, b2, b3⟩ := var_all a3 (by lia)
 have b3 : PenG p.tv.p (b + 50 + 20) := b3
 have gq : PenG p.tq (b + 50 + 20 + 1) := b3.next 9
 obtain ⟨c1, c2, c3⟩ := ptr_all gq (by lia)
 have c3 : PenG p.to.p (b + 50 + 20 + 1 + 50) := c3
 refine ⟨⟨a1, b1, b3.dr (by lia) (by simp_all) (by simp_all), c1, c3.dr (by lia) (by simp_all) (by simp_all), fun t => num_one a2 b2 _ t, ?_⟩, (c3.next 90).le (by lia)⟩
 exact ⟨a2.k, c2.k, (one_num a2 b2 false).ok, (one_num a2 b2 true).ok, const_ok _ _ _, const_ok _ _ _⟩
theorem penIn_good (xs : List Int) : PenG (penIn xs) 0 := by
 have hl : (xs.take 40).length ≤ 40 := List.length_take_le _ _
 have e : (penIn xs).xs.length = (xs.take 40).length + 2 := by unfold penIn; rw [List.length_append]; rfl
 exact ⟨by simp_all, by lia, Int.le_refl _, Int.le_refl _⟩
theorem law_true (xs : List Int) (h : xs.length ≤ 63) : ∃ m, Runs (bodyT (cfg (lawFs (penIn xs)) ["pen"]) 20 lawStm [(S "script", .ints xs)] []) (.bool true, m) := by
 obtain ⟨t0, g0⟩ := turn_good1 (penIn_good xs) (by simp_all)
 obtain ⟨t1, g1⟩ := turn_good1 g0 (by simp_all)
 obtain ⟨t2, _⟩ := turn_good1 g1 (by decide)
 exact ⟨_, law_runs xs h t0 t1 t2⟩
end
section
open PySem PySem.W PyProof.Rows PySem.Calls
noncomputable def d_law : Def := ⟨996, stmtAt 108, "law", .none, "law_np0325_01", 1469, 995, none⟩
theorem d_law_ok : DefOK d_law := ⟨fun P => by kernel_rfl, fun P => by kernel_rfl, fun P => by kernel_rfl⟩
theorem d_law_b (v0 : Value) : bindArgs d_law.fd ⟨[v0], []⟩ = pure [(S "script", v0)] := by kernel_rfl
theorem d_law_scope (xs : List Int) : scopeOK (fdScope d_law.st) [(S "script", .ints xs)] = true := by kernel_rfl
theorem law_in (P : Params) : nsIn (kFrag P) mainGlobals "law" = some (some (.ref 996)) := by kernel_rfl
theorem lawFs_ok {c : Cx} (O : ObjInt c) (p0 : Pen) : ∀ p ∈ lawFs p0, FnOK c 14 p.1.val p.2 :=
 mem1 int_ok (mem1 ((pointO_ok O p0).le (by decide)) (mem1 ((varied_ok O).le (by decide)) (mem1 ((num_ok O).le (by decide)) (mem1 (draw_ok O : FnOK c 14 _ _) (mem1 ((none_ok O).le (by decide)) (mem1 ((reg_ok O).le (by decide)) (mem1 ((rtold_ok O).le (by decide)) (mem1 ((added_ok O).le (by decide)) (mem1 (right_ok O) (mem1 ((sconst_ok O).le (by decide)) (mem1 (lfar_ok O : FnOK c 14 _ _) (mem1 abs_ok (mem1 range_ok (mem1 ((due_ok O).le (by decide)) (mem1 ((issum_ok O).le (by decide)) mem0)))))))))))))))
theorem ints_laid {P : Params} {h : Heap} : ∀ {vs : List Value} {ds : List WData}, WellAll P h vs ds → WShape.hasItems [] ds .int = true → ∃ xs : List Int, IntVals xs vs ∧ ds.length = xs.length
 | _, _, .nil, _ => ⟨[], .nil, rfl⟩
 | _, _, .cons (v := v) (vs := vs) (d := d) (ds := ds) w r, hi => by
  have h1 := hasItemsW_at hi d (.head _)
  have h2 : WShape.hasItems [] ds .int = true := by
   rw [hasItems_all] at hi ⊢
   rw [List.all_cons, Bool.and_eq_true] at hi; exact hi.2
  obtain ⟨xs, q1, q2⟩ := ints_laid r h2
  obtain ⟨i, rfl⟩ := hasW_int h1
  cases w
  exact ⟨i :: xs, .cons q1, by simp [q2]⟩
theorem pre_len (ds : List WData) (h : lawR.pre.holds lawR.records { args := [.list ds] } = true) : ds.length ≤ 63 := by
 have h : WTm.holds [] (.and (.not (.lt (.lit (.int 63)) (.len (.arg 0)))) (.lit (.bool true))) { args := [.list ds] } = true := h
 by_cases q : (63 : Int) < (ds.length : Int)
 ·exfalso
  have e : less? (.int 63) (.int (ds.length : Int)) = some true := by
   show some (decide ((63 : Int) < (ds.length : Int))) = some true
   rw [decide_eq_true q]
  simp only [WTm.holds, WTm.value, List.getElem?_cons_zero, e, Option.map_some, Bool.not_true] at h
  cases h
 ·lia
theorem post_true (ds : List WData) : lawR.claim.post [.list ds] (.bool true) [.list ds] = true := by kernel_rfl
theorem law_inv (c : Cx) (s : Shared) (hs : s.heap = c.h0) : Inv c callerA (g0 c) s [] where
 frz := fun a o e => by rw [hs]; exact e
 base := fun a o e => e
 len := rfl
 cell := fun k m l e _ => by cases e
 nd := List.nodup_nil
 free := fun a h => by cases h
 stk := ⟨[], rfl, fun _ h => by cases h⟩
theorem law_room : Room callerA 15 := ⟨rfl, by decide +kernel, by decide +kernel⟩
theorem law_walk : LawWalk := fun w s₀ s₁ mg mb G Y a o pm cd doc dV kV h2 h3 h4 h5 hmg hgens args vals as hpre hlay hread hwell hsys => by
 let c : Cx := ⟨w, s₁.heap, mg, mb, Y, G.T.g, G.T.b, G.T.nolimit, G.T.builtins⟩
 have ea : a = 996 := by
  have e1 : mg "law" = some (.ref 996) := mg_of c.K c.hg (law_in w.params)
  have hmg : mg "law" = some (.ref a) := hmg
  rw [e1] at hmg; cases hmg; rfl
 subst ea
 obtain ⟨hsh, hp⟩ := pre_splitW hpre
 obtain ⟨d, r, rfl, hd, hr⟩ := hasAllW_cons (show WShape.hasAll [] args [.list .int] = true from hsh)
 have er := hasAllW_nil hr
 subst er
 obtain ⟨ds, rfl, hi⟩ := hasW_list hd
 have hlen := pre_len ds hp
 cases hwell with | cons hw hw' =>
 cases hw' with | nil =>
 cases hw with | list ho hall =>
 rename_i l vs
 obtain ⟨xs, hx, hxl⟩ := ints_laid hall hi
 have rep : Rep w.params (g0 c) (.ints xs) (.ref l) := .ints (n := 0) ho hx
 obtain ⟨m, hR⟩ := law_true xs (by simp_all)
 have O := objint c
 have T := (call_body (fuel := 20) O (cfg_ok (mu := ["pen"]) (lawFs_ok O (penIn xs))) (d_law_ok.at_ w.params) (d_law_ok.code _) (BindsTo.of_eq (d_law_b (.ref l))) (.cons rep .nil) (d_law_scope xs) law_room (law_inv c s₁ rfl)).tri
 refine T _ _ (fun x => x.1 = .bool true) (fun _ _ => False) (hR.all _ _ rfl) (fun a r s' g' m' x i q k => ?_) (fun _ _ _ _ _ _ _ _ k => k.elim)
 have k : r = .bool true := k
 subst k
 cases q
 refine ⟨.inl ⟨.bool true, .bool true, [], rfl, fun _ => rfl, .bool true, post_true ds, fun _ => ⟨List.nodup_nil, fun _ h => by cases h⟩⟩, .of_keep fun b o e => ?_, x.os, .of_eq (x.gens.trans hgens)⟩
 obtain ⟨sl, h6, h7⟩ := x.keep b o ⟨o, e⟩ e (by simp [g0]) id
 rw [h6, h7 fun ⟨l, env, e1, e2, _⟩ => by cases e1; cases e2]
theorem law_holds : PySem.Challenge.rw_np0325_01.Holds := holds_of_walk law_walk
end
end Mine
theorem PySem.Challenge.cw_np0325_01_holds : PySem.Challenge.rw_np0325_01.Holds :=
  Mine.law_holds
