import PyProof.Rows.All
import Wide.All
import OpenK.AllK
import Wide.FinOn
import Lean
import PySem.Challenge.RW_np0253_01
set_option Elab.async false
set_option maxRecDepth 100000
set_option linter.all false
local macro_rules | `(tactic| omega) => `(tactic| lia)
section
open PySem PySem.W PyProof.Rows
set_option maxHeartbeats 0
namespace Mine.H
section
noncomputable abbrev Pg : Program := PySem.Challenge.pw_np0253_01
noncomputable abbrev O (s : String) : Str := Str.ofString s
noncomputable abbrev S (s : String) (t : Nat) : Value := .str (O s) t
noncomputable abbrev I (i : Int) (t : Nat := 0) : Value := .int i t
noncomputable def nth : Nat → List Stmt → Stmt := fun n l => List.rec (motive := fun _ => Nat → Stmt) (fun _ => .Pass ⟨0, 0, 0, 0⟩) (fun a _ ih n => Nat.rec a (fun m _ => ih m) n) l n
noncomputable def st (i : Nat) : Stmt := nth i Pg.main.body
noncomputable def me (i j : Nat) : Stmt := match st i with | .ClassDef _ _ _ b .. => nth j b | s => s
noncomputable def fq (s : Stmt) (c : Value) (q : String) (g : Nat) (d m k : Value) : Obj := match s with
  | .FunctionDef n a b _ _ _ sc _ _ _ => ⟨c, none, .func { name := n, qualname := O q, params := a, body := .stmts b, scope := sc, globals := g, closure := [], defaults := d, kwdefaults := .none, pyModule := m, code := k }, #[]⟩
  | _ => default
noncomputable def fr (s : Stmt) (q : String) : Obj := fq s .none q 0 .none .none .none
noncomputable def tu (l : List Value) : Obj := ⟨.type "tuple", none, .seq l.toArray 0, #[]⟩
noncomputable def t0 : Obj := tu []
noncomputable def sq : List String → Nat → List Value := fun l => List.rec (motive := fun _ => Nat → List Value) (fun _ => []) (fun a _ ih n => S a n :: ih (n + 1)) l
noncomputable def ts (n : Nat) (l : List String) : Obj := tu (sq l n)
noncomputable def fs (c : Value) (l : List Value) : Obj := ⟨c, none, .fields l.toArray, #[]⟩
noncomputable def f3 : List (Nat × Nat × Nat) → List Value := fun l => List.rec (motive := fun _ => List Value) [] (fun a _ ih => I (Int.ofNat a.1) :: I (Int.ofNat a.2.1) :: .ref a.2.2 :: ih) l
noncomputable def fl (l : List (Nat × Nat × Nat)) : Obj := fs .none (f3 l)
noncomputable def f0 : Obj := fs .none []
noncomputable def fm (a b : Nat) (m : String) (t : Nat) : Obj := ⟨.type "frame", none, .plain, #[some (.ref a), some (.ref 3), some (.ref b), none, some (S m t), none, some (.ref 0)]⟩
noncomputable def co (n q : String) (t l a1 a2 a3 a4 r : Nat) (b : Bool) (r2 : Nat) (v1 v2 v3 v4 : Value) (u : Nat) : Obj := fs (.type "code") [S n t, S q (t + 1), S "/claim/cut.py" (t + 2), I (Int.ofNat l), I (Int.ofNat a1), I (Int.ofNat a2), I (Int.ofNat a3), I (Int.ofNat a4), .ref r, .bool b, I 181, .ref r2, v1, v2, v3, v4, I (Int.ofNat u), I (Int.ofNat l), S "/claim/cut.py" (u + 1)]
noncomputable def e (P : Params) (k : String) (t : Nat) (v : Value) : DictEntry := ⟨PyData.keyHash P (O k), S k t, v⟩
noncomputable def di (l : List DictEntry) (n : Nat) : Obj := ⟨.type "dict", none, .dict l.toArray n, #[]⟩
noncomputable abbrev n := BT.node
noncomputable abbrev z := BT.nil
noncomputable def b15 (P : Params) : BT := n t0 (n (ts 211 ["self", "patterns", "body", "can_fail"]) (n (fq (me 4 1) (.type "function") "Var.groups" 3 .none (S "lazycore.core" 229) (.ref 62)) (n t0 (n f0 (n t0 (n (ts 1523 ["condition"]) z z) z) (n t0 (n t0 z z) z)) (n (Obj.mk (.type "type") none (.cls { name := O "Prim", bases := [.type "object"], mro := [.ref 383, .type "object"], ns := 382, qualname := O "Prim" }) (List.toArray [none, none, some (S "Prim" 645), some (S "Prim" 653), some (.builtin "object.__new__"), some (.bool true)])) (n (ts 1038 ["self", "pattern", "expr", "place"]) (n (co "match" "Maker.match" 1721 492 4 0 0 3 1146 true 1147 .none (.ref 1148) (.ref 1149) (.ref 1150) 1728) z z) z) (n (di [e P "__module__" 1333 (S "lazycore.pattern_nodes" 1124), e P "__firstlineno__" 1337 (I (314) 1336), e P "__init__" 1347 (.ref 886), e P "row" 1354 (.ref 893), e P "__static_attributes__" 1357 (.ref 894), e P "__doc__" 1358 (.none)] 2) z z))) (n t0 (n (fr (me 12 0) "Con.__init__") (n (tu [.ref 437]) (n (fr (st 63) "let_pairs") z z) z) (n (co "__init__" "PTuple.__init__" 1272 300 3 0 0 3 826 true 827 .none (.ref 828) (.ref 829) (.ref 830) 1278) z z)) (n (co "FunBind" "FunBind" 779 171 0 0 0 0 445 false 446 .none .none .none .none 782) (n (co "row" "LetSay.row" 1112 262 1 0 0 3 698 true 699 .none (.ref 700) (.ref 701) (.ref 702) 1116) (n (fr (me 75 2) "Fresh.next") z z) z) (n (fq (st 45) (.type "function") "parts_of" 3 .none (S "lazycore.pattern_forms" 1427) (.ref 958)) z z)))) (n t0 (n (fq (me 7 3) (.type "function") "App.rebuilt" 3 .none (S "lazycore.core" 229) (.ref 158)) (n t0 (n (ts 911 ["binds", "groups", "sigs"]) (n (ts 1571 ["name", "others"]) z z) z) (n t0 (n (fq (st 89) (.type "function") "_law_statement" 3 .none (S "law_np0253_01" 1836) (.ref 1310)) z z) z)) (n (fs (.type "builtin_function_or_method") [.builtin "type.__prepare__", .type "type"]) (n t0 (n (ts 1782 ["name", "at"]) z z) z) (n (fs (.type "builtin_function_or_method") [.builtin "type.__prepare__", .type "type"]) z z))) (n t0 (n t0 (n (co "Comp" "Comp" 990 230 0 0 0 0 605 false 606 .none .none .none .none 993) (n (fs (.type "builtin_function_or_method") [.builtin "type.__prepare__", .type "type"]) z z) z) (n t0 z z)) (n (ts 828 ["self", "patterns", "rhs", "place"]) (n (fs (.type "super") [.ref 734, .ref 734, .ref 734]) (n f0 z z) z) (n (co "arity" "Constructors.arity" 1471 372 2 0 0 3 986 true 987 .none (.ref 988) (.ref 989) (.ref 990) 1476) z z))))) (n (fl [(14, 4, 55), (17, 4, 62), (20, 4, 69), (23, 4, 76)]) (n (di [e P "__module__" 238 (S "lazycore.core" 229), e P "__firstlineno__" 242 (I (12) 241), e P "__init__" 250 (.ref 56), e P "groups" 257 (.ref 63), e P "parts" 264 (.ref 70), e P "rebuilt" 273 (.ref 77), e P "__static_attributes__" 275 (.ref 78), e P "__dict__" 277 (.ref 81), e P "__weakref__" 279 (.ref 82), e P "__doc__" 280 (.none)] 4) (n (ts 362 ["self"]) (n t0 (n (fm 526 523 "lazycore.nodes" 726) (n (fq (st 55) (.type "function") "guarded" 3 .none (S "lazycore.desugar_binds" 1504) (.ref 1038)) z z) z) (n (fr (me 37 1) "PLit.row") (n (fr (st 87) "_law_draw") z z) z)) (n (fr (st 17) "free_names") (n (fs (.type "builtin_function_or_method") [.builtin "object.__init_subclass__", .ref 653]) (n t0 z z) z) (n (fr (me 42 0) "PLazy.__init__") z z))) (n (fs (.type "super") [.ref 204, .ref 204, .ref 204]) (n f0 (n f0 (n (fq (st 68) (.type "function") "comprehension" 3 .none (S "lazycore.desugar_statements" 1625) (.ref 1102)) z z) z) (n (di [e P "__module__" 1300 (S "lazycore.pattern_nodes" 1124), e P "__qualname__" 1302 (S "PList" 1301), e P "__firstlineno__" 1304 (I (306) 1303), e P "__init__" 1313 (.ref 859), e P "row" 1320 (.ref 866), e P "__static_attributes__" 1322 (.ref 867)] 6) z z)) (n (fq (me 22 1) (.type "function") "FunBind.row" 3 .none (S "lazycore.nodes" 726) (.ref 462)) (n f0 (n (fq (st 77) (.type "function") "_law_pool" 3 .none (S "law_np0253_01" 1836) (.ref 1230)) z z) z) (n t0 z z)))) (n (co "parts" "Lit.parts" 312 35 1 0 0 3 106 true 107 .none (.ref 108) (.ref 109) (.ref 110) 316) (n f0 (n (Obj.mk (.type "type") none (.cls { name := O "Case", bases := [.type "object"], mro := [.ref 303, .type "object"], ns := 302, qualname := O "Case" }) (List.toArray [none, none, some (S "Case" 532), some (S "Case" 540), some (.builtin "object.__new__"), some (.bool true)])) (n t0 (n t0 z z) z) (n (Obj.mk (.type "type") none (.cls { name := O "PCon", bases := [.ref 437], mro := [.ref 815, .ref 437, .type "object"], ns := 814, qualname := O "PCon" }) (List.toArray [some (.ref 791), none, some (S "PCon" 1225), some (S "PCon" 1233), some (.builtin "object.__new__"), some (.bool true)])) (n (co "law" "law" 1982 690 1 0 0 3 1324 true 1325 .none .none .none (.ref 1326) 1985) z z) z)) (n t0 (n (fl [(258, 4, 696), (262, 4, 703)]) (n (ts 1802 ["self", "avoided"]) z z) z) (n (ts 1418 ["self"]) z z))) (n (fq (me 9 3) (.type "function") "Let.rebuilt" 3 .none (S "lazycore.core" 229) (.ref 238)) (n (co "groups" "Prim.groups" 666 130 1 0 0 3 362 true 363 .none (.ref 364) (.ref 365) (.ref 366) 670) (n (fq (me 30 1) (.type "function") "Comp.row" 3 .none (S "lazycore.nodes" 726) (.ref 622)) (n t0 z z) z) (n (tu [.none]) z z)) (n (fs (.type "builtin_function_or_method") [.builtin "object.__init_subclass__", .ref 493]) (n (fq (me 36 0) (.type "function") "PWild.__init__" 3 (.ref 744) (S "lazycore.pattern_nodes" 1124) (.ref 750)) (n t0 z z) z) (n (ts 1495 ["cons"]) z z)))))
noncomputable def b16 (P : Params) : BT := n f0 (n t0 (n t0 (n (fs (.type "builtin_function_or_method") [.builtin "type.__prepare__", .type "type"]) (n (ts 514 ["self", "key", "names", "body"]) (n f0 (n t0 z z) z) (n (fl [(282, 4, 777), (287, 4, 784)]) (n f0 z z) z)) (n (fs (.type "getset_descriptor") [S "__dict__" 691, .ref 383, .builtin "function.__dict__", .builtin "function.__dict__#set"]) (n t0 (n (fq (me 72 3) (.type "function") "Maker.match" 3 .none (S "lazycore.desugar_maker" 1679) (.ref 1151)) z z) z) (n (Obj.mk (.type "type") none (.cls { name := O "PAs", bases := [.ref 437], mro := [.ref 896, .ref 437, .type "object"], ns := 895, qualname := O "PAs" }) (List.toArray [some (.ref 872), none, some (S "PAs" 1326), some (S "PAs" 1334), some (.builtin "object.__new__"), some (.bool true)])) z z))) (n (fr (me 8 2) "Lam.parts") (n (co "__init__" "Con.__init__" 603 111 3 0 0 3 315 true 316 .none (.ref 317) (.ref 318) (.ref 319) 609) (n (fs (.type "builtin_function_or_method") [.builtin "type.__prepare__", .type "type"]) (n (co "let_pairs" "let_pairs" 1606 441 2 0 0 3 1083 true 1084 .none (.ref 1085) (.ref 1086) (.ref 1087) 1612) z z) z) (n (fq (me 39 0) (.type "function") "PTuple.__init__" 3 (.ref 825) (S "lazycore.pattern_nodes" 1124) (.ref 831)) z z)) (n (fm 447 444 "lazycore.nodes" 726) (n (fq (me 33 1) (.type "function") "LetSay.row" 3 .none (S "lazycore.nodes" 726) (.ref 703)) (n (co "next" "Fresh.next" 1816 522 2 0 0 3 1211 true 1212 .none (.ref 1213) (.ref 1214) (.ref 1215) 1823) z z) z) (n t0 z z)))) (n (fr (me 6 0) "Lit.__init__") (n (ts 381 ["args", "fun"]) (n f0 (n (di [e P "__module__" 889 (S "lazycore.nodes" 726), e P "__firstlineno__" 893 (I (200) 892), e P "__init__" 903 (.ref 535), e P "row" 910 (.ref 542), e P "__static_attributes__" 914 (.ref 543), e P "__doc__" 915 (.none)] 2) (n (fr (st 58) "taken") z z) z) (n f0 (n t0 z z) z)) (n (di [e P "__module__" 748 (S "lazycore.nodes" 726), e P "__qualname__" 750 (S "Node" 749), e P "__firstlineno__" 752 (I (164) 751), e P "__init__" 760 (.ref 427), e P "row" 767 (.ref 434), e P "__static_attributes__" 769 (.ref 435)] 6) (n f0 (n t0 z z) z) (n (di [e P "__module__" 1401 (S "lazycore.pattern_nodes" 1124), e P "__qualname__" 1403 (S "PBang" 1402), e P "__firstlineno__" 1405 (I (331) 1404), e P "__init__" 1414 (.ref 940), e P "row" 1421 (.ref 947), e P "__static_attributes__" 1423 (.ref 948)] 6) z z))) (n f0 (n (fl [(126, 4, 360), (130, 4, 367), (133, 4, 372), (136, 4, 379)]) (n (fm 607 604 "lazycore.nodes" 726) (n (di [e P "__module__" 1688 (S "lazycore.desugar_maker" 1679), e P "__qualname__" 1690 (S "Maker" 1689), e P "__firstlineno__" 1692 (I (476) 1691), e P "__init__" 1705 (.ref 1131), e P "expression" 1713 (.ref 1138), e P "fail" 1720 (.ref 1145), e P "match" 1730 (.ref 1152), e P "named" 1741 (.ref 1159), e P "list_case" 1754 (.ref 1166), e P "evidence" 1762 (.ref 1173), e P "__static_attributes__" 1769 (.ref 1174)] 11) z z) z) (n (fr (me 40 1) "PList.row") z z)) (n t0 (n (fs (.type "builtin_function_or_method") [.builtin "object.__init_subclass__", .ref 734]) (n (ts 1870 ["maker", "told", "found", "item", "core"]) z z) z) (n (fq (me 48 1) (.type "function") "Constructors.arity" 3 .none (S "lazycore.pattern_forms" 1427) (.ref 991)) z z))))) (n (co "Var" "Var" 233 12 0 0 0 0 46 false 47 .none .none .none .none 236) (n (Obj.mk (.type "type") none (.cls { name := O "Var", bases := [.type "object"], mro := [.ref 80, .type "object"], ns := 79, qualname := O "Var" }) (List.toArray [none, none, some (S "Var" 231), some (S "Var" 239), some (.builtin "object.__new__"), some (.bool true)])) (n t0 (n (fl [(92, 4, 280), (98, 4, 285), (101, 4, 292), (107, 4, 299)]) (n (tu [.none]) (n t0 z z) z) (n (co "row" "PLit.row" 1212 287 1 0 0 3 779 true 780 .none (.ref 781) (.ref 782) (.ref 783) 1216) (n (co "_law_draw" "_law_draw" 1936 632 3 0 0 3 1291 true 1292 .none (.ref 1293) (.ref 1294) (.ref 1295) 1949) z z) z)) (n (co "free_names" "free_names" 712 147 1 0 0 3 395 true 396 .none (.ref 397) (.ref 398) (.ref 399) 723) (n (tu [.ref 437]) (n f0 z z) z) (n (co "__init__" "PLazy.__init__" 1373 325 3 0 0 3 907 true 908 .none (.ref 909) (.ref 910) (.ref 911) 1379) z z))) (n (fs (.type "builtin_function_or_method") [.builtin "object.__init_subclass__", .ref 204]) (n (ts 628 ["self", "groups", "parts"]) (n (ts 977 ["self"]) (n t0 z z) z) (n t0 z z)) (n (ts 806 ["clauses", "given", "name"]) (n (ts 1141 ["self", "name", "place"]) (n t0 z z) z) (n (fl [(369, 4, 984), (372, 4, 991), (375, 4, 998), (378, 4, 1005)]) z z)))) (n (fq (me 6 2) (.type "function") "Lit.parts" 3 .none (S "lazycore.core" 229) (.ref 111)) (n (ts 406 ["self", "params", "body"]) (n (fs (.type "getset_descriptor") [S "__dict__" 584, .ref 303, .builtin "function.__dict__", .builtin "function.__dict__#set"]) (n (fr (me 26 0) "Var.__init__") (n f0 z z) z) (n (fs (.type "super") [.ref 815, .ref 815, .ref 815]) (n (fq (st 92) (.type "function") "law" 3 .none (S "law_np0253_01" 1836) (.ref 1327)) z z) z)) (n (fr (me 21 1) "Node.row") (n (co "LetSay" "LetSay" 1093 256 0 0 0 0 686 false 687 .none .none .none .none 1096) (n t0 z z) z) (n t0 z z))) (n (ts 488 ["binds", "body", "is_rec"]) (n (fq (me 14 1) (.type "function") "Prim.groups" 3 .none (S "lazycore.core" 229) (.ref 367)) (n (ts 1017 ["expr", "statements"]) (n (fr (me 72 1) "Maker.expression") z z) z) (n t0 z z)) (n (tu [.ref 437]) (n t0 (n (fr (st 82) "_law_with") z z) z) (n (di [e P "__module__" 1458 (S "lazycore.pattern_forms" 1427), e P "__firstlineno__" 1462 (I (367) 1461), e P "__init__" 1470 (.ref 985), e P "arity" 1478 (.ref 992), e P "is_newtype" 1486 (.ref 999), e P "siblings" 1494 (.ref 1006), e P "__static_attributes__" 1496 (.ref 1007), e P "__dict__" 1498 (.ref 1010), e P "__weakref__" 1500 (.ref 1011), e P "__doc__" 1501 (.none)] 4) z z)))))
noncomputable def b17 (P : Params) : BT := n (ts 190 ["k"]) (n (fr (me 2 0) "Row.__init__") (n f0 (n (di [e P "__module__" 345 (S "lazycore.core" 229), e P "__qualname__" 347 (S "App" 346), e P "__firstlineno__" 349 (I (40) 348), e P "__init__" 358 (.ref 140), e P "groups" 365 (.ref 147), e P "parts" 371 (.ref 152), e P "rebuilt" 380 (.ref 159), e P "__static_attributes__" 383 (.ref 160)] 8) (n t0 (n (fr (me 24 1) "Rhs.row") (n (fr (st 53) "is_always") z z) z) (n (co "PLit" "PLit" 1192 280 0 0 0 0 767 false 768 .none .none .none .none 1195) (n (ts 1924 ["core", "found", "value"]) z z) z)) (n (fs (.type "getset_descriptor") [S "__weakref__" 693, .ref 383, .builtin "ExceptionGroup.__weakref__", .none]) (n (fr (me 31 0) "Generate.__init__") (n t0 z z) z) (n (fs (.type "super") [.ref 896, .ref 896, .ref 896]) z z))) (n (co "parts" "Lam.parts" 419 63 1 0 0 3 188 true 189 .none (.ref 190) (.ref 191) (.ref 192) 423) (n (fq (me 12 0) (.type "function") "Con.__init__" 3 .none (S "lazycore.core" 229) (.ref 320)) (n (di [e P "__module__" 960 (S "lazycore.nodes" 726), e P "__qualname__" 962 (S "Con" 961), e P "__firstlineno__" 964 (I (220) 963), e P "__init__" 973 (.ref 589), e P "row" 980 (.ref 596), e P "__static_attributes__" 983 (.ref 597)] 6) (n (fq (st 63) (.type "function") "let_pairs" 3 .none (S "lazycore.desugar_binds" 1504) (.ref 1088)) z z) z) (n t0 z z)) (n (tu [.none]) (n (ts 1119 ["binds"]) (n (fq (me 75 2) (.type "function") "Fresh.next" 3 .none (S "lazycore.fresh" 1777) (.ref 1216)) z z) z) (n f0 z z)))) (n (co "__init__" "Lit.__init__" 296 28 3 0 0 3 92 true 93 .none (.ref 94) (.ref 95) (.ref 96) 302) (n (di [e P "__module__" 345 (S "lazycore.core" 229), e P "__firstlineno__" 349 (I (40) 348), e P "__init__" 358 (.ref 140), e P "groups" 365 (.ref 147), e P "parts" 371 (.ref 152), e P "rebuilt" 380 (.ref 159), e P "__static_attributes__" 383 (.ref 160), e P "__dict__" 385 (.ref 163), e P "__weakref__" 387 (.ref 164), e P "__doc__" 388 (.none)] 4) (n (ts 564 ["self", "found", "at"]) (n (Obj.mk (.type "type") none (.cls { name := O "Binds", bases := [.ref 437], mro := [.ref 545, .ref 437, .type "object"], ns := 544, qualname := O "Binds" }) (List.toArray [some (.ref 521), none, some (S "Binds" 882), some (S "Binds" 890), some (.builtin "object.__new__"), some (.bool true)])) (n (co "taken" "taken" 1562 411 4 0 0 3 1052 true 1053 .none (.ref 1054) (.ref 1055) (.ref 1056) 1573) z z) z) (n (ts 1240 ["self", "name", "args", "place"]) (n f0 z z) z)) (n t0 (n (ts 1082 ["self"]) (n (fr (st 74) "base_of") z z) z) (n t0 z z))) (n (fr (me 9 1) "Let.groups") (n (co "Prim" "Prim" 647 124 0 0 0 0 351 false 352 .none .none .none .none 650) (n (tu [.none]) (n t0 z z) z) (n (co "row" "PList.row" 1314 312 1 0 0 3 860 true 861 .none (.ref 862) (.ref 863) (.ref 864) 1318) z z)) (n (fr (me 23 0) "Clause.__init__") (n (tu [.ref 437]) (n t0 z z) z) (n t0 z z))))) (n (fm 48 45 "lazycore.core" 229) (n (fs (.type "getset_descriptor") [S "__dict__" 276, .ref 80, .builtin "function.__dict__", .builtin "function.__dict__#set"]) (n (fr (me 7 1) "App.groups") (n (co "Case" "Case" 534 90 0 0 0 0 271 false 272 .none .none .none .none 537) (n t0 (n f0 z z) z) (n (fq (me 37 1) (.type "function") "PLit.row" 3 .none (S "lazycore.pattern_nodes" 1124) (.ref 784)) (n (fq (st 87) (.type "function") "_law_draw" 3 .none (S "law_np0253_01" 1836) (.ref 1296)) z z) z)) (n (fq (st 17) (.type "function") "free_names" 3 .none (S "lazycore.core_names" 698) (.ref 400)) (n (fs (.type "builtin_function_or_method") [.builtin "type.__prepare__", .type "type"]) (n (ts 1758 ["self", "use"]) z z) z) (n (fq (me 42 0) (.type "function") "PLazy.__init__" 3 (.ref 906) (S "lazycore.pattern_nodes" 1124) (.ref 912)) z z))) (n t0 (n t0 (n t0 (n f0 z z) z) (n (fl [(308, 4, 858), (312, 4, 865)]) z z)) (n (di [e P "__module__" 784 (S "lazycore.nodes" 726), e P "__firstlineno__" 788 (I (171) 787), e P "__init__" 798 (.ref 456), e P "row" 805 (.ref 463), e P "__static_attributes__" 809 (.ref 464), e P "__doc__" 810 (.none)] 2) (n t0 (n f0 z z) z) (n (co "Constructors" "Constructors" 1453 367 0 0 0 0 975 false 976 .none .none .none .none 1456) z z)))) (n t0 (n t0 (n (fs (.type "getset_descriptor") [S "__weakref__" 586, .ref 303, .builtin "ExceptionGroup.__weakref__", .none]) (n (co "__init__" "Var.__init__" 930 212 3 0 0 3 556 true 557 .none (.ref 558) (.ref 559) (.ref 560) 936) (n (ts 1593 ["maker", "group", "found", "bind"]) z z) z) (n (fs (.type "builtin_function_or_method") [.builtin "object.__init_subclass__", .ref 815]) z z)) (n (co "row" "Node.row" 761 169 1 0 0 3 428 true 429 .none (.ref 430) (.ref 431) (.ref 432) 765) (n (fm 688 685 "lazycore.nodes" 726) (n (fr (me 75 0) "Fresh.__init__") z z) z) (n (fr (me 43 1) "PBang.row") z z))) (n (di [e P "__module__" 452 (S "lazycore.core" 229), e P "__firstlineno__" 456 (I (68) 455), e P "__init__" 466 (.ref 222), e P "groups" 472 (.ref 227), e P "parts" 478 (.ref 232), e P "rebuilt" 487 (.ref 239), e P "__static_attributes__" 491 (.ref 240), e P "__dict__" 493 (.ref 243), e P "__weakref__" 495 (.ref 244), e P "__doc__" 496 (.none)] 4) (n t0 (n (di [e P "__module__" 995 (S "lazycore.nodes" 726), e P "__firstlineno__" 999 (I (230) 998), e P "__init__" 1009 (.ref 616), e P "row" 1016 (.ref 623), e P "__static_attributes__" 1019 (.ref 624), e P "__doc__" 1020 (.none)] 2) (n (co "expression" "Maker.expression" 1706 486 2 0 0 3 1132 true 1133 .none (.ref 1134) (.ref 1135) (.ref 1136) 1711) z z) z) (n f0 z z)) (n (fs (.type "builtin_function_or_method") [.builtin "type.__prepare__", .type "type"]) (n f0 (n (co "_law_with" "_law_with" 1893 572 2 0 0 3 1260 true 1261 .none (.ref 1262) (.ref 1263) (.ref 1264) 1899) z z) z) (n (Obj.mk (.type "type") none (.cls { name := O "Constructors", bases := [.type "object"], mro := [.ref 1009, .type "object"], ns := 1008, qualname := O "Constructors" }) (List.toArray [none, none, some (S "Constructors" 1451), some (S "Constructors" 1459), some (.builtin "object.__new__"), some (.bool true)])) z z)))))
noncomputable def b18 (P : Params) : BT := n t0 (n (co "__init__" "Row.__init__" 208 7 4 0 0 3 29 true 30 .none (.ref 31) (.ref 32) (.ref 33) 215) (n (ts 261 ["self"]) (n t0 (n (fr (me 10 0) "Alt.__init__") (n (co "row" "Rhs.row" 870 197 1 0 0 3 511 true 512 .none .none .none (.ref 513) 873) (n (co "is_always" "is_always" 1520 385 1 0 0 3 1021 true 1022 .none (.ref 1023) (.ref 1024) (.ref 1025) 1524) z z) z) (n (fm 769 766 "lazycore.pattern_nodes" 1124) (n t0 z z) z)) (n (fs (.type "super") [.ref 383, .ref 383, .ref 383]) (n (co "__init__" "Generate.__init__" 1035 241 4 0 0 3 637 true 638 .none (.ref 639) (.ref 640) (.ref 641) 1042) (n f0 z z) z) (n (fs (.type "builtin_function_or_method") [.builtin "object.__init_subclass__", .ref 896]) z z))) (n (fq (me 8 2) (.type "function") "Lam.parts" 3 .none (S "lazycore.core" 229) (.ref 193)) (n t0 (n t0 (n t0 z z) z) (n f0 z z)) (n t0 (n (di [e P "__module__" 1098 (S "lazycore.nodes" 726), e P "__firstlineno__" 1102 (I (256) 1101), e P "__init__" 1111 (.ref 697), e P "row" 1118 (.ref 704), e P "__static_attributes__" 1120 (.ref 705), e P "__doc__" 1121 (.none)] 2) (n (ts 1826 ["avoided", "numbers"]) z z) z) (n (ts 1439 ["pattern", "found", "part"]) z z)))) (n (fq (me 6 0) (.type "function") "Lit.__init__" 3 .none (S "lazycore.core" 229) (.ref 97)) (n (Obj.mk (.type "type") none (.cls { name := O "App", bases := [.type "object"], mro := [.ref 162, .type "object"], ns := 161, qualname := O "App" }) (List.toArray [none, none, some (S "App" 338), some (S "App" 346), some (.builtin "object.__new__"), some (.bool true)])) (n t0 (n (fs (.type "super") [.ref 545, .ref 545, .ref 545]) (n (fq (st 58) (.type "function") "taken" 3 .none (S "lazycore.desugar_binds" 1504) (.ref 1057)) z z) z) (n t0 (n (ts 1971 ["told", "item"]) z z) z)) (n (fl [(166, 4, 426), (169, 4, 433)]) (n t0 (n (co "base_of" "base_of" 1779 508 1 0 0 3 1181 true 1182 .none (.ref 1183) (.ref 1184) (.ref 1185) 1784) z z) z) (n (fl [(333, 4, 939), (337, 4, 946)]) z z))) (n (co "groups" "Let.groups" 467 75 1 0 0 3 223 true 224 .none .none .none (.ref 225) 470) (n (fm 353 350 "lazycore.core" 229) (n t0 (n (fl [(478, 4, 1130), (486, 4, 1137), (489, 4, 1144), (492, 4, 1151), (495, 4, 1158), (501, 4, 1165), (505, 4, 1172)]) z z) z) (n (fq (me 40 1) (.type "function") "PList.row" 3 .none (S "lazycore.pattern_nodes" 1124) (.ref 865)) z z)) (n (co "__init__" "Clause.__init__" 825 183 4 0 0 3 477 true 478 .none (.ref 479) (.ref 480) (.ref 481) 832) (n (fs (.type "builtin_function_or_method") [.builtin "type.__prepare__", .type "type"]) (n (fr (st 80) "_law_core") z z) z) (n f0 z z))))) (n t0 (n (fs (.type "getset_descriptor") [S "__weakref__" 278, .ref 80, .builtin "ExceptionGroup.__weakref__", .none]) (n (co "groups" "App.groups" 359 46 1 0 0 3 141 true 142 .none (.ref 143) (.ref 144) (.ref 145) 363) (n (fm 273 270 "lazycore.core" 229) (n f0 (n (ts 1549 ["maker", "rhs"]) z z) z) (n (ts 1219 ["kind", "value"]) (n t0 z z) z)) (n t0 (n (di [e P "__module__" 1065 (S "lazycore.nodes" 726), e P "__qualname__" 1067 (S "Say" 1066), e P "__firstlineno__" 1069 (I (248) 1068), e P "__init__" 1078 (.ref 670), e P "row" 1085 (.ref 677), e P "__static_attributes__" 1087 (.ref 678)] 6) (n t0 z z) z) (n t0 z z))) (n (fs (.type "builtin_function_or_method") [.builtin "type.__prepare__", .type "type"]) (n (fr (me 12 3) "Con.rebuilt") (n (fr (me 28 1) "Con.row") (n (ts 1642 ["maker", "expr", "statements", "at", "rest", "statement", "condition", "loop", "items", "source", "body"]) z z) z) (n (co "PList" "PList" 1295 306 0 0 0 0 848 false 849 .none .none .none .none 1298) z z)) (n (Obj.mk (.type "type") none (.cls { name := O "FunBind", bases := [.ref 437], mro := [.ref 466, .ref 437, .type "object"], ns := 465, qualname := O "FunBind" }) (List.toArray [some (.ref 442), none, some (S "FunBind" 777), some (S "FunBind" 785), some (.builtin "object.__new__"), some (.bool true)])) (n (fr (me 35 0) "PVar.__init__") (n (ts 1851 ["source", "top", "digit"]) z z) z) (n (fm 977 974 "lazycore.pattern_forms" 1427) z z)))) (n f0 (n (fr (me 8 0) "Lam.__init__") (n (fs (.type "super") [.ref 303, .ref 303, .ref 303]) (n (fq (me 26 0) (.type "function") "Var.__init__" 3 (.ref 555) (S "lazycore.nodes" 726) (.ref 561)) (n t0 z z) z) (n (tu [.ref 437]) z z)) (n (fq (me 21 1) (.type "function") "Node.row" 3 .none (S "lazycore.nodes" 726) (.ref 433)) (n (tu [.none]) (n (co "__init__" "Fresh.__init__" 1799 513 2 0 0 3 1197 true 1198 .none (.ref 1199) (.ref 1200) (.ref 1201) 1804) z z) z) (n (co "row" "PBang.row" 1415 337 1 0 0 3 941 true 942 .none (.ref 943) (.ref 944) (.ref 945) 1419) z z))) (n (Obj.mk (.type "type") none (.cls { name := O "Let", bases := [.type "object"], mro := [.ref 242, .type "object"], ns := 241, qualname := O "Let" }) (List.toArray [none, none, some (S "Let" 445), some (S "Let" 453), some (.builtin "object.__new__"), some (.bool true)])) (n f0 (n (Obj.mk (.type "type") none (.cls { name := O "Comp", bases := [.ref 437], mro := [.ref 626, .ref 437, .type "object"], ns := 625, qualname := O "Comp" }) (List.toArray [some (.ref 602), none, some (S "Comp" 988), some (S "Comp" 996), some (.builtin "object.__new__"), some (.bool true)])) (n (fq (me 72 1) (.type "function") "Maker.expression" 3 .none (S "lazycore.desugar_maker" 1679) (.ref 1137)) z z) z) (n (ts 1341 ["self", "name", "pattern", "place"]) z z)) (n (di [e P "__module__" 855 (S "lazycore.nodes" 726), e P "__qualname__" 857 (S "Rhs" 856), e P "__firstlineno__" 859 (I (190) 858), e P "__init__" 869 (.ref 510), e P "row" 875 (.ref 515), e P "__static_attributes__" 878 (.ref 516)] 6) (n (ts 1182 ["self"]) (n (fq (st 82) (.type "function") "_law_with" 3 .none (S "law_np0253_01" 1836) (.ref 1265)) z z) z) (n (fs (.type "getset_descriptor") [S "__dict__" 1497, .ref 1009, .builtin "function.__dict__", .builtin "function.__dict__#set"]) z z)))))
noncomputable def b19 (P : Params) : BT := n (fr (st 0) "_wall") (n (fq (me 2 0) (.type "function") "Row.__init__" 3 .none (S "lazycore.clauses" 194) (.ref 34)) (n t0 (n (fl [(42, 4, 139), (46, 4, 146), (49, 4, 151), (52, 4, 158)]) (n (co "__init__" "Alt.__init__" 511 86 4 0 0 3 254 true 255 .none (.ref 256) (.ref 257) (.ref 258) 518) (n (fq (me 24 1) (.type "function") "Rhs.row" 3 .none (S "lazycore.nodes" 726) (.ref 514)) (n (fq (st 53) (.type "function") "is_always" 3 .none (S "lazycore.desugar_binds" 1504) (.ref 1026)) z z) z) (n (tu [.none]) (n (fr (st 85) "_law_items") z z) z)) (n (fs (.type "builtin_function_or_method") [.builtin "object.__init_subclass__", .ref 383]) (n (fq (me 31 0) (.type "function") "Generate.__init__" 3 (.ref 636) (S "lazycore.nodes" 726) (.ref 642)) (n (ts 1734 ["self", "core", "base", "inside", "name"]) z z) z) (n (tu [.ref 437]) z z))) (n t0 (n f0 (n (fl [(222, 4, 588), (227, 4, 595)]) (n f0 z z) z) (n (ts 1284 ["self"]) z z)) (n f0 (n (Obj.mk (.type "type") none (.cls { name := O "LetSay", bases := [.ref 437], mro := [.ref 707, .ref 437, .type "object"], ns := 706, qualname := O "LetSay" }) (List.toArray [some (.ref 683), none, some (S "LetSay" 1091), some (S "LetSay" 1099), some (.builtin "object.__new__"), some (.bool true)])) (n (di [e P "__module__" 1794 (S "lazycore.fresh" 1777), e P "__firstlineno__" 1798 (I (511) 1797), e P "__init__" 1806 (.ref 1203), e P "avoid" 1815 (.ref 1210), e P "next" 1825 (.ref 1217), e P "__static_attributes__" 1828 (.ref 1218), e P "__dict__" 1830 (.ref 1221), e P "__weakref__" 1832 (.ref 1222), e P "__doc__" 1833 (.none)] 4) z z) z) (n t0 z z)))) (n t0 (n (fs (.type "getset_descriptor") [S "__dict__" 384, .ref 162, .builtin "function.__dict__", .builtin "function.__dict__#set"]) (n (fr (me 11 2) "Case.parts") (n (fs (.type "builtin_function_or_method") [.builtin "object.__init_subclass__", .ref 545]) (n t0 z z) z) (n (fr (me 38 0) "PCon.__init__") (n t0 z z) z)) (n (co "Node" "Node" 743 164 0 0 0 0 417 false 418 .none .none .none .none 746) (n (fr (me 32 1) "Say.row") (n (fq (st 74) (.type "function") "base_of" 3 .none (S "lazycore.fresh" 1777) (.ref 1186)) z z) z) (n (co "PBang" "PBang" 1396 331 0 0 0 0 929 false 930 .none .none .none .none 1399) z z))) (n (fq (me 9 1) (.type "function") "Let.groups" 3 .none (S "lazycore.core" 229) (.ref 226)) (n t0 (n f0 (n (co "Maker" "Maker" 1683 476 0 0 0 0 1121 false 1122 .none .none .none .none 1686) z z) z) (n (ts 1321 ["items"]) z z)) (n (fq (me 23 0) (.type "function") "Clause.__init__" 3 (.ref 476) (S "lazycore.nodes" 726) (.ref 482)) (n (di [e P "__module__" 1166 (S "lazycore.pattern_nodes" 1124), e P "__qualname__" 1168 (S "PWild" 1167), e P "__firstlineno__" 1170 (I (273) 1169), e P "__init__" 1178 (.ref 751), e P "row" 1185 (.ref 758), e P "__static_attributes__" 1186 (.ref 759)] 6) (n (co "_law_core" "_law_core" 1867 550 2 0 0 3 1246 true 1247 .none (.ref 1248) (.ref 1249) (.ref 1250) 1875) z z) z) (n (ts 1482 ["self", "name"]) z z))))) (n f0 (n (fs (.type "super") [.ref 80, .ref 80, .ref 80]) (n (fq (me 7 1) (.type "function") "App.groups" 3 .none (S "lazycore.core" 229) (.ref 146)) (n t0 (n (ts 897 ["self", "sigs", "binds", "place"]) (n (ts 1551 ["maker", "rhs"]) z z) z) (n (di [e P "__module__" 1197 (S "lazycore.pattern_nodes" 1124), e P "__firstlineno__" 1201 (I (280) 1200), e P "__init__" 1211 (.ref 778), e P "row" 1218 (.ref 785), e P "__static_attributes__" 1221 (.ref 786), e P "__doc__" 1222 (.none)] 2) (n f0 z z) z)) (n f0 (n t0 (n (fr (me 72 6) "Maker.evidence") z z) z) (n f0 z z))) (n (di [e P "__module__" 452 (S "lazycore.core" 229), e P "__qualname__" 454 (S "Let" 453), e P "__firstlineno__" 456 (I (68) 455), e P "__init__" 466 (.ref 222), e P "groups" 472 (.ref 227), e P "parts" 478 (.ref 232), e P "rebuilt" 487 (.ref 239), e P "__static_attributes__" 491 (.ref 240)] 8) (n (co "rebuilt" "Con.rebuilt" 625 121 3 0 0 3 334 true 335 .none (.ref 336) (.ref 337) (.ref 338) 631) (n (co "row" "Con.row" 974 227 1 0 0 3 590 true 591 .none (.ref 592) (.ref 593) (.ref 594) 978) (n t0 z z) z) (n (fm 850 847 "lazycore.pattern_nodes" 1124) z z)) (n (fs (.type "super") [.ref 466, .ref 466, .ref 466]) (n (co "__init__" "PVar.__init__" 1138 267 3 0 0 3 718 true 719 .none (.ref 720) (.ref 721) (.ref 722) 1144) (n t0 z z) z) (n t0 z z)))) (n (ts 322 ["self", "groups", "parts"]) (n (co "__init__" "Lam.__init__" 403 56 3 0 0 3 174 true 175 .none (.ref 176) (.ref 177) (.ref 178) 409) (n (fs (.type "builtin_function_or_method") [.builtin "object.__init_subclass__", .ref 303]) (n t0 (n (fr (st 61) "group_pairs") z z) z) (n (fs (.type "builtin_function_or_method") [.builtin "type.__prepare__", .type "type"]) z z)) (n (ts 768 ["place"]) (n t0 (n (fq (me 75 0) (.type "function") "Fresh.__init__" 3 (.ref 1196) (S "lazycore.fresh" 1777) (.ref 1202)) z z) z) (n (fq (me 43 1) (.type "function") "PBang.row" 3 .none (S "lazycore.pattern_nodes" 1124) (.ref 946)) z z))) (n (fs (.type "getset_descriptor") [S "__dict__" 492, .ref 242, .builtin "function.__dict__", .builtin "function.__dict__#set"]) (n (fr (me 14 2) "Prim.parts") (n (fs (.type "super") [.ref 626, .ref 626, .ref 626]) (n t0 z z) z) (n t0 z z)) (n t0 (n t0 (n t0 z z) z) (n (fs (.type "getset_descriptor") [S "__weakref__" 1499, .ref 1009, .builtin "ExceptionGroup.__weakref__", .none]) z z)))))
noncomputable def b20 (P : Params) : BT := n (co "_wall" "_wall" 187 1 1 0 0 3 15 true 16 .none (.ref 17) (.ref 18) (.ref 19) 191) (n (ts 218 ["body", "can_fail", "patterns"]) (n (fr (me 4 2) "Var.parts") (n (co "App" "App" 340 40 0 0 0 0 130 false 131 .none .none .none .none 343) (n (fq (me 10 0) (.type "function") "Alt.__init__" 3 .none (S "lazycore.core" 229) (.ref 259)) (n (ts 876 ["guarded", "where"]) (n t0 z z) z) (n t0 (n (co "_law_items" "_law_items" 1921 613 1 0 0 3 1279 true 1280 .none (.ref 1281) (.ref 1282) (.ref 1283) 1927) z z) z)) (n t0 (n t0 (n t0 z z) z) (n (fs (.type "builtin_function_or_method") [.builtin "type.__prepare__", .type "type"]) z z))) (n f0 (n (ts 615 ["self"]) (n (co "Con" "Con" 955 220 0 0 0 0 578 false 579 .none .none .none .none 958) (n (ts 1618 ["maker", "binds", "body", "group"]) z z) z) (n t0 z z)) (n (ts 792 ["self", "name", "clauses", "place"]) (n (fs (.type "super") [.ref 707, .ref 707, .ref 707]) (n (Obj.mk (.type "type") none (.cls { name := O "Fresh", bases := [.type "object"], mro := [.ref 1220, .type "object"], ns := 1219, qualname := O "Fresh" }) (List.toArray [none, none, some (S "Fresh" 1787), some (S "Fresh" 1795), some (.builtin "object.__new__"), some (.bool true)])) z z) z) (n (fr (st 46) "variables_of") z z)))) (n f0 (n (fs (.type "getset_descriptor") [S "__weakref__" 386, .ref 162, .builtin "ExceptionGroup.__weakref__", .none]) (n (co "parts" "Case.parts" 561 101 1 0 0 3 287 true 288 .none (.ref 289) (.ref 290) (.ref 291) 567) (n (tu [.ref 437]) (n f0 z z) z) (n (co "__init__" "PCon.__init__" 1237 291 4 0 0 3 799 true 800 .none (.ref 801) (.ref 802) (.ref 803) 1244) (n (fr (st 90) "_law_taken") z z) z)) (n (fm 419 416 "lazycore.nodes" 726) (n (co "row" "Say.row" 1079 254 1 0 0 3 671 true 672 .none (.ref 673) (.ref 674) (.ref 675) 1083) (n t0 z z) z) (n (fm 931 928 "lazycore.pattern_nodes" 1124) z z))) (n t0 (n f0 (n (ts 1003 ["self", "expr", "statements", "place"]) (n (fm 1123 1120 "lazycore.desugar_maker" 1679) z z) z) (n (di [e P "__module__" 1300 (S "lazycore.pattern_nodes" 1124), e P "__firstlineno__" 1304 (I (306) 1303), e P "__init__" 1313 (.ref 859), e P "row" 1320 (.ref 866), e P "__static_attributes__" 1322 (.ref 867), e P "__doc__" 1323 (.none)] 2) z z)) (n t0 (n t0 (n (fq (st 80) (.type "function") "_law_core" 3 .none (S "law_np0253_01" 1836) (.ref 1251)) z z) z) (n t0 z z))))) (n (ts 246 ["self", "name"]) (n (fs (.type "builtin_function_or_method") [.builtin "object.__init_subclass__", .ref 80]) (n t0 (n f0 (n t0 (n (fr (st 56) "rhs_code") z z) z) (n (Obj.mk (.type "type") none (.cls { name := O "PLit", bases := [.ref 437], mro := [.ref 788, .ref 437, .type "object"], ns := 787, qualname := O "PLit" }) (List.toArray [some (.ref 764), none, some (S "PLit" 1190), some (S "PLit" 1198), some (.builtin "object.__new__"), some (.bool true)])) (n (ts 1955 ["told"]) z z) z)) (n (ts 731 ["node"]) (n (fl [(250, 4, 669), (254, 4, 676)]) (n (co "evidence" "Maker.evidence" 1755 505 2 0 0 3 1167 true 1168 .none (.ref 1169) (.ref 1170) (.ref 1171) 1760) z z) z) (n (ts 1385 ["self"]) z z))) (n t0 (n (fq (me 12 3) (.type "function") "Con.rebuilt" 3 .none (S "lazycore.core" 229) (.ref 339)) (n (fq (me 28 1) (.type "function") "Con.row" 3 .none (S "lazycore.nodes" 726) (.ref 595)) (n (fr (st 69) "told_items") z z) z) (n (tu [.none]) z z)) (n (fs (.type "builtin_function_or_method") [.builtin "object.__init_subclass__", .ref 466]) (n (fq (me 35 0) (.type "function") "PVar.__init__" 3 (.ref 717) (S "lazycore.pattern_nodes" 1124) (.ref 723)) (n (fr (st 78) "_law_take") z z) z) (n f0 z z)))) (n t0 (n (fq (me 8 0) (.type "function") "Lam.__init__" 3 .none (S "lazycore.core" 229) (.ref 179)) (n t0 (n f0 (n (co "group_pairs" "group_pairs" 1590 430 2 0 0 3 1071 true 1072 .none (.ref 1073) (.ref 1074) (.ref 1075) 1597) z z) z) (n (di [e P "__module__" 1267 (S "lazycore.pattern_nodes" 1124), e P "__qualname__" 1269 (S "PTuple" 1268), e P "__firstlineno__" 1271 (I (298) 1270), e P "__init__" 1280 (.ref 832), e P "row" 1287 (.ref 839), e P "__static_attributes__" 1289 (.ref 840)] 6) z z)) (n (di [e P "__module__" 748 (S "lazycore.nodes" 726), e P "__firstlineno__" 752 (I (164) 751), e P "__init__" 760 (.ref 427), e P "row" 767 (.ref 434), e P "__static_attributes__" 769 (.ref 435), e P "__dict__" 771 (.ref 438), e P "__weakref__" 773 (.ref 439), e P "__doc__" 774 (.none)] 4) (n f0 (n t0 z z) z) (n (ts 1422 ["pattern"]) z z))) (n (fs (.type "getset_descriptor") [S "__weakref__" 494, .ref 242, .builtin "ExceptionGroup.__weakref__", .none]) (n (co "parts" "Prim.parts" 673 133 1 0 0 3 369 true 370 .none .none .none (.ref 371) 676) (n (fs (.type "builtin_function_or_method") [.builtin "object.__init_subclass__", .ref 626]) (n f0 z z) z) (n (fr (me 41 0) "PAs.__init__") z z)) (n (fl [(192, 4, 509), (197, 4, 514)]) (n (fr (me 36 1) "PWild.row") (n f0 z z) z) (n (fs (.type "super") [.ref 1009, .ref 1009, .ref 1009]) z z)))))
noncomputable def b21 (P : Params) (g : Obj) : BT := n (fq (st 0) (.type "function") "_wall" 3 .none (S "__main__" 164) (.ref 20)) (n (di [e P "__module__" 203 (S "lazycore.clauses" 194), e P "__firstlineno__" 207 (I (5) 206), e P "__init__" 217 (.ref 35), e P "__static_attributes__" 221 (.ref 36), e P "__dict__" 223 (.ref 39), e P "__weakref__" 225 (.ref 40), e P "__doc__" 226 (.none)] 4) (n (co "parts" "Var.parts" 258 20 1 0 0 3 64 true 65 .none (.ref 66) (.ref 67) (.ref 68) 262) (n (fm 132 129 "lazycore.core" 229) (n (ts 521 ["body", "key", "names"]) (n (di [e P "__module__" 855 (S "lazycore.nodes" 726), e P "__firstlineno__" 859 (I (190) 858), e P "__init__" 869 (.ref 510), e P "row" 875 (.ref 515), e P "__static_attributes__" 878 (.ref 516), e P "__doc__" 879 (.none)] 2) (n f0 z z) z) (n f0 (n (fq (st 85) (.type "function") "_law_items" 3 .none (S "law_np0253_01" 1836) (.ref 1284)) z z) z)) (n f0 (n f0 (n (fr (me 72 4) "Maker.named") z z) z) (n (di [e P "__module__" 1368 (S "lazycore.pattern_nodes" 1124), e P "__qualname__" 1370 (S "PLazy" 1369), e P "__firstlineno__" 1372 (I (323) 1371), e P "__init__" 1381 (.ref 913), e P "row" 1388 (.ref 920), e P "__static_attributes__" 1390 (.ref 921)] 6) z z))) (n (ts 429 ["self", "groups", "parts"]) (n t0 (n (fm 580 577 "lazycore.nodes" 726) (n t0 z z) z) (n (fr (me 39 1) "PTuple.row") z z)) (n t0 (n (fs (.type "builtin_function_or_method") [.builtin "object.__init_subclass__", .ref 707]) (n (fs (.type "getset_descriptor") [S "__dict__" 1829, .ref 1220, .builtin "function.__dict__", .builtin "function.__dict__#set"]) z z) z) (n (co "variables_of" "variables_of" 1436 346 1 0 0 3 960 true 961 .none (.ref 962) (.ref 963) (.ref 964) 1442) z z)))) (n (ts 308 ["self"]) (n (fs (.type "super") [.ref 162, .ref 162, .ref 162]) (n (fq (me 11 2) (.type "function") "Case.parts" 3 .none (S "lazycore.core" 229) (.ref 292)) (n (fs (.type "builtin_function_or_method") [.builtin "type.__prepare__", .type "type"]) (n (fr (st 59) "pattern_pairs") z z) z) (n (fq (me 38 0) (.type "function") "PCon.__init__" 3 (.ref 798) (S "lazycore.pattern_nodes" 1124) (.ref 804)) (n (co "_law_taken" "_law_taken" 1968 667 2 0 0 3 1312 true 1313 .none (.ref 1314) (.ref 1315) (.ref 1316) 1973) z z) z)) (n t0 (n (fq (me 32 1) (.type "function") "Say.row" 3 .none (S "lazycore.nodes" 726) (.ref 676)) (n (fs (.type "builtin_function_or_method") [.builtin "type.__prepare__", .type "type"]) z z) z) (n (tu [.none]) z z))) (n f0 (n (ts 660 ["self", "op", "args"]) (n t0 (n t0 z z) z) (n (Obj.mk (.type "type") none (.cls { name := O "PList", bases := [.ref 437], mro := [.ref 869, .ref 437, .type "object"], ns := 868, qualname := O "PList" }) (List.toArray [some (.ref 845), none, some (S "PList" 1293), some (S "PList" 1301), some (.builtin "object.__new__"), some (.bool true)])) z z)) (n f0 (n (fl [(275, 4, 750), (278, 4, 757)]) (n t0 z z) z) (n (fr (me 48 2) "Constructors.is_newtype") z z))))) (n t0 (n t0 (n f0 (n (ts 547 ["self", "value", "name", "alts", "other"]) (n (fr (me 25 0) "Binds.__init__") (n (co "rhs_code" "rhs_code" 1546 399 2 0 0 3 1040 true 1041 .none (.ref 1042) (.ref 1043) (.ref 1044) 1553) z z) z) (n (fs (.type "super") [.ref 788, .ref 788, .ref 788]) (n t0 z z) z)) (n t0 (n (co "Say" "Say" 1060 248 0 0 0 0 659 false 660 .none .none .none .none 1063) (n (fq (me 72 6) (.type "function") "Maker.evidence" 3 .none (S "lazycore.desugar_maker" 1679) (.ref 1172)) z z) z) (n t0 z z))) (n (fl [(70, 4, 221), (75, 4, 226), (78, 4, 231), (82, 4, 238)]) (n (ts 634 ["args", "name"]) (n (ts 981 ["name", "uses"]) (n (co "told_items" "told_items" 1639 456 5 0 0 3 1104 true 1105 .none (.ref 1106) (.ref 1107) (.ref 1108) 1653) z z) z) (n t0 z z)) (n (tu [.ref 437]) (n t0 (n (co "_law_take" "_law_take" 1848 538 2 0 0 3 1232 true 1233 .none (.ref 1234) (.ref 1235) (.ref 1236) 1854) z z) z) (n (ts 1466 ["self", "cons"]) z z)))) (n (fr (me 6 3) "Lit.rebuilt") (n t0 (n (fs (.type "builtin_function_or_method") [.builtin "type.__prepare__", .type "type"]) (n (ts 942 ["self"]) (n (fq (st 61) (.type "function") "group_pairs" 3 .none (S "lazycore.desugar_binds" 1504) (.ref 1076)) z z) z) (n t0 z z)) (n g (n (ts 1106 ["self", "binds", "place"]) (n f0 z z) z) (n (di [e P "__module__" 1401 (S "lazycore.pattern_nodes" 1124), e P "__firstlineno__" 1405 (I (331) 1404), e P "__init__" 1414 (.ref 940), e P "row" 1421 (.ref 947), e P "__static_attributes__" 1423 (.ref 948), e P "__doc__" 1424 (.none)] 2) z z))) (n (fs (.type "super") [.ref 242, .ref 242, .ref 242]) (n (fq (me 14 2) (.type "function") "Prim.parts" 3 .none (S "lazycore.core" 229) (.ref 372)) (n (tu [.ref 437]) (n (ts 1717 ["self"]) z z) z) (n (co "__init__" "PAs.__init__" 1338 316 4 0 0 3 880 true 881 .none (.ref 882) (.ref 883) (.ref 884) 1345) z z)) (n (co "Rhs" "Rhs" 850 190 0 0 0 0 499 false 500 .none .none .none .none 853) (n (co "row" "PWild.row" 1179 278 1 0 0 3 752 true 753 .none (.ref 754) (.ref 755) (.ref 756) 1183) (n (fr (st 83) "_law_value") z z) z) (n (fs (.type "builtin_function_or_method") [.builtin "object.__init_subclass__", .ref 1009]) z z)))))
noncomputable def b22 (P : Params) : BT := n t0 (n (Obj.mk (.type "type") none (.cls { name := O "Row", bases := [.type "object"], mro := [.ref 38, .type "object"], ns := 37, qualname := O "Row" }) (List.toArray [none, none, some (S "Row" 196), some (S "Row" 204), some (.builtin "object.__new__"), some (.bool true)])) (n (fq (me 4 2) (.type "function") "Var.parts" 3 .none (S "lazycore.core" 229) (.ref 69)) (n t0 (n (di [e P "__module__" 506 (S "lazycore.core" 229), e P "__firstlineno__" 510 (I (84) 509), e P "__init__" 520 (.ref 260), e P "__static_attributes__" 524 (.ref 261), e P "__dict__" 526 (.ref 264), e P "__weakref__" 528 (.ref 265), e P "__doc__" 529 (.none)] 4) (n (Obj.mk (.type "type") none (.cls { name := O "Rhs", bases := [.ref 437], mro := [.ref 518, .ref 437, .type "object"], ns := 517, qualname := O "Rhs" }) (List.toArray [some (.ref 496), none, some (S "Rhs" 848), some (S "Rhs" 856), some (.builtin "object.__new__"), some (.bool true)])) (n (fr (st 54) "rhs_falls") z z) z) (n (ts 1205 ["self", "kind", "value", "place"]) (n t0 z z) z)) (n (ts 703 ["names", "groups", "scope", "found", "number", "name"]) (n (ts 1048 ["self"]) (n (co "named" "Maker.named" 1731 495 4 0 0 3 1153 true 1154 .none (.ref 1155) (.ref 1156) (.ref 1157) 1739) z z) z) (n t0 z z))) (n t0 (n (fr (me 12 1) "Con.groups") (n (tu [.none]) (n (fr (st 64) "bound") z z) z) (n (co "row" "PTuple.row" 1281 304 1 0 0 3 833 true 834 .none (.ref 835) (.ref 836) (.ref 837) 1285) z z)) (n (fr (me 22 0) "FunBind.__init__") (n (tu [.ref 437]) (n (fs (.type "getset_descriptor") [S "__weakref__" 1831, .ref 1220, .builtin "ExceptionGroup.__weakref__", .none]) z z) z) (n (fq (st 46) (.type "function") "variables_of" 3 .none (S "lazycore.pattern_forms" 1427) (.ref 965)) z z)))) (n t0 (n (fs (.type "builtin_function_or_method") [.builtin "object.__init_subclass__", .ref 162]) (n t0 (n (di [e P "__module__" 925 (S "lazycore.nodes" 726), e P "__qualname__" 927 (S "Var" 926), e P "__firstlineno__" 929 (I (210) 928), e P "__init__" 938 (.ref 562), e P "row" 945 (.ref 569), e P "__static_attributes__" 948 (.ref 570)] 6) (n (co "pattern_pairs" "pattern_pairs" 1576 417 2 0 0 3 1059 true 1060 .none .none .none (.ref 1061) 1579) z z) z) (n t0 (n (fq (st 90) (.type "function") "_law_taken" 3 .none (S "law_np0253_01" 1836) (.ref 1317)) z z) z)) (n f0 (n (ts 1086 ["expr"]) (n (di [e P "__module__" 1794 (S "lazycore.fresh" 1777), e P "__qualname__" 1796 (S "Fresh" 1795), e P "__firstlineno__" 1798 (I (511) 1797), e P "__init__" 1806 (.ref 1203), e P "avoid" 1815 (.ref 1210), e P "next" 1825 (.ref 1217), e P "__static_attributes__" 1828 (.ref 1218)] 7) z z) z) (n t0 z z))) (n (fr (me 9 2) "Let.parts") (n t0 (n (fr (me 30 0) "Comp.__init__") (n f0 z z) z) (n (fs (.type "super") [.ref 869, .ref 869, .ref 869]) z z)) (n (ts 838 ["self"]) (n (co "PWild" "PWild" 1161 273 0 0 0 0 740 false 741 .none .none .none .none 1164) (n f0 z z) z) (n (co "is_newtype" "Constructors.is_newtype" 1479 375 2 0 0 3 993 true 994 .none (.ref 995) (.ref 996) (.ref 997) 1484) z z))))) (n (fr (me 4 0) "Var.__init__") (n (fs (.type "builtin_function_or_method") [.builtin "type.__prepare__", .type "type"]) (n (fr (me 7 2) "App.parts") (n t0 (n (co "__init__" "Binds.__init__" 894 202 4 0 0 3 529 true 530 .none (.ref 531) (.ref 532) (.ref 533) 901) (n (fq (st 56) (.type "function") "rhs_code" 3 .none (S "lazycore.desugar_binds" 1504) (.ref 1045)) z z) z) (n (fs (.type "builtin_function_or_method") [.builtin "object.__init_subclass__", .ref 788]) (n (fr (st 88) "_law_pattern") z z) z)) (n (fr (st 19) "row_of") (n (fm 661 658 "lazycore.nodes" 726) (n (ts 1763 ["classes", "desugar", "fresh", "matcher", "types", "unmatched"]) z z) z) (n (fr (me 42 1) "PLazy.row") z z))) (n (co "Let" "Let" 447 68 0 0 0 0 212 false 213 .none .none .none .none 450) (n (di [e P "__module__" 598 (S "lazycore.core" 229), e P "__firstlineno__" 602 (I (109) 601), e P "__init__" 611 (.ref 321), e P "groups" 618 (.ref 328), e P "parts" 624 (.ref 333), e P "rebuilt" 633 (.ref 340), e P "__static_attributes__" 636 (.ref 341), e P "__dict__" 638 (.ref 344), e P "__weakref__" 640 (.ref 345), e P "__doc__" 641 (.none)] 4) (n (di [e P "__module__" 960 (S "lazycore.nodes" 726), e P "__firstlineno__" 964 (I (220) 963), e P "__init__" 973 (.ref 589), e P "row" 980 (.ref 596), e P "__static_attributes__" 983 (.ref 597), e P "__doc__" 984 (.none)] 2) (n (fq (st 69) (.type "function") "told_items" 3 .none (S "lazycore.desugar_statements" 1625) (.ref 1109)) z z) z) (n f0 z z)) (n (fs (.type "builtin_function_or_method") [.builtin "type.__prepare__", .type "type"]) (n f0 (n (fq (st 78) (.type "function") "_law_take" 3 .none (S "law_np0253_01" 1836) (.ref 1237)) z z) z) (n t0 z z)))) (n (co "rebuilt" "Lit.rebuilt" 319 38 3 0 0 3 113 true 114 .none (.ref 115) (.ref 116) (.ref 117) 325) (n f0 (n (di [e P "__module__" 598 (S "lazycore.core" 229), e P "__qualname__" 600 (S "Con" 599), e P "__firstlineno__" 602 (I (109) 601), e P "__init__" 611 (.ref 321), e P "groups" 618 (.ref 328), e P "parts" 624 (.ref 333), e P "rebuilt" 633 (.ref 340), e P "__static_attributes__" 636 (.ref 341)] 8) (n t0 (n t0 z z) z) (n (fl [(300, 4, 831), (304, 4, 838)]) z z)) (n (fs (.type "getset_descriptor") [S "__dict__" 770, .ref 437, .builtin "function.__dict__", .builtin "function.__dict__#set"]) (n t0 (n (ts 1810 ["self", "names", "name"]) z z) z) (n (Obj.mk (.type "type") none (.cls { name := O "PBang", bases := [.ref 437], mro := [.ref 950, .ref 437, .type "object"], ns := 949, qualname := O "PBang" }) (List.toArray [some (.ref 926), none, some (S "PBang" 1394), some (S "PBang" 1402), some (.builtin "object.__new__"), some (.bool true)])) z z))) (n (fs (.type "builtin_function_or_method") [.builtin "object.__init_subclass__", .ref 242]) (n t0 (n (fs (.type "builtin_function_or_method") [.builtin "type.__prepare__", .type "type"]) (n t0 z z) z) (n (fq (me 41 0) (.type "function") "PAs.__init__" 3 (.ref 879) (S "lazycore.pattern_nodes" 1124) (.ref 885)) z z)) (n (fm 501 498 "lazycore.nodes" 726) (n (fq (me 36 1) (.type "function") "PWild.row" 3 .none (S "lazycore.pattern_nodes" 1124) (.ref 757)) (n (co "_law_value" "_law_value" 1902 576 2 0 0 3 1267 true 1268 .none .none .none (.ref 1269) 1905) z z) z) (n t0 z z)))))
noncomputable def b23 (P : Params) : BT := n (fs (.type "builtin_function_or_method") [.builtin "type.__prepare__", .type "type"]) (n (fs (.type "getset_descriptor") [S "__dict__" 222, .ref 38, .builtin "function.__dict__", .builtin "function.__dict__#set"]) (n t0 (n f0 (n (Obj.mk (.type "type") none (.cls { name := O "Alt", bases := [.type "object"], mro := [.ref 263, .type "object"], ns := 262, qualname := O "Alt" }) (List.toArray [none, none, some (S "Alt" 499), some (S "Alt" 507), some (.builtin "object.__new__"), some (.bool true)])) (n (fs (.type "super") [.ref 518, .ref 518, .ref 518]) (n (co "rhs_falls" "rhs_falls" 1527 391 1 0 0 3 1028 true 1029 .none .none .none (.ref 1030) 1530) z z) z) (n t0 (n f0 z z) z)) (n t0 (n t0 (n (fq (me 72 4) (.type "function") "Maker.named" 3 .none (S "lazycore.desugar_maker" 1679) (.ref 1158)) z z) z) (n (fl [(325, 4, 912), (329, 4, 919)]) z z))) (n (fr (me 8 3) "Lam.rebuilt") (n (co "groups" "Con.groups" 612 115 1 0 0 3 322 true 323 .none (.ref 324) (.ref 325) (.ref 326) 616) (n t0 (n (co "bound" "bound" 1615 447 3 0 0 3 1090 true 1091 .none (.ref 1092) (.ref 1093) (.ref 1094) 1622) z z) z) (n (fq (me 39 1) (.type "function") "PTuple.row" 3 .none (S "lazycore.pattern_nodes" 1124) (.ref 838)) z z)) (n (co "__init__" "FunBind.__init__" 789 173 4 0 0 3 450 true 451 .none (.ref 452) (.ref 453) (.ref 454) 796) (n (fs (.type "builtin_function_or_method") [.builtin "type.__prepare__", .type "type"]) (n (fs (.type "super") [.ref 1220, .ref 1220, .ref 1220]) z z) z) (n t0 z z)))) (n (fr (me 6 1) "Lit.groups") (n t0 (n f0 (n t0 (n (fq (st 59) (.type "function") "pattern_pairs" 3 .none (S "lazycore.desugar_binds" 1504) (.ref 1062)) z z) z) (n f0 (n t0 z z) z)) (n (ts 756 ["self", "place"]) (n (di [e P "__module__" 1065 (S "lazycore.nodes" 726), e P "__firstlineno__" 1069 (I (248) 1068), e P "__init__" 1078 (.ref 670), e P "row" 1085 (.ref 677), e P "__static_attributes__" 1087 (.ref 678), e P "__doc__" 1088 (.none)] 2) (n t0 z z) z) (n f0 z z))) (n (co "parts" "Let.parts" 473 78 1 0 0 3 228 true 229 .none .none .none (.ref 230) 476) (n (fr (me 14 0) "Prim.__init__") (n (co "__init__" "Comp.__init__" 1000 232 4 0 0 3 610 true 611 .none (.ref 612) (.ref 613) (.ref 614) 1007) (n (ts 1696 ["self", "types", "classes", "fresh", "matcher", "unmatched", "desugar"]) z z) z) (n (fs (.type "builtin_function_or_method") [.builtin "object.__init_subclass__", .ref 869]) z z)) (n t0 (n (fm 742 739 "lazycore.pattern_nodes" 1124) (n (ts 1881 ["names", "rows", "fail", "cons", "fresh", "pattern", "body", "first", "second"]) z z) z) (n (fq (me 48 2) (.type "function") "Constructors.is_newtype" 3 .none (S "lazycore.pattern_forms" 1427) (.ref 998)) z z))))) (n (co "__init__" "Var.__init__" 243 14 2 0 0 3 50 true 51 .none (.ref 52) (.ref 53) (.ref 54) 248) (n (di [e P "__module__" 291 (S "lazycore.core" 229), e P "__qualname__" 293 (S "Lit" 292), e P "__firstlineno__" 295 (I (26) 294), e P "__init__" 304 (.ref 98), e P "groups" 311 (.ref 105), e P "parts" 318 (.ref 112), e P "rebuilt" 327 (.ref 119), e P "__static_attributes__" 330 (.ref 120)] 8) (n (co "parts" "App.parts" 366 49 1 0 0 3 148 true 149 .none .none .none (.ref 150) 369) (n (fr (me 11 0) "Case.__init__") (n (fq (me 25 0) (.type "function") "Binds.__init__" 3 (.ref 528) (S "lazycore.nodes" 726) (.ref 534)) (n t0 z z) z) (n (tu [.ref 437]) (n (co "_law_pattern" "_law_pattern" 1952 650 1 0 0 3 1298 true 1299 .none (.ref 1300) (.ref 1301) (.ref 1302) 1956) z z) z)) (n (co "row_of" "row_of" 728 160 1 0 0 3 402 true 403 .none (.ref 404) (.ref 405) (.ref 406) 732) (n (tu [.none]) (n (di [e P "__module__" 1688 (S "lazycore.desugar_maker" 1679), e P "__firstlineno__" 1692 (I (476) 1691), e P "__init__" 1705 (.ref 1131), e P "expression" 1713 (.ref 1138), e P "fail" 1720 (.ref 1145), e P "match" 1730 (.ref 1152), e P "named" 1741 (.ref 1159), e P "list_case" 1754 (.ref 1166), e P "evidence" 1762 (.ref 1173), e P "__static_attributes__" 1769 (.ref 1174), e P "__dict__" 1771 (.ref 1177), e P "__weakref__" 1773 (.ref 1178), e P "__doc__" 1774 (.none)] 4) z z) z) (n (co "row" "PLazy.row" 1382 329 1 0 0 3 914 true 915 .none (.ref 916) (.ref 917) (.ref 918) 1386) z z))) (n (fm 214 211 "lazycore.core" 229) (n (Obj.mk (.type "type") none (.cls { name := O "Con", bases := [.type "object"], mro := [.ref 343, .type "object"], ns := 342, qualname := O "Con" }) (List.toArray [none, none, some (S "Con" 591), some (S "Con" 599), some (.builtin "object.__new__"), some (.bool true)])) (n (Obj.mk (.type "type") none (.cls { name := O "Con", bases := [.ref 437], mro := [.ref 599, .ref 437, .type "object"], ns := 598, qualname := O "Con" }) (List.toArray [some (.ref 575), none, some (S "Con" 953), some (S "Con" 961), some (.builtin "object.__new__"), some (.bool true)])) (n t0 z z) z) (n (ts 1308 ["self", "items", "place"]) z z)) (n (di [e P "__module__" 820 (S "lazycore.nodes" 726), e P "__qualname__" 822 (S "Clause" 821), e P "__firstlineno__" 824 (I (181) 823), e P "__init__" 834 (.ref 483), e P "row" 841 (.ref 490), e P "__static_attributes__" 844 (.ref 491)] 6) (n (ts 1150 ["self"]) (n t0 z z) z) (n (fr (me 48 0) "Constructors.__init__") z z)))) (n (fq (me 6 3) (.type "function") "Lit.rebuilt" 3 .none (S "lazycore.core" 229) (.ref 118)) (n (ts 415 ["self"]) (n t0 (n (fr (me 26 1) "Var.row") (n f0 z z) z) (n (co "PTuple" "PTuple" 1262 298 0 0 0 0 821 false 822 .none .none .none .none 1265) z z)) (n (fs (.type "getset_descriptor") [S "__weakref__" 772, .ref 437, .builtin "ExceptionGroup.__weakref__", .none]) (n (fr (me 33 0) "LetSay.__init__") (n t0 z z) z) (n (fs (.type "super") [.ref 950, .ref 950, .ref 950]) z z))) (n t0 (n f0 (n (di [e P "__module__" 1030 (S "lazycore.nodes" 726), e P "__qualname__" 1032 (S "Generate" 1031), e P "__firstlineno__" 1034 (I (239) 1033), e P "__init__" 1044 (.ref 643), e P "row" 1051 (.ref 650), e P "__static_attributes__" 1054 (.ref 651)] 6) (n (fr (me 72 2) "Maker.fail") z z) z) (n t0 z z)) (n (tu [.none]) (n t0 (n (fq (st 83) (.type "function") "_law_value" 3 .none (S "law_np0253_01" 1836) (.ref 1270)) z z) z) (n f0 z z)))))
noncomputable def b24 (P : Params) : BT := n (di [e P "__module__" 203 (S "lazycore.clauses" 194), e P "__qualname__" 205 (S "Row" 204), e P "__firstlineno__" 207 (I (5) 206), e P "__init__" 217 (.ref 35), e P "__static_attributes__" 221 (.ref 36)] 5) (n (fs (.type "getset_descriptor") [S "__weakref__" 224, .ref 38, .builtin "ExceptionGroup.__weakref__", .none]) (n f0 (n (ts 353 ["self", "fun", "args"]) (n (fs (.type "getset_descriptor") [S "__dict__" 525, .ref 263, .builtin "function.__dict__", .builtin "function.__dict__#set"]) (n (fs (.type "builtin_function_or_method") [.builtin "object.__init_subclass__", .ref 518]) (n (fq (st 54) (.type "function") "rhs_falls" 3 .none (S "lazycore.desugar_binds" 1504) (.ref 1031)) z z) z) (n (fr (me 37 0) "PLit.__init__") (n (fr (st 86) "_law_statements") z z) z)) (n (fr (st 16) "scoped") (n (fr (me 31 1) "Generate.row") (n t0 z z) z) (n (co "PLazy" "PLazy" 1363 323 0 0 0 0 902 false 903 .none .none .none .none 1366) z z))) (n (co "rebuilt" "Lam.rebuilt" 426 66 3 0 0 3 195 true 196 .none (.ref 197) (.ref 198) (.ref 199) 432) (n (fq (me 12 1) (.type "function") "Con.groups" 3 .none (S "lazycore.core" 229) (.ref 327)) (n f0 (n (fq (st 64) (.type "function") "bound" 3 .none (S "lazycore.desugar_binds" 1504) (.ref 1095)) z z) z) (n (ts 1288 ["items"]) z z)) (n (fq (me 22 0) (.type "function") "FunBind.__init__" 3 (.ref 449) (S "lazycore.nodes" 726) (.ref 455)) (n (di [e P "__module__" 1133 (S "lazycore.pattern_nodes" 1124), e P "__qualname__" 1135 (S "PVar" 1134), e P "__firstlineno__" 1137 (I (265) 1136), e P "__init__" 1146 (.ref 724), e P "row" 1153 (.ref 731), e P "__static_attributes__" 1155 (.ref 732)] 6) (n (fs (.type "builtin_function_or_method") [.builtin "object.__init_subclass__", .ref 1220]) z z) z) (n f0 z z)))) (n (co "groups" "Lit.groups" 305 32 1 0 0 3 99 true 100 .none (.ref 101) (.ref 102) (.ref 103) 309) (n (fs (.type "builtin_function_or_method") [.builtin "type.__prepare__", .type "type"]) (n (ts 573 ["self", "groups", "parts"]) (n (fl [(212, 4, 561), (217, 4, 568)]) (n t0 z z) z) (n (ts 1250 ["self"]) (n f0 z z) z)) (n t0 (n (Obj.mk (.type "type") none (.cls { name := O "Say", bases := [.ref 437], mro := [.ref 680, .ref 437, .type "object"], ns := 679, qualname := O "Say" }) (List.toArray [some (.ref 656), none, some (S "Say" 1058), some (S "Say" 1066), some (.builtin "object.__new__"), some (.bool true)])) (n (fl [(513, 4, 1202), (518, 4, 1209), (522, 4, 1216)]) z z) z) (n (ts 1409 ["self", "pattern", "place"]) z z))) (n (fq (me 9 2) (.type "function") "Let.parts" 3 .none (S "lazycore.core" 229) (.ref 231)) (n (co "__init__" "Prim.__init__" 657 126 3 0 0 3 355 true 356 .none (.ref 357) (.ref 358) (.ref 359) 663) (n (fq (me 30 0) (.type "function") "Comp.__init__" 3 (.ref 609) (S "lazycore.nodes" 726) (.ref 615)) (n t0 z z) z) (n (tu [.ref 437]) z z)) (n (fr (me 23 1) "Clause.row") (n (tu [.none]) (n t0 z z) z) (n t0 z z))))) (n (fq (me 4 0) (.type "function") "Var.__init__" 3 .none (S "lazycore.core" 229) (.ref 55)) (n t0 (n (fq (me 7 2) (.type "function") "App.parts" 3 .none (S "lazycore.core" 229) (.ref 151)) (n (co "__init__" "Case.__init__" 544 92 5 0 0 3 275 true 276 .none (.ref 277) (.ref 278) (.ref 279) 552) (n t0 (n f0 z z) z) (n (fs (.type "builtin_function_or_method") [.builtin "type.__prepare__", .type "type"]) (n (fq (st 88) (.type "function") "_law_pattern" 3 .none (S "law_np0253_01" 1836) (.ref 1303)) z z) z)) (n (fq (st 19) (.type "function") "row_of" 3 .none (S "lazycore.nodes" 726) (.ref 407)) (n t0 (n (Obj.mk (.type "type") none (.cls { name := O "Maker", bases := [.type "object"], mro := [.ref 1176, .type "object"], ns := 1175, qualname := O "Maker" }) (List.toArray [none, none, some (S "Maker" 1681), some (S "Maker" 1689), some (.builtin "object.__new__"), some (.bool true)])) z z) z) (n (fq (me 42 1) (.type "function") "PLazy.row" 3 .none (S "lazycore.pattern_nodes" 1124) (.ref 919)) z z))) (n t0 (n (fs (.type "getset_descriptor") [S "__dict__" 637, .ref 343, .builtin "function.__dict__", .builtin "function.__dict__#set"]) (n (fs (.type "super") [.ref 599, .ref 599, .ref 599]) (n f0 z z) z) (n t0 z z)) (n t0 (n t0 (n f0 z z) z) (n (co "__init__" "Constructors.__init__" 1463 369 2 0 0 3 979 true 980 .none (.ref 981) (.ref 982) (.ref 983) 1468) z z)))) (n (ts 328 ["kind", "value"]) (n t0 (n (fl [(111, 4, 320), (115, 4, 327), (118, 4, 332), (121, 4, 339)]) (n (co "row" "Var.row" 939 217 1 0 0 3 563 true 564 .none (.ref 565) (.ref 566) (.ref 567) 943) (n (fr (st 62) "is_round") z z) z) (n (fm 823 820 "lazycore.pattern_nodes" 1124) z z)) (n (fs (.type "super") [.ref 437, .ref 437, .ref 437]) (n (co "__init__" "LetSay.__init__" 1103 258 3 0 0 3 691 true 692 .none (.ref 693) (.ref 694) (.ref 695) 1109) (n (fr (me 75 1) "Fresh.avoid") z z) z) (n (fs (.type "builtin_function_or_method") [.builtin "object.__init_subclass__", .ref 950]) z z))) (n (fs (.type "builtin_function_or_method") [.builtin "type.__prepare__", .type "type"]) (n (ts 682 ["self", "groups", "parts"]) (n t0 (n (co "fail" "Maker.fail" 1714 489 1 0 0 3 1139 true 1140 .none (.ref 1141) (.ref 1142) (.ref 1143) 1718) z z) z) (n f0 z z)) (n t0 (n (di [e P "__module__" 1166 (S "lazycore.pattern_nodes" 1124), e P "__firstlineno__" 1170 (I (273) 1169), e P "__init__" 1178 (.ref 751), e P "row" 1185 (.ref 758), e P "__static_attributes__" 1186 (.ref 759), e P "__doc__" 1187 (.none)] 2) (n t0 z z) z) (n (ts 1513 ["fresh", "condition", "then", "other"]) z z)))))
noncomputable def b25 (P : Params) : BT := n t0 (n (fs (.type "super") [.ref 38, .ref 38, .ref 38]) (n (ts 268 ["self", "groups", "parts"]) (n t0 (n (fs (.type "getset_descriptor") [S "__weakref__" 527, .ref 263, .builtin "ExceptionGroup.__weakref__", .none]) (n (tu [.ref 437]) (n t0 z z) z) (n (co "__init__" "PLit.__init__" 1202 282 4 0 0 3 772 true 773 .none (.ref 774) (.ref 775) (.ref 776) 1209) (n (co "_law_statements" "_law_statements" 1930 619 1 0 0 3 1286 true 1287 .none .none .none (.ref 1288) 1933) z z) z)) (n (co "scoped" "scoped" 700 139 3 0 0 3 388 true 389 .none (.ref 390) (.ref 391) (.ref 392) 709) (n (co "row" "Generate.row" 1045 246 1 0 0 3 644 true 645 .none (.ref 646) (.ref 647) (.ref 648) 1049) (n f0 z z) z) (n (fm 904 901 "lazycore.pattern_nodes" 1124) z z))) (n (fq (me 8 3) (.type "function") "Lam.rebuilt" 3 .none (S "lazycore.core" 229) (.ref 200)) (n t0 (n (ts 968 ["self", "name", "place"]) (n t0 z z) z) (n (di [e P "__module__" 1267 (S "lazycore.pattern_nodes" 1124), e P "__firstlineno__" 1271 (I (298) 1270), e P "__init__" 1280 (.ref 832), e P "row" 1287 (.ref 839), e P "__static_attributes__" 1289 (.ref 840), e P "__doc__" 1290 (.none)] 2) z z)) (n t0 (n t0 (n t0 z z) z) (n (fr (st 47) "renamed_pattern") z z)))) (n (fq (me 6 1) (.type "function") "Lit.groups" 3 .none (S "lazycore.core" 229) (.ref 104)) (n (di [e P "__module__" 398 (S "lazycore.core" 229), e P "__qualname__" 400 (S "Lam" 399), e P "__firstlineno__" 402 (I (54) 401), e P "__init__" 411 (.ref 180), e P "groups" 418 (.ref 187), e P "parts" 425 (.ref 194), e P "rebuilt" 434 (.ref 201), e P "__static_attributes__" 437 (.ref 202)] 8) (n t0 (n (co "Var" "Var" 920 210 0 0 0 0 551 false 552 .none .none .none .none 923) (n f0 z z) z) (n t0 (n (fr (st 91) "_law_loops") z z) z)) (n (fr (me 21 0) "Node.__init__") (n (fs (.type "super") [.ref 680, .ref 680, .ref 680]) (n (co "Fresh" "Fresh" 1789 511 0 0 0 0 1191 false 1192 .none .none .none .none 1792) z z) z) (n t0 z z))) (n t0 (n (fq (me 14 0) (.type "function") "Prim.__init__" 3 .none (S "lazycore.core" 229) (.ref 360)) (n t0 (n (fr (me 72 0) "Maker.__init__") z z) z) (n (fs (.type "builtin_function_or_method") [.builtin "type.__prepare__", .type "type"]) z z)) (n (co "row" "Clause.row" 835 188 1 0 0 3 484 true 485 .none (.ref 486) (.ref 487) (.ref 488) 839) (n t0 (n (fr (st 81) "_law_matched") z z) z) (n f0 z z))))) (n t0 (n (fl [(28, 4, 97), (32, 4, 104), (35, 4, 111), (38, 4, 118)]) (n t0 (n (fq (me 11 0) (.type "function") "Case.__init__" 3 .none (S "lazycore.core" 229) (.ref 280)) (n f0 (n (fr (st 57) "function_core") z z) z) (n (di [e P "__module__" 1232 (S "lazycore.pattern_nodes" 1124), e P "__qualname__" 1234 (S "PCon" 1233), e P "__firstlineno__" 1236 (I (289) 1235), e P "__init__" 1246 (.ref 805), e P "row" 1253 (.ref 812), e P "__static_attributes__" 1256 (.ref 813)] 6) (n t0 z z) z)) (n t0 (n f0 (n (fs (.type "getset_descriptor") [S "__dict__" 1770, .ref 1176, .builtin "function.__dict__", .builtin "function.__dict__#set"]) z z) z) (n (ts 1389 ["pattern"]) z z))) (n f0 (n (fs (.type "getset_descriptor") [S "__weakref__" 639, .ref 343, .builtin "ExceptionGroup.__weakref__", .none]) (n (fs (.type "builtin_function_or_method") [.builtin "object.__init_subclass__", .ref 599]) (n (ts 1659 ["maker", "pattern", "loop", "items", "expr", "statements", "at", "rest", "item", "more", "inner", "step"]) z z) z) (n (fr (me 40 0) "PList.__init__") z z)) (n (fl [(183, 4, 482), (188, 4, 489)]) (n (fr (me 35 1) "PVar.row") (n (ts 1860 ["names", "number", "found", "name"]) z z) z) (n (fq (me 48 0) (.type "function") "Constructors.__init__" 3 .none (S "lazycore.pattern_forms" 1427) (.ref 984)) z z)))) (n (di [e P "__module__" 291 (S "lazycore.core" 229), e P "__firstlineno__" 295 (I (26) 294), e P "__init__" 304 (.ref 98), e P "groups" 311 (.ref 105), e P "parts" 318 (.ref 112), e P "rebuilt" 327 (.ref 119), e P "__static_attributes__" 330 (.ref 120), e P "__dict__" 332 (.ref 123), e P "__weakref__" 334 (.ref 124), e P "__doc__" 335 (.none)] 4) (n (fr (me 8 1) "Lam.groups") (n (co "Con" "Con" 593 109 0 0 0 0 311 false 312 .none .none .none .none 596) (n (fq (me 26 1) (.type "function") "Var.row" 3 .none (S "lazycore.nodes" 726) (.ref 568)) (n (co "is_round" "is_round" 1600 435 1 0 0 3 1078 true 1079 .none .none .none (.ref 1080) 1603) z z) z) (n (tu [.none]) z z)) (n (fs (.type "builtin_function_or_method") [.builtin "object.__init_subclass__", .ref 437]) (n (fq (me 33 0) (.type "function") "LetSay.__init__" 3 (.ref 690) (S "lazycore.nodes" 726) (.ref 696)) (n (co "avoid" "Fresh.avoid" 1807 518 2 0 0 3 1204 true 1205 .none (.ref 1206) (.ref 1207) (.ref 1208) 1813) z z) z) (n t0 z z))) (n (di [e P "__module__" 506 (S "lazycore.core" 229), e P "__qualname__" 508 (S "Alt" 507), e P "__firstlineno__" 510 (I (84) 509), e P "__init__" 520 (.ref 260), e P "__static_attributes__" 524 (.ref 261)] 5) (n t0 (n (fl [(241, 4, 642), (246, 4, 649)]) (n (fq (me 72 2) (.type "function") "Maker.fail" 3 .none (S "lazycore.desugar_maker" 1679) (.ref 1144)) z z) z) (n (ts 1351 ["self"]) z z)) (n f0 (n (Obj.mk (.type "type") none (.cls { name := O "PWild", bases := [.ref 437], mro := [.ref 761, .ref 437, .type "object"], ns := 760, qualname := O "PWild" }) (List.toArray [some (.ref 737), none, some (S "PWild" 1159), some (S "PWild" 1167), some (.builtin "object.__new__"), some (.bool true)])) (n f0 z z) z) (n t0 z z)))))
noncomputable def b26 (P : Params) : BT := n (fl [(7, 4, 34)]) (n (fs (.type "builtin_function_or_method") [.builtin "object.__init_subclass__", .ref 38]) (n t0 (n (fr (me 7 0) "App.__init__") (n (fs (.type "super") [.ref 263, .ref 263, .ref 263]) (n (fs (.type "builtin_function_or_method") [.builtin "type.__prepare__", .type "type"]) (n f0 z z) z) (n (fq (me 37 0) (.type "function") "PLit.__init__" 3 (.ref 771) (S "lazycore.pattern_nodes" 1124) (.ref 777)) (n (fq (st 86) (.type "function") "_law_statements" 3 .none (S "law_np0253_01" 1836) (.ref 1289)) z z) z)) (n (fq (st 16) (.type "function") "scoped" 3 .none (S "lazycore.core_names" 698) (.ref 393)) (n (fq (me 31 1) (.type "function") "Generate.row" 3 .none (S "lazycore.nodes" 726) (.ref 649)) (n (ts 1745 ["self", "items", "empty", "item", "more", "step", "alts"]) z z) z) (n (tu [.none]) z z))) (n (ts 435 ["body", "params"]) (n f0 (n t0 (n f0 z z) z) (n (Obj.mk (.type "type") none (.cls { name := O "PTuple", bases := [.ref 437], mro := [.ref 842, .ref 437, .type "object"], ns := 841, qualname := O "PTuple" }) (List.toArray [some (.ref 818), none, some (S "PTuple" 1260), some (S "PTuple" 1268), some (.builtin "object.__new__"), some (.bool true)])) z z)) (n f0 (n (fl [(267, 4, 723), (271, 4, 730)]) (n f0 z z) z) (n (co "renamed_pattern" "renamed_pattern" 1445 351 2 0 0 3 967 true 968 .none .none .none (.ref 969) 1448) z z)))) (n t0 (n t0 (n (fr (me 11 3) "Case.rebuilt") (n (fm 553 550 "lazycore.nodes" 726) (n (ts 1585 ["maker", "bind"]) z z) z) (n (fr (me 38 1) "PCon.row") (n (co "_law_loops" "_law_loops" 1976 675 5 0 0 3 1319 true 1320 .none .none .none (.ref 1321) 1979) z z) z)) (n (co "__init__" "Node.__init__" 753 166 2 0 0 3 421 true 422 .none (.ref 423) (.ref 424) (.ref 425) 758) (n (fs (.type "builtin_function_or_method") [.builtin "object.__init_subclass__", .ref 680]) (n (fm 1193 1190 "lazycore.fresh" 1777) z z) z) (n (fr (me 43 0) "PBang.__init__") z z))) (n f0 (n t0 (n f0 (n (co "__init__" "Maker.__init__" 1693 478 7 0 0 3 1125 true 1126 .none (.ref 1127) (.ref 1128) (.ref 1129) 1703) z z) z) (n (di [e P "__module__" 1333 (S "lazycore.pattern_nodes" 1124), e P "__qualname__" 1335 (S "PAs" 1334), e P "__firstlineno__" 1337 (I (314) 1336), e P "__init__" 1347 (.ref 886), e P "row" 1354 (.ref 893), e P "__static_attributes__" 1357 (.ref 894)] 6) z z)) (n (fq (me 23 1) (.type "function") "Clause.row" 3 .none (S "lazycore.nodes" 726) (.ref 489)) (n f0 (n (co "_law_matched" "_law_matched" 1878 560 5 0 0 3 1253 true 1254 .none (.ref 1255) (.ref 1256) (.ref 1257) 1890) z z) z) (n (ts 1490 ["self", "name"]) z z))))) (n f0 (n (co "Lit" "Lit" 286 26 0 0 0 0 88 false 89 .none .none .none .none 289) (n f0 (n t0 (n (ts 907 ["self"]) (n (co "function_core" "function_core" 1556 401 3 0 0 3 1047 true 1048 .none .none .none (.ref 1049) 1559) z z) z) (n t0 (n f0 z z) z)) (n f0 (n (ts 1073 ["self", "expr", "place"]) (n (fs (.type "getset_descriptor") [S "__weakref__" 1772, .ref 1176, .builtin "ExceptionGroup.__weakref__", .none]) z z) z) (n (di [e P "__module__" 1368 (S "lazycore.pattern_nodes" 1124), e P "__firstlineno__" 1372 (I (323) 1371), e P "__init__" 1381 (.ref 913), e P "row" 1388 (.ref 920), e P "__static_attributes__" 1390 (.ref 921), e P "__doc__" 1391 (.none)] 2) z z))) (n (ts 460 ["self", "binds", "body", "is_rec"]) (n (fs (.type "super") [.ref 343, .ref 343, .ref 343]) (n (tu [.ref 437]) (n (ts 1671 ["maker", "expr", "statements", "at", "again"]) z z) z) (n (co "__init__" "PList.__init__" 1305 308 3 0 0 3 853 true 854 .none (.ref 855) (.ref 856) (.ref 857) 1311) z z)) (n (co "Clause" "Clause" 815 181 0 0 0 0 472 false 473 .none .none .none .none 818) (n (co "row" "PVar.row" 1147 271 1 0 0 3 725 true 726 .none (.ref 727) (.ref 728) (.ref 729) 1151) (n t0 z z) z) (n t0 z z)))) (n (Obj.mk (.type "type") none (.cls { name := O "Lit", bases := [.type "object"], mro := [.ref 122, .type "object"], ns := 121, qualname := O "Lit" }) (List.toArray [none, none, some (S "Lit" 284), some (S "Lit" 292), some (.builtin "object.__new__"), some (.bool true)])) (n (co "groups" "Lam.groups" 412 60 1 0 0 3 181 true 182 .none (.ref 183) (.ref 184) (.ref 185) 416) (n (fm 313 310 "lazycore.core" 229) (n (ts 946 ["name", "uses"]) (n (fq (st 62) (.type "function") "is_round" 3 .none (S "lazycore.desugar_binds" 1504) (.ref 1081)) z z) z) (n t0 z z)) (n (tu [.ref 437]) (n t0 (n (fq (me 75 1) (.type "function") "Fresh.avoid" 3 .none (S "lazycore.fresh" 1777) (.ref 1209)) z z) z) (n f0 z z))) (n t0 (n (fr (me 14 3) "Prim.rebuilt") (n (co "Generate" "Generate" 1025 239 0 0 0 0 632 false 633 .none .none .none .none 1028) (n t0 z z) z) (n t0 z z)) (n (ts 863 ["self", "guarded", "where", "place"]) (n (fs (.type "super") [.ref 761, .ref 761, .ref 761]) (n (ts 1911 ["core", "env", "value", "place", "alt", "name", "field"]) z z) z) (n (fr (st 52) "choice") z z)))))
noncomputable def b27 (P : Params) : BT := n (co "Row" "Row" 198 5 0 0 0 0 25 false 26 .none .none .none .none 201) (n t0 (n (fr (me 4 3) "Var.rebuilt") (n (co "__init__" "App.__init__" 350 42 3 0 0 3 134 true 135 .none (.ref 136) (.ref 137) (.ref 138) 356) (n (fs (.type "builtin_function_or_method") [.builtin "object.__init_subclass__", .ref 263]) (n (di [e P "__module__" 889 (S "lazycore.nodes" 726), e P "__qualname__" 891 (S "Binds" 890), e P "__firstlineno__" 893 (I (200) 892), e P "__init__" 903 (.ref 535), e P "row" 910 (.ref 542), e P "__static_attributes__" 914 (.ref 543)] 6) (n (ts 1536 ["maker", "rhs", "fall", "found", "condition", "expr", "core"]) z z) z) (n t0 (n t0 z z) z)) (n t0 (n (ts 1052 ["expr", "pattern"]) (n t0 z z) z) (n t0 z z))) (n (di [e P "__module__" 398 (S "lazycore.core" 229), e P "__firstlineno__" 402 (I (54) 401), e P "__init__" 411 (.ref 180), e P "groups" 418 (.ref 187), e P "parts" 425 (.ref 194), e P "rebuilt" 434 (.ref 201), e P "__static_attributes__" 437 (.ref 202), e P "__dict__" 439 (.ref 205), e P "__weakref__" 441 (.ref 206), e P "__doc__" 442 (.none)] 4) (n (fr (me 12 2) "Con.parts") (n (fr (me 28 0) "Con.__init__") (n (ts 1634 ["maker", "node"]) z z) z) (n (fs (.type "super") [.ref 842, .ref 842, .ref 842]) z z)) (n (ts 802 ["self"]) (n (co "PVar" "PVar" 1128 265 0 0 0 0 713 false 714 .none .none .none .none 1131) (n (ts 1841 ["script", "big", "mixed", "k"]) z z) z) (n (fq (st 47) (.type "function") "renamed_pattern" 3 .none (S "lazycore.pattern_forms" 1427) (.ref 970)) z z)))) (n f0 (n (fl [(56, 4, 179), (60, 4, 186), (63, 4, 193), (66, 4, 200)]) (n (co "rebuilt" "Case.rebuilt" 570 107 3 0 0 3 294 true 295 .none (.ref 296) (.ref 297) (.ref 298) 576) (n (tu [.none]) (n t0 z z) z) (n (co "row" "PCon.row" 1247 296 1 0 0 3 806 true 807 .none (.ref 808) (.ref 809) (.ref 810) 1251) (n (fq (st 91) (.type "function") "_law_loops" 3 .none (S "law_np0253_01" 1836) (.ref 1322)) z z) z)) (n (fq (me 21 0) (.type "function") "Node.__init__" 3 .none (S "lazycore.nodes" 726) (.ref 426)) (n (tu [.ref 437]) (n t0 z z) z) (n (co "__init__" "PBang.__init__" 1406 333 3 0 0 3 934 true 935 .none (.ref 936) (.ref 937) (.ref 938) 1412) z z))) (n (ts 482 ["self", "groups", "parts"]) (n f0 (n (ts 1013 ["self"]) (n (fq (me 72 0) (.type "function") "Maker.__init__" 3 .none (S "lazycore.desugar_maker" 1679) (.ref 1130)) z z) z) (n t0 z z)) (n (ts 842 ["patterns", "rhs"]) (n (ts 1174 ["self", "place"]) (n (fq (st 81) (.type "function") "_law_matched" 3 .none (S "law_np0253_01" 1836) (.ref 1258)) z z) z) (n t0 z z))))) (n (ts 254 ["self"]) (n (fm 90 87 "lazycore.core" 229) (n (ts 375 ["self", "groups", "parts"]) (n f0 (n t0 (n (fq (st 57) (.type "function") "function_core" 3 .none (S "lazycore.desugar_binds" 1504) (.ref 1050)) z z) z) (n (fl [(291, 4, 804), (296, 4, 811)]) (n (ts 1962 ["row", "bind", "binds"]) z z) z)) (n (fr (st 20) "rows_of") (n t0 (n (fs (.type "super") [.ref 1176, .ref 1176, .ref 1176]) z z) z) (n (Obj.mk (.type "type") none (.cls { name := O "PLazy", bases := [.ref 437], mro := [.ref 923, .ref 437, .type "object"], ns := 922, qualname := O "PLazy" }) (List.toArray [some (.ref 899), none, some (S "PLazy" 1361), some (S "PLazy" 1369), some (.builtin "object.__new__"), some (.bool true)])) z z))) (n t0 (n (fs (.type "builtin_function_or_method") [.builtin "object.__init_subclass__", .ref 343]) (n (fs (.type "builtin_function_or_method") [.builtin "type.__prepare__", .type "type"]) (n (fr (st 70) "loop_body") z z) z) (n (fq (me 40 0) (.type "function") "PList.__init__" 3 (.ref 852) (S "lazycore.pattern_nodes" 1124) (.ref 858)) z z)) (n (fm 474 471 "lazycore.nodes" 726) (n (fq (me 35 1) (.type "function") "PVar.row" 3 .none (S "lazycore.pattern_nodes" 1124) (.ref 730)) (n (fr (st 79) "_law_number") z z) z) (n f0 z z)))) (n (fs (.type "getset_descriptor") [S "__dict__" 331, .ref 122, .builtin "function.__dict__", .builtin "function.__dict__#set"]) (n (fq (me 8 1) (.type "function") "Lam.groups" 3 .none (S "lazycore.core" 229) (.ref 186)) (n t0 (n (di [e P "__module__" 925 (S "lazycore.nodes" 726), e P "__firstlineno__" 929 (I (210) 928), e P "__init__" 938 (.ref 562), e P "row" 945 (.ref 569), e P "__static_attributes__" 948 (.ref 570), e P "__doc__" 949 (.none)] 2) (n t0 z z) z) (n f0 z z)) (n (fs (.type "builtin_function_or_method") [.builtin "type.__prepare__", .type "type"]) (n f0 (n t0 z z) z) (n (ts 1432 ["pattern"]) z z))) (n (fl [(86, 4, 259)]) (n (co "rebuilt" "Prim.rebuilt" 679 136 3 0 0 3 374 true 375 .none (.ref 376) (.ref 377) (.ref 378) 685) (n (fm 634 631 "lazycore.nodes" 726) (n f0 z z) z) (n (fr (me 41 1) "PAs.row") z z)) (n t0 (n (fs (.type "builtin_function_or_method") [.builtin "object.__init_subclass__", .ref 761]) (n t0 z z) z) (n (co "choice" "choice" 1510 383 4 0 0 3 1014 true 1015 .none (.ref 1016) (.ref 1017) (.ref 1018) 1517) z z)))))
noncomputable def b28 (P : Params) : BT := n (fm 27 24 "lazycore.clauses" 194) (n (fs (.type "builtin_function_or_method") [.builtin "type.__prepare__", .type "type"]) (n (co "rebuilt" "Var.rebuilt" 265 23 3 0 0 3 71 true 72 .none (.ref 73) (.ref 74) (.ref 75) 271) (n (fq (me 7 0) (.type "function") "App.__init__" 3 .none (S "lazycore.core" 229) (.ref 139)) (n t0 (n t0 (n t0 z z) z) (n f0 (n f0 z z) z)) (n f0 (n (di [e P "__module__" 1030 (S "lazycore.nodes" 726), e P "__firstlineno__" 1034 (I (239) 1033), e P "__init__" 1044 (.ref 643), e P "row" 1051 (.ref 650), e P "__static_attributes__" 1054 (.ref 651), e P "__doc__" 1055 (.none)] 2) (n (fr (me 72 5) "Maker.list_case") z z) z) (n f0 z z))) (n (Obj.mk (.type "type") none (.cls { name := O "Lam", bases := [.type "object"], mro := [.ref 204, .type "object"], ns := 203, qualname := O "Lam" }) (List.toArray [none, none, some (S "Lam" 391), some (S "Lam" 399), some (.builtin "object.__new__"), some (.bool true)])) (n (co "parts" "Con.parts" 619 118 1 0 0 3 329 true 330 .none .none .none (.ref 331) 622) (n (co "__init__" "Con.__init__" 965 222 3 0 0 3 583 true 584 .none (.ref 585) (.ref 586) (.ref 587) 971) (n t0 z z) z) (n (fs (.type "builtin_function_or_method") [.builtin "object.__init_subclass__", .ref 842]) z z)) (n t0 (n (fm 715 712 "lazycore.pattern_nodes" 1124) (n t0 z z) z) (n t0 z z)))) (n (ts 315 ["self"]) (n (co "Lam" "Lam" 393 54 0 0 0 0 170 false 171 .none .none .none .none 396) (n (fq (me 11 3) (.type "function") "Case.rebuilt" 3 .none (S "lazycore.core" 229) (.ref 299)) (n t0 (n (fr (st 60) "bind_pairs") z z) z) (n (fq (me 38 1) (.type "function") "PCon.row" 3 .none (S "lazycore.pattern_nodes" 1124) (.ref 811)) (n t0 z z) z)) (n t0 (n (fs (.type "builtin_function_or_method") [.builtin "type.__prepare__", .type "type"]) (n (tu [.ref 1195]) z z) z) (n (fq (me 43 0) (.type "function") "PBang.__init__" 3 (.ref 933) (S "lazycore.pattern_nodes" 1124) (.ref 939)) z z))) (n t0 (n (ts 669 ["self"]) (n t0 (n t0 z z) z) (n (fl [(316, 4, 885), (321, 4, 892)]) z z)) (n (di [e P "__module__" 820 (S "lazycore.nodes" 726), e P "__firstlineno__" 824 (I (181) 823), e P "__init__" 834 (.ref 483), e P "row" 841 (.ref 490), e P "__static_attributes__" 844 (.ref 491), e P "__doc__" 845 (.none)] 2) (n t0 (n t0 z z) z) (n (fr (me 48 3) "Constructors.siblings") z z))))) (n t0 (n t0 (n t0 (n (fr (me 11 1) "Case.groups") (n (fr (me 25 1) "Binds.row") (n t0 z z) z) (n (co "PCon" "PCon" 1227 289 0 0 0 0 794 false 795 .none .none .none .none 1230) (n t0 z z) z)) (n (co "rows_of" "rows_of" 735 162 1 0 0 3 409 true 410 .none .none .none (.ref 411) 738) (n (fr (me 32 0) "Say.__init__") (n (fs (.type "builtin_function_or_method") [.builtin "object.__init_subclass__", .ref 1176]) z z) z) (n (fs (.type "super") [.ref 923, .ref 923, .ref 923]) z z))) (n (fr (me 9 0) "Let.__init__") (n t0 (n (di [e P "__module__" 995 (S "lazycore.nodes" 726), e P "__qualname__" 997 (S "Comp" 996), e P "__firstlineno__" 999 (I (230) 998), e P "__init__" 1009 (.ref 616), e P "row" 1016 (.ref 623), e P "__static_attributes__" 1019 (.ref 624)] 6) (n (co "loop_body" "loop_body" 1656 469 8 0 0 3 1111 true 1112 .none (.ref 1113) (.ref 1114) (.ref 1115) 1676) z z) z) (n t0 z z)) (n (tu [.none]) (n (ts 1154 ["name"]) (n (co "_law_number" "_law_number" 1857 545 2 0 0 3 1239 true 1240 .none (.ref 1241) (.ref 1242) (.ref 1243) 1864) z z) z) (n (ts 1474 ["self", "name"]) z z)))) (n (fs (.type "getset_descriptor") [S "__weakref__" 333, .ref 122, .builtin "ExceptionGroup.__weakref__", .none]) (n t0 (n f0 (n (Obj.mk (.type "type") none (.cls { name := O "Var", bases := [.ref 437], mro := [.ref 572, .ref 437, .type "object"], ns := 571, qualname := O "Var" }) (List.toArray [some (.ref 548), none, some (S "Var" 918), some (S "Var" 926), some (.builtin "object.__new__"), some (.bool true)])) (n f0 z z) z) (n (ts 1275 ["self", "items", "place"]) z z)) (n (di [e P "__module__" 784 (S "lazycore.nodes" 726), e P "__qualname__" 786 (S "FunBind" 785), e P "__firstlineno__" 788 (I (171) 787), e P "__init__" 798 (.ref 456), e P "row" 805 (.ref 463), e P "__static_attributes__" 809 (.ref 464)] 6) (n (ts 1115 ["self"]) (n f0 z z) z) (n t0 z z))) (n (co "Alt" "Alt" 501 84 0 0 0 0 250 false 251 .none .none .none .none 504) (n (fq (me 14 3) (.type "function") "Prim.rebuilt" 3 .none (S "lazycore.core" 229) (.ref 379)) (n (tu [.none]) (n (ts 1724 ["self", "names", "rows", "fail"]) z z) z) (n (co "row" "PAs.row" 1348 321 1 0 0 3 887 true 888 .none (.ref 889) (.ref 890) (.ref 891) 1352) z z)) (n (fr (me 24 0) "Rhs.__init__") (n (tu [.ref 437]) (n (fr (st 84) "_law_chosen") z z) z) (n (fq (st 52) (.type "function") "choice" 3 .none (S "lazycore.desugar_binds" 1504) (.ref 1019)) z z)))))
noncomputable def b29 (P : Params) : BT := n t0 (n (di [e P "__module__" 238 (S "lazycore.core" 229), e P "__qualname__" 240 (S "Var" 239), e P "__firstlineno__" 242 (I (12) 241), e P "__init__" 250 (.ref 56), e P "groups" 257 (.ref 63), e P "parts" 264 (.ref 70), e P "rebuilt" 273 (.ref 77), e P "__static_attributes__" 275 (.ref 78)] 8) (n (fq (me 4 3) (.type "function") "Var.rebuilt" 3 .none (S "lazycore.core" 229) (.ref 76)) (n t0 (n (fs (.type "builtin_function_or_method") [.builtin "type.__prepare__", .type "type"]) (n (fl [(202, 4, 534), (208, 4, 541)]) (n (fr (st 55) "guarded") z z) z) (n (ts 1215 ["self"]) (n (ts 1939 ["source", "turn", "names", "is_pair", "way", "items", "step", "one", "other", "name"]) z z) z)) (n (ts 715 ["expr", "found", "tasks", "node", "bound", "groups", "part", "scope"]) (n (Obj.mk (.type "type") none (.cls { name := O "Generate", bases := [.ref 437], mro := [.ref 653, .ref 437, .type "object"], ns := 652, qualname := O "Generate" }) (List.toArray [some (.ref 629), none, some (S "Generate" 1023), some (S "Generate" 1031), some (.builtin "object.__new__"), some (.bool true)])) (n (co "list_case" "Maker.list_case" 1742 501 6 0 0 3 1160 true 1161 .none (.ref 1162) (.ref 1163) (.ref 1164) 1752) z z) z) (n (ts 1376 ["self", "pattern", "place"]) z z))) (n (fs (.type "getset_descriptor") [S "__dict__" 438, .ref 204, .builtin "function.__dict__", .builtin "function.__dict__#set"]) (n (fq (me 12 2) (.type "function") "Con.parts" 3 .none (S "lazycore.core" 229) (.ref 332)) (n (fq (me 28 0) (.type "function") "Con.__init__" 3 (.ref 582) (S "lazycore.nodes" 726) (.ref 588)) (n (fr (st 68) "comprehension") z z) z) (n (tu [.ref 437]) z z)) (n (fr (me 22 1) "FunBind.row") (n (tu [.none]) (n (fr (st 77) "_law_pool") z z) z) (n (fs (.type "builtin_function_or_method") [.builtin "type.__prepare__", .type "type"]) z z)))) (n t0 (n (fm 172 169 "lazycore.core" 229) (n (ts 579 ["alts", "name", "other", "value"]) (n f0 (n (co "bind_pairs" "bind_pairs" 1582 426 2 0 0 3 1064 true 1065 .none (.ref 1066) (.ref 1067) (.ref 1068) 1587) z z) z) (n (ts 1254 ["args", "name"]) (n f0 z z) z)) (n f0 (n (di [e P "__module__" 1098 (S "lazycore.nodes" 726), e P "__qualname__" 1100 (S "LetSay" 1099), e P "__firstlineno__" 1102 (I (256) 1101), e P "__init__" 1111 (.ref 697), e P "row" 1118 (.ref 704), e P "__static_attributes__" 1120 (.ref 705)] 6) (n t0 z z) z) (n t0 z z))) (n (fr (me 9 3) "Let.rebuilt") (n t0 (n (fr (me 30 1) "Comp.row") (n f0 z z) z) (n (co "PAs" "PAs" 1328 314 0 0 0 0 875 false 876 .none .none .none .none 1331) z z)) (n (Obj.mk (.type "type") none (.cls { name := O "Clause", bases := [.ref 437], mro := [.ref 493, .ref 437, .type "object"], ns := 492, qualname := O "Clause" }) (List.toArray [some (.ref 469), none, some (S "Clause" 813), some (S "Clause" 821), some (.builtin "object.__new__"), some (.bool true)])) (n (fr (me 36 0) "PWild.__init__") (n f0 z z) z) (n (co "siblings" "Constructors.siblings" 1487 378 2 0 0 3 1000 true 1001 .none (.ref 1002) (.ref 1003) (.ref 1004) 1492) z z))))) (n (fr (me 4 1) "Var.groups") (n f0 (n (fr (me 7 3) "App.rebuilt") (n (co "groups" "Case.groups" 555 98 1 0 0 3 282 true 283 .none .none .none (.ref 284) 558) (n (co "row" "Binds.row" 904 208 1 0 0 3 536 true 537 .none (.ref 538) (.ref 539) (.ref 540) 908) (n f0 z z) z) (n (fm 796 793 "lazycore.pattern_nodes" 1124) (n (fr (st 89) "_law_statement") z z) z)) (n (fq (st 20) (.type "function") "rows_of" 3 .none (S "lazycore.nodes" 726) (.ref 412)) (n (co "__init__" "Say.__init__" 1070 250 3 0 0 3 664 true 665 .none (.ref 666) (.ref 667) (.ref 668) 1076) (n t0 z z) z) (n (fs (.type "builtin_function_or_method") [.builtin "object.__init_subclass__", .ref 923]) z z))) (n (co "__init__" "Let.__init__" 457 70 4 0 0 3 216 true 217 .none (.ref 218) (.ref 219) (.ref 220) 464) (n (fs (.type "builtin_function_or_method") [.builtin "type.__prepare__", .type "type"]) (n t0 (n (fq (st 70) (.type "function") "loop_body" 3 .none (S "lazycore.desugar_statements" 1625) (.ref 1116)) z z) z) (n f0 z z)) (n t0 (n (di [e P "__module__" 1133 (S "lazycore.pattern_nodes" 1124), e P "__firstlineno__" 1137 (I (265) 1136), e P "__init__" 1146 (.ref 724), e P "row" 1153 (.ref 731), e P "__static_attributes__" 1155 (.ref 732), e P "__doc__" 1156 (.none)] 2) (n (fq (st 79) (.type "function") "_law_number" 3 .none (S "law_np0253_01" 1836) (.ref 1244)) z z) z) (n t0 z z)))) (n (fs (.type "super") [.ref 122, .ref 122, .ref 122]) (n f0 (n (ts 606 ["self", "name", "args"]) (n (fs (.type "super") [.ref 572, .ref 572, .ref 572]) (n (ts 1609 ["pairs", "body", "pair"]) z z) z) (n t0 z z)) (n t0 (n t0 (n (ts 1819 ["self", "base", "told", "number"]) z z) z) (n (fr (st 45) "parts_of") z z))) (n (fm 252 249 "lazycore.core" 229) (n (ts 688 ["args", "op"]) (n t0 (n t0 z z) z) (n (fq (me 41 1) (.type "function") "PAs.row" 3 .none (S "lazycore.pattern_nodes" 1124) (.ref 892)) z z)) (n (co "__init__" "Rhs.__init__" 860 192 4 0 0 3 504 true 505 .none (.ref 506) (.ref 507) (.ref 508) 867) (n (fs (.type "builtin_function_or_method") [.builtin "type.__prepare__", .type "type"]) (n (co "_law_chosen" "_law_chosen" 1908 600 2 0 0 3 1272 true 1273 .none (.ref 1274) (.ref 1275) (.ref 1276) 1918) z z) z) (n t0 z z)))))
noncomputable def b30 (P : Params) : BT := n f0 (n t0 (n (ts 274 ["name"]) (n f0 (n (di [e P "__module__" 539 (S "lazycore.core" 229), e P "__qualname__" 541 (S "Case" 540), e P "__firstlineno__" 543 (I (90) 542), e P "__init__" 554 (.ref 281), e P "groups" 560 (.ref 286), e P "parts" 569 (.ref 293), e P "rebuilt" 578 (.ref 300), e P "__static_attributes__" 583 (.ref 301)] 8) (n (co "Binds" "Binds" 884 200 0 0 0 0 524 false 525 .none .none .none .none 887) (n (co "guarded" "guarded" 1533 393 3 0 0 3 1033 true 1034 .none (.ref 1035) (.ref 1036) (.ref 1037) 1543) z z) z) (n t0 (n t0 z z) z)) (n t0 (n (fs (.type "super") [.ref 653, .ref 653, .ref 653]) (n (fq (me 72 5) (.type "function") "Maker.list_case" 3 .none (S "lazycore.desugar_maker" 1679) (.ref 1165)) z z) z) (n t0 z z))) (n (fs (.type "getset_descriptor") [S "__weakref__" 440, .ref 204, .builtin "ExceptionGroup.__weakref__", .none]) (n t0 (n t0 (n (co "comprehension" "comprehension" 1631 454 2 0 0 3 1097 true 1098 .none (.ref 1099) (.ref 1100) (.ref 1101) 1636) z z) z) (n (fs (.type "builtin_function_or_method") [.builtin "type.__prepare__", .type "type"]) z z)) (n (co "row" "FunBind.row" 799 179 1 0 0 3 457 true 458 .none (.ref 459) (.ref 460) (.ref 461) 803) (n t0 (n (co "_law_pool" "_law_pool" 1838 530 1 0 0 3 1225 true 1226 .none (.ref 1227) (.ref 1228) (.ref 1229) 1845) z z) z) (n (di [e P "__module__" 1458 (S "lazycore.pattern_forms" 1427), e P "__qualname__" 1460 (S "Constructors" 1459), e P "__firstlineno__" 1462 (I (367) 1461), e P "__init__" 1470 (.ref 985), e P "arity" 1478 (.ref 992), e P "is_newtype" 1486 (.ref 999), e P "siblings" 1494 (.ref 1006), e P "__static_attributes__" 1496 (.ref 1007)] 8) z z)))) (n (fr (me 6 2) "Lit.parts") (n t0 (n (di [e P "__module__" 539 (S "lazycore.core" 229), e P "__firstlineno__" 543 (I (90) 542), e P "__init__" 554 (.ref 281), e P "groups" 560 (.ref 286), e P "parts" 569 (.ref 293), e P "rebuilt" 578 (.ref 300), e P "__static_attributes__" 583 (.ref 301), e P "__dict__" 585 (.ref 304), e P "__weakref__" 587 (.ref 305), e P "__doc__" 588 (.none)] 4) (n (ts 933 ["self", "name", "place"]) (n (fq (st 60) (.type "function") "bind_pairs" 3 .none (S "lazycore.desugar_binds" 1504) (.ref 1069)) z z) z) (n (di [e P "__module__" 1232 (S "lazycore.pattern_nodes" 1124), e P "__firstlineno__" 1236 (I (289) 1235), e P "__init__" 1246 (.ref 805), e P "row" 1253 (.ref 812), e P "__static_attributes__" 1256 (.ref 813), e P "__doc__" 1257 (.none)] 2) (n (fr (st 92) "law") z z) z)) (n (ts 764 ["self"]) (n t0 (n f0 z z) z) (n f0 z z))) (n (co "rebuilt" "Let.rebuilt" 479 82 3 0 0 3 233 true 234 .none (.ref 235) (.ref 236) (.ref 237) 485) (n (fr (me 14 1) "Prim.groups") (n (co "row" "Comp.row" 1010 237 1 0 0 3 617 true 618 .none (.ref 619) (.ref 620) (.ref 621) 1014) (n (ts 1709 ["self", "node"]) z z) z) (n (fm 877 874 "lazycore.pattern_nodes" 1124) z z)) (n (fs (.type "super") [.ref 493, .ref 493, .ref 493]) (n (co "__init__" "PWild.__init__" 1171 275 2 0 0 3 745 true 746 .none (.ref 747) (.ref 748) (.ref 749) 1176) (n (ts 1896 ["known", "more", "found"]) z z) z) (n (fq (me 48 3) (.type "function") "Constructors.siblings" 3 .none (S "lazycore.pattern_forms" 1427) (.ref 1005)) z z))))) (n (co "groups" "Var.groups" 251 17 1 0 0 3 57 true 58 .none (.ref 59) (.ref 60) (.ref 61) 255) (n (ts 299 ["self", "kind", "value"]) (n (co "rebuilt" "App.rebuilt" 372 52 3 0 0 3 153 true 154 .none (.ref 155) (.ref 156) (.ref 157) 378) (n (fq (me 11 1) (.type "function") "Case.groups" 3 .none (S "lazycore.core" 229) (.ref 285)) (n (fq (me 25 1) (.type "function") "Binds.row" 3 .none (S "lazycore.nodes" 726) (.ref 541)) (n (ts 1565 ["maker", "pattern", "name", "value", "other", "row"]) z z) z) (n (tu [.none]) (n (co "_law_statement" "_law_statement" 1959 658 1 0 0 3 1305 true 1306 .none (.ref 1307) (.ref 1308) (.ref 1309) 1965) z z) z)) (n t0 (n (fq (me 32 0) (.type "function") "Say.__init__" 3 (.ref 663) (S "lazycore.nodes" 726) (.ref 669)) (n f0 z z) z) (n (tu [.ref 437]) z z))) (n (fq (me 9 0) (.type "function") "Let.__init__" 3 .none (S "lazycore.core" 229) (.ref 221)) (n (di [e P "__module__" 652 (S "lazycore.core" 229), e P "__qualname__" 654 (S "Prim" 653), e P "__firstlineno__" 656 (I (124) 655), e P "__init__" 665 (.ref 361), e P "groups" 672 (.ref 368), e P "parts" 678 (.ref 373), e P "rebuilt" 687 (.ref 380), e P "__static_attributes__" 690 (.ref 381)] 8) (n (fl [(232, 4, 615), (237, 4, 622)]) (n t0 z z) z) (n (ts 1317 ["self"]) z z)) (n f0 (n (Obj.mk (.type "type") none (.cls { name := O "PVar", bases := [.ref 437], mro := [.ref 734, .ref 437, .type "object"], ns := 733, qualname := O "PVar" }) (List.toArray [some (.ref 710), none, some (S "PVar" 1126), some (S "PVar" 1134), some (.builtin "object.__new__"), some (.bool true)])) (n t0 z z) z) (n (fr (me 48 1) "Constructors.arity") z z)))) (n (fs (.type "builtin_function_or_method") [.builtin "object.__init_subclass__", .ref 122]) (n (ts 422 ["self"]) (n t0 (n (fs (.type "builtin_function_or_method") [.builtin "object.__init_subclass__", .ref 572]) (n t0 z z) z) (n (fr (me 39 0) "PTuple.__init__") z z)) (n (fl [(173, 4, 455), (179, 4, 462)]) (n (fr (me 33 1) "LetSay.row") (n t0 z z) z) (n (co "parts_of" "parts_of" 1429 340 1 0 0 3 953 true 954 .none (.ref 955) (.ref 956) (.ref 957) 1433) z z))) (n t0 (n (di [e P "__module__" 652 (S "lazycore.core" 229), e P "__firstlineno__" 656 (I (124) 655), e P "__init__" 665 (.ref 361), e P "groups" 672 (.ref 368), e P "parts" 678 (.ref 373), e P "rebuilt" 687 (.ref 380), e P "__static_attributes__" 690 (.ref 381), e P "__dict__" 692 (.ref 384), e P "__weakref__" 694 (.ref 385), e P "__doc__" 695 (.none)] 4) (n f0 (n (fr (me 72 3) "Maker.match") z z) z) (n (ts 1355 ["name", "pattern"]) z z)) (n (fq (me 24 0) (.type "function") "Rhs.__init__" 3 (.ref 503) (S "lazycore.nodes" 726) (.ref 509)) (n (di [e P "__module__" 1197 (S "lazycore.pattern_nodes" 1124), e P "__qualname__" 1199 (S "PLit" 1198), e P "__firstlineno__" 1201 (I (280) 1200), e P "__init__" 1211 (.ref 778), e P "row" 1218 (.ref 785), e P "__static_attributes__" 1221 (.ref 786)] 6) (n (fq (st 84) (.type "function") "_law_chosen" 3 .none (S "law_np0253_01" 1836) (.ref 1277)) z z) z) (n f0 z z)))))
noncomputable def T (P : Params) (d f g : Obj) : BT := n (boot_o_0 P) (n (boot_o_1 P) (n d (n (boot_o_7 P) (b15 P) (b23 P)) (n t0 (b19 P) (b27 P))) (n (boot_o_5 P) (n (boot_o_9 P) (b17 P) (b25 P)) (n (co "<module>" "<module>" 182 1 0 0 0 0 11 false 12 .none .none .none .none 185) (b21 P g) (b29 P)))) (n (boot_o_2 P) (n (boot_o_4 P) (n (boot_o_8 P) (b16 P) (b24 P)) (n f (b20 P) (b28 P))) (n (boot_o_6 P) (n (boot_o_10 P) (b18 P) (b26 P)) (n (fm 13 3 "__main__" 164) (b22 P) (b30 P))))
noncomputable def e0 (P : Params) : DictEntry := e P "__name__" 165 (S "lazycore.core" 229)
noncomputable def e1 (P : Params) : DictEntry := e P "__doc__" 166 (.none)
noncomputable def e2 (P : Params) : DictEntry := e P "__package__" 167 (.none)
noncomputable def e3 (P : Params) : DictEntry := e P "__loader__" 168 (.builtin "__main__.__loader__#opaque")
noncomputable def e4 (P : Params) : DictEntry := e P "__spec__" 169 (.none)
noncomputable def e5 (P : Params) : DictEntry := e P "__annotations__" 170 (.ref 6)
noncomputable def e6 (P : Params) : DictEntry := e P "__builtins__" 171 (.ref 4)
noncomputable def e7 (P : Params) : DictEntry := e P "__file__" 173 (S "/claim/cut.py" 172)
noncomputable def e8 (P : Params) : DictEntry := e P "__cached__" 174 (.none)
noncomputable def e9 (P : Params) : DictEntry := e P "_wall" 193 (.ref 21)
noncomputable def e10 (P : Params) : DictEntry := e P "Row" 228 (.ref 38)
noncomputable def e11 (P : Params) : DictEntry := e P "Var" 282 (.ref 80)
noncomputable def e12 (P : Params) : DictEntry := e P "Var_core" 283 (.ref 80)
noncomputable def e13 (P : Params) : DictEntry := e P "Lit" 337 (.ref 122)
noncomputable def e14 (P : Params) : DictEntry := e P "App" 390 (.ref 162)
noncomputable def e15 (P : Params) : DictEntry := e P "Lam" 444 (.ref 204)
noncomputable def e16 (P : Params) : DictEntry := e P "Let" 498 (.ref 242)
noncomputable def e17 (P : Params) : DictEntry := e P "Alt" 531 (.ref 263)
noncomputable def e18 (P : Params) : DictEntry := e P "Case" 590 (.ref 303)
noncomputable def d11 (P : Params) : Obj := di [e0 P, e1 P, e2 P, e3 P, e4 P, e5 P, e6 P, e7 P, e8 P, e9 P, e10 P, e11 P, e12 P, e13 P, e14 P, e15 P, e16 P, e17 P, e18 P] 19
noncomputable def e19 (P : Params) : DictEntry := e P "__name__" 165 (S "lazycore.nodes" 726)
noncomputable def e20 (P : Params) : DictEntry := e P "Var" 282 (.ref 572)
noncomputable def e21 (P : Params) : DictEntry := e P "Con" 643 (.ref 343)
noncomputable def e22 (P : Params) : DictEntry := e P "Con_core" 644 (.ref 343)
noncomputable def e23 (P : Params) : DictEntry := e P "Prim" 697 (.ref 383)
noncomputable def e24 (P : Params) : DictEntry := e P "scoped" 711 (.ref 394)
noncomputable def e25 (P : Params) : DictEntry := e P "free_names" 725 (.ref 401)
noncomputable def e26 (P : Params) : DictEntry := e P "row_of" 734 (.ref 408)
noncomputable def e27 (P : Params) : DictEntry := e P "rows_of" 740 (.ref 413)
noncomputable def e28 (P : Params) : DictEntry := e P "Node" 776 (.ref 437)
noncomputable def e29 (P : Params) : DictEntry := e P "FunBind" 812 (.ref 466)
noncomputable def e30 (P : Params) : DictEntry := e P "Clause" 847 (.ref 493)
noncomputable def e31 (P : Params) : DictEntry := e P "Rhs" 881 (.ref 518)
noncomputable def e32 (P : Params) : DictEntry := e P "Binds" 917 (.ref 545)
noncomputable def e33 (P : Params) : DictEntry := e P "Var_nodes" 952 (.ref 572)
noncomputable def d27 (P : Params) : Obj := di [e19 P, e1 P, e2 P, e3 P, e4 P, e5 P, e6 P, e7 P, e8 P, e9 P, e10 P, e20 P, e12 P, e13 P, e14 P, e15 P, e16 P, e17 P, e18 P, e21 P, e22 P, e23 P, e24 P, e25 P, e26 P, e27 P, e28 P, e29 P, e30 P, e31 P, e32 P, e33 P] 32
noncomputable def e34 (P : Params) : DictEntry := e P "__name__" 165 (S "lazycore.pattern_nodes" 1124)
noncomputable def e35 (P : Params) : DictEntry := e P "Con" 643 (.ref 599)
noncomputable def e36 (P : Params) : DictEntry := e P "Con_nodes" 987 (.ref 599)
noncomputable def e37 (P : Params) : DictEntry := e P "Comp" 1022 (.ref 626)
noncomputable def e38 (P : Params) : DictEntry := e P "Generate" 1057 (.ref 653)
noncomputable def e39 (P : Params) : DictEntry := e P "Say" 1090 (.ref 680)
noncomputable def e40 (P : Params) : DictEntry := e P "LetSay" 1123 (.ref 707)
noncomputable def e41 (P : Params) : DictEntry := e P "PVar" 1158 (.ref 734)
noncomputable def e42 (P : Params) : DictEntry := e P "PWild" 1189 (.ref 761)
noncomputable def e43 (P : Params) : DictEntry := e P "PLit" 1224 (.ref 788)
noncomputable def d37 (P : Params) : Obj := di [e34 P, e1 P, e2 P, e3 P, e4 P, e5 P, e6 P, e7 P, e8 P, e9 P, e10 P, e20 P, e12 P, e13 P, e14 P, e15 P, e16 P, e17 P, e18 P, e35 P, e22 P, e23 P, e24 P, e25 P, e26 P, e27 P, e28 P, e29 P, e30 P, e31 P, e32 P, e33 P, e36 P, e37 P, e38 P, e39 P, e40 P, e41 P, e42 P, e43 P] 40
noncomputable def e44 (P : Params) : DictEntry := e P "__name__" 165 (S "lazycore.desugar_binds" 1504)
noncomputable def e45 (P : Params) : DictEntry := e P "PCon" 1259 (.ref 815)
noncomputable def e46 (P : Params) : DictEntry := e P "PTuple" 1292 (.ref 842)
noncomputable def e47 (P : Params) : DictEntry := e P "PList" 1325 (.ref 869)
noncomputable def e48 (P : Params) : DictEntry := e P "PAs" 1360 (.ref 896)
noncomputable def e49 (P : Params) : DictEntry := e P "PLazy" 1393 (.ref 923)
noncomputable def e50 (P : Params) : DictEntry := e P "PBang" 1426 (.ref 950)
noncomputable def e51 (P : Params) : DictEntry := e P "parts_of" 1435 (.ref 959)
noncomputable def e52 (P : Params) : DictEntry := e P "variables_of" 1444 (.ref 966)
noncomputable def e53 (P : Params) : DictEntry := e P "renamed_pattern" 1450 (.ref 971)
noncomputable def e54 (P : Params) : DictEntry := e P "Constructors" 1503 (.ref 1009)
noncomputable def e55 (P : Params) : DictEntry := e P "TRUE" 1507 (S "Prelude.True" 1506)
noncomputable def e56 (P : Params) : DictEntry := e P "OTHERWISE" 1509 (S "Prelude.otherwise" 1508)
noncomputable def e57 (P : Params) : DictEntry := e P "choice" 1519 (.ref 1020)
noncomputable def e58 (P : Params) : DictEntry := e P "is_always" 1526 (.ref 1027)
noncomputable def e59 (P : Params) : DictEntry := e P "rhs_falls" 1532 (.ref 1032)
noncomputable def e60 (P : Params) : DictEntry := e P "guarded" 1545 (.ref 1039)
noncomputable def e61 (P : Params) : DictEntry := e P "rhs_code" 1555 (.ref 1046)
noncomputable def e62 (P : Params) : DictEntry := e P "function_core" 1561 (.ref 1051)
noncomputable def e63 (P : Params) : DictEntry := e P "taken" 1575 (.ref 1058)
noncomputable def e64 (P : Params) : DictEntry := e P "pattern_pairs" 1581 (.ref 1063)
noncomputable def e65 (P : Params) : DictEntry := e P "bind_pairs" 1589 (.ref 1070)
noncomputable def e66 (P : Params) : DictEntry := e P "group_pairs" 1599 (.ref 1077)
noncomputable def e67 (P : Params) : DictEntry := e P "is_round" 1605 (.ref 1082)
noncomputable def e68 (P : Params) : DictEntry := e P "let_pairs" 1614 (.ref 1089)
noncomputable def d63 (P : Params) : Obj := di [e44 P, e1 P, e2 P, e3 P, e4 P, e5 P, e6 P, e7 P, e8 P, e9 P, e10 P, e20 P, e12 P, e13 P, e14 P, e15 P, e16 P, e17 P, e18 P, e35 P, e22 P, e23 P, e24 P, e25 P, e26 P, e27 P, e28 P, e29 P, e30 P, e31 P, e32 P, e33 P, e36 P, e37 P, e38 P, e39 P, e40 P, e41 P, e42 P, e43 P, e45 P, e46 P, e47 P, e48 P, e49 P, e50 P, e51 P, e52 P, e53 P, e54 P, e55 P, e56 P, e57 P, e58 P, e59 P, e60 P, e61 P, e62 P, e63 P, e64 P, e65 P, e66 P, e67 P, e68 P] 64
noncomputable def e69 (P : Params) : DictEntry := e P "__name__" 165 (S "law_np0253_01" 1836)
noncomputable def e70 (P : Params) : DictEntry := e P "bound" 1624 (.ref 1096)
noncomputable def e71 (P : Params) : DictEntry := e P "NIL" 1628 (S "[]" 1627)
noncomputable def e72 (P : Params) : DictEntry := e P "CONS" 1630 (S ":" 1629)
noncomputable def e73 (P : Params) : DictEntry := e P "comprehension" 1638 (.ref 1103)
noncomputable def e74 (P : Params) : DictEntry := e P "told_items" 1655 (.ref 1110)
noncomputable def e75 (P : Params) : DictEntry := e P "loop_body" 1678 (.ref 1117)
noncomputable def e76 (P : Params) : DictEntry := e P "Maker" 1776 (.ref 1176)
noncomputable def e77 (P : Params) : DictEntry := e P "base_of" 1786 (.ref 1187)
noncomputable def e78 (P : Params) : DictEntry := e P "Fresh" 1835 (.ref 1220)
noncomputable def e79 (P : Params) : DictEntry := e P "_law_pool" 1847 (.ref 1231)
noncomputable def e80 (P : Params) : DictEntry := e P "_law_take" 1856 (.ref 1238)
noncomputable def e81 (P : Params) : DictEntry := e P "_law_number" 1866 (.ref 1245)
noncomputable def e82 (P : Params) : DictEntry := e P "_law_core" 1877 (.ref 1252)
noncomputable def e83 (P : Params) : DictEntry := e P "_law_matched" 1892 (.ref 1259)
noncomputable def e84 (P : Params) : DictEntry := e P "_law_with" 1901 (.ref 1266)
noncomputable def e85 (P : Params) : DictEntry := e P "_law_value" 1907 (.ref 1271)
noncomputable def e86 (P : Params) : DictEntry := e P "_law_chosen" 1920 (.ref 1278)
noncomputable def e87 (P : Params) : DictEntry := e P "_law_items" 1929 (.ref 1285)
noncomputable def e88 (P : Params) : DictEntry := e P "_law_statements" 1935 (.ref 1290)
noncomputable def e89 (P : Params) : DictEntry := e P "_law_draw" 1951 (.ref 1297)
noncomputable def e90 (P : Params) : DictEntry := e P "_law_pattern" 1958 (.ref 1304)
noncomputable def e91 (P : Params) : DictEntry := e P "_law_statement" 1967 (.ref 1311)
noncomputable def e92 (P : Params) : DictEntry := e P "_law_taken" 1975 (.ref 1318)
noncomputable def e93 (P : Params) : DictEntry := e P "_law_loops" 1981 (.ref 1323)
noncomputable def e94 (P : Params) : DictEntry := e P "law" 1987 (.ref 1328)
noncomputable def d92 (P : Params) : Obj := di [e69 P, e1 P, e2 P, e3 P, e4 P, e5 P, e6 P, e7 P, e8 P, e9 P, e10 P, e20 P, e12 P, e13 P, e14 P, e15 P, e16 P, e17 P, e18 P, e35 P, e22 P, e23 P, e24 P, e25 P, e26 P, e27 P, e28 P, e29 P, e30 P, e31 P, e32 P, e33 P, e36 P, e37 P, e38 P, e39 P, e40 P, e41 P, e42 P, e43 P, e45 P, e46 P, e47 P, e48 P, e49 P, e50 P, e51 P, e52 P, e53 P, e54 P, e55 P, e56 P, e57 P, e58 P, e59 P, e60 P, e61 P, e62 P, e63 P, e64 P, e65 P, e66 P, e67 P, e68 P, e70 P, e71 P, e72 P, e73 P, e74 P, e75 P, e76 P, e77 P, e78 P, e79 P, e80 P, e81 P, e82 P, e83 P, e84 P, e85 P, e86 P, e87 P, e88 P, e89 P, e90 P, e91 P, e92 P, e93 P, e94 P] 89
noncomputable def f0x : Obj := f0
noncomputable def f9x : Obj := fl [(1, 0, 20), (5, 0, 27), (12, 0, 48), (26, 0, 90), (40, 0, 132), (54, 0, 172), (68, 0, 214), (84, 0, 252), (90, 0, 273)]
noncomputable def f21x : Obj := fl [(1, 0, 20), (5, 0, 27), (12, 0, 48), (26, 0, 90), (40, 0, 132), (54, 0, 172), (68, 0, 214), (84, 0, 252), (90, 0, 273), (109, 0, 313), (124, 0, 353), (139, 0, 393), (147, 0, 400), (160, 0, 407), (162, 0, 412), (164, 0, 419), (171, 0, 447), (181, 0, 474), (190, 0, 501), (200, 0, 526), (210, 0, 553)]
noncomputable def f29x : Obj := fl [(1, 0, 20), (5, 0, 27), (12, 0, 48), (26, 0, 90), (40, 0, 132), (54, 0, 172), (68, 0, 214), (84, 0, 252), (90, 0, 273), (109, 0, 313), (124, 0, 353), (139, 0, 393), (147, 0, 400), (160, 0, 407), (162, 0, 412), (164, 0, 419), (171, 0, 447), (181, 0, 474), (190, 0, 501), (200, 0, 526), (210, 0, 553), (220, 0, 580), (230, 0, 607), (239, 0, 634), (248, 0, 661), (256, 0, 688), (265, 0, 715), (273, 0, 742), (280, 0, 769)]
noncomputable def f51x : Obj := fl [(1, 0, 20), (5, 0, 27), (12, 0, 48), (26, 0, 90), (40, 0, 132), (54, 0, 172), (68, 0, 214), (84, 0, 252), (90, 0, 273), (109, 0, 313), (124, 0, 353), (139, 0, 393), (147, 0, 400), (160, 0, 407), (162, 0, 412), (164, 0, 419), (171, 0, 447), (181, 0, 474), (190, 0, 501), (200, 0, 526), (210, 0, 553), (220, 0, 580), (230, 0, 607), (239, 0, 634), (248, 0, 661), (256, 0, 688), (265, 0, 715), (273, 0, 742), (280, 0, 769), (289, 0, 796), (298, 0, 823), (306, 0, 850), (314, 0, 877), (323, 0, 904), (331, 0, 931), (340, 0, 958), (346, 0, 965), (351, 0, 970), (367, 0, 977), (383, 0, 1019), (385, 0, 1026), (391, 0, 1031), (393, 0, 1038), (399, 0, 1045), (401, 0, 1050), (411, 0, 1057), (417, 0, 1062), (426, 0, 1069), (430, 0, 1076), (435, 0, 1081), (441, 0, 1088)]
noncomputable def f74x : Obj := fl [(1, 0, 20), (5, 0, 27), (12, 0, 48), (26, 0, 90), (40, 0, 132), (54, 0, 172), (68, 0, 214), (84, 0, 252), (90, 0, 273), (109, 0, 313), (124, 0, 353), (139, 0, 393), (147, 0, 400), (160, 0, 407), (162, 0, 412), (164, 0, 419), (171, 0, 447), (181, 0, 474), (190, 0, 501), (200, 0, 526), (210, 0, 553), (220, 0, 580), (230, 0, 607), (239, 0, 634), (248, 0, 661), (256, 0, 688), (265, 0, 715), (273, 0, 742), (280, 0, 769), (289, 0, 796), (298, 0, 823), (306, 0, 850), (314, 0, 877), (323, 0, 904), (331, 0, 931), (340, 0, 958), (346, 0, 965), (351, 0, 970), (367, 0, 977), (383, 0, 1019), (385, 0, 1026), (391, 0, 1031), (393, 0, 1038), (399, 0, 1045), (401, 0, 1050), (411, 0, 1057), (417, 0, 1062), (426, 0, 1069), (430, 0, 1076), (435, 0, 1081), (441, 0, 1088), (447, 0, 1095), (454, 0, 1102), (456, 0, 1109), (469, 0, 1116), (476, 0, 1123), (508, 0, 1186), (511, 0, 1193), (530, 0, 1230), (538, 0, 1237), (545, 0, 1244), (550, 0, 1251), (560, 0, 1258), (572, 0, 1265), (576, 0, 1270), (600, 0, 1277), (613, 0, 1284), (619, 0, 1289), (632, 0, 1296), (650, 0, 1303), (658, 0, 1310), (667, 0, 1317), (675, 0, 1322), (690, 0, 1327)]
noncomputable def g5 : Obj := Obj.mk (.type "type") none (.cls { name := O "Node", bases := [.type "object"], mro := [.ref 437, .type "object"], ns := 436, qualname := O "Node", subclasses := [.ref 466, .ref 493, .ref 518, .ref 545, .ref 572] }) (List.toArray [none, none, some (S "Node" 741), some (S "Node" 749), some (.builtin "object.__new__"), some (.bool true)])
noncomputable def g13 : Obj := Obj.mk (.type "type") none (.cls { name := O "Node", bases := [.type "object"], mro := [.ref 437, .type "object"], ns := 436, qualname := O "Node", subclasses := [.ref 466, .ref 493, .ref 518, .ref 545, .ref 572, .ref 599, .ref 626, .ref 653, .ref 680, .ref 707, .ref 734, .ref 761, .ref 788] }) (List.toArray [none, none, some (S "Node" 741), some (S "Node" 749), some (.builtin "object.__new__"), some (.bool true)])
noncomputable def g19 : Obj := Obj.mk (.type "type") none (.cls { name := O "Node", bases := [.type "object"], mro := [.ref 437, .type "object"], ns := 436, qualname := O "Node", subclasses := [.ref 466, .ref 493, .ref 518, .ref 545, .ref 572, .ref 599, .ref 626, .ref 653, .ref 680, .ref 707, .ref 734, .ref 761, .ref 788, .ref 815, .ref 842, .ref 869, .ref 896, .ref 923, .ref 950] }) (List.toArray [none, none, some (S "Node" 741), some (S "Node" 749), some (.builtin "object.__new__"), some (.bool true)])
noncomputable def dB (P : Params) : Obj := boot_o_3 P
noncomputable def KK (P : Params) : Frag := (nat_lit 2, boot_o_2 P) :: (nat_lit 3, d92 P) :: (nat_lit 15, t0) :: (nat_lit 17, ts 190 ["k"]) :: (nat_lit 18, t0) :: (nat_lit 20, co "_wall" "_wall" 187 1 1 0 0 3 15 true 16 .none (.ref 17) (.ref 18) (.ref 19) 191) :: (nat_lit 21, fq (st 0) (.type "function") "_wall" 3 .none (S "__main__" 164) (.ref 20)) :: (nat_lit 29, t0) :: (nat_lit 31, ts 211 ["self", "patterns", "body", "can_fail"]) :: (nat_lit 32, t0) :: (nat_lit 34, co "__init__" "Row.__init__" 208 7 4 0 0 3 29 true 30 .none (.ref 31) (.ref 32) (.ref 33) 215) :: (nat_lit 35, fq (me 2 0) (.type "function") "Row.__init__" 3 .none (S "lazycore.clauses" 194) (.ref 34)) :: (nat_lit 36, ts 218 ["body", "can_fail", "patterns"]) :: (nat_lit 37, di [e P "__module__" 203 (S "lazycore.clauses" 194), e P "__firstlineno__" 207 (I (5) 206), e P "__init__" 217 (.ref 35), e P "__static_attributes__" 221 (.ref 36), e P "__dict__" 223 (.ref 39), e P "__weakref__" 225 (.ref 40), e P "__doc__" 226 (.none)] 4) :: (nat_lit 38, Obj.mk (.type "type") none (.cls { name := O "Row", bases := [.type "object"], mro := [.ref 38, .type "object"], ns := 37, qualname := O "Row" }) (List.toArray [none, none, some (S "Row" 196), some (S "Row" 204), some (.builtin "object.__new__"), some (.bool true)])) :: (nat_lit 39, fs (.type "getset_descriptor") [S "__dict__" 222, .ref 38, .builtin "function.__dict__", .builtin "function.__dict__#set"]) :: (nat_lit 40, fs (.type "getset_descriptor") [S "__weakref__" 224, .ref 38, .builtin "ExceptionGroup.__weakref__", .none]) :: (nat_lit 50, t0) :: (nat_lit 52, ts 246 ["self", "name"]) :: (nat_lit 53, t0) :: (nat_lit 55, co "__init__" "Var.__init__" 243 14 2 0 0 3 50 true 51 .none (.ref 52) (.ref 53) (.ref 54) 248) :: (nat_lit 56, fq (me 4 0) (.type "function") "Var.__init__" 3 .none (S "lazycore.core" 229) (.ref 55)) :: (nat_lit 57, t0) :: (nat_lit 59, ts 254 ["self"]) :: (nat_lit 60, t0) :: (nat_lit 62, co "groups" "Var.groups" 251 17 1 0 0 3 57 true 58 .none (.ref 59) (.ref 60) (.ref 61) 255) :: (nat_lit 63, fq (me 4 1) (.type "function") "Var.groups" 3 .none (S "lazycore.core" 229) (.ref 62)) :: (nat_lit 64, t0) :: (nat_lit 66, ts 261 ["self"]) :: (nat_lit 67, t0) :: (nat_lit 69, co "parts" "Var.parts" 258 20 1 0 0 3 64 true 65 .none (.ref 66) (.ref 67) (.ref 68) 262) :: (nat_lit 70, fq (me 4 2) (.type "function") "Var.parts" 3 .none (S "lazycore.core" 229) (.ref 69)) :: (nat_lit 71, t0) :: (nat_lit 73, ts 268 ["self", "groups", "parts"]) :: (nat_lit 74, t0) :: (nat_lit 76, co "rebuilt" "Var.rebuilt" 265 23 3 0 0 3 71 true 72 .none (.ref 73) (.ref 74) (.ref 75) 271) :: (nat_lit 77, fq (me 4 3) (.type "function") "Var.rebuilt" 3 .none (S "lazycore.core" 229) (.ref 76)) :: (nat_lit 78, ts 274 ["name"]) :: (nat_lit 79, di [e P "__module__" 238 (S "lazycore.core" 229), e P "__firstlineno__" 242 (I (12) 241), e P "__init__" 250 (.ref 56), e P "groups" 257 (.ref 63), e P "parts" 264 (.ref 70), e P "rebuilt" 273 (.ref 77), e P "__static_attributes__" 275 (.ref 78), e P "__dict__" 277 (.ref 81), e P "__weakref__" 279 (.ref 82), e P "__doc__" 280 (.none)] 4) :: (nat_lit 80, Obj.mk (.type "type") none (.cls { name := O "Var", bases := [.type "object"], mro := [.ref 80, .type "object"], ns := 79, qualname := O "Var" }) (List.toArray [none, none, some (S "Var" 231), some (S "Var" 239), some (.builtin "object.__new__"), some (.bool true)])) :: (nat_lit 81, fs (.type "getset_descriptor") [S "__dict__" 276, .ref 80, .builtin "function.__dict__", .builtin "function.__dict__#set"]) :: (nat_lit 82, fs (.type "getset_descriptor") [S "__weakref__" 278, .ref 80, .builtin "ExceptionGroup.__weakref__", .none]) :: (nat_lit 92, t0) :: (nat_lit 94, ts 299 ["self", "kind", "value"]) :: (nat_lit 95, t0) :: (nat_lit 97, co "__init__" "Lit.__init__" 296 28 3 0 0 3 92 true 93 .none (.ref 94) (.ref 95) (.ref 96) 302) :: (nat_lit 98, fq (me 6 0) (.type "function") "Lit.__init__" 3 .none (S "lazycore.core" 229) (.ref 97)) :: (nat_lit 99, t0) :: (nat_lit 101, ts 308 ["self"]) :: (nat_lit 102, t0) :: (nat_lit 104, co "groups" "Lit.groups" 305 32 1 0 0 3 99 true 100 .none (.ref 101) (.ref 102) (.ref 103) 309) :: (nat_lit 105, fq (me 6 1) (.type "function") "Lit.groups" 3 .none (S "lazycore.core" 229) (.ref 104)) :: (nat_lit 106, t0) :: (nat_lit 108, ts 315 ["self"]) :: (nat_lit 109, t0) :: (nat_lit 111, co "parts" "Lit.parts" 312 35 1 0 0 3 106 true 107 .none (.ref 108) (.ref 109) (.ref 110) 316) :: (nat_lit 112, fq (me 6 2) (.type "function") "Lit.parts" 3 .none (S "lazycore.core" 229) (.ref 111)) :: (nat_lit 113, t0) :: (nat_lit 115, ts 322 ["self", "groups", "parts"]) :: (nat_lit 116, t0) :: (nat_lit 118, co "rebuilt" "Lit.rebuilt" 319 38 3 0 0 3 113 true 114 .none (.ref 115) (.ref 116) (.ref 117) 325) :: (nat_lit 119, fq (me 6 3) (.type "function") "Lit.rebuilt" 3 .none (S "lazycore.core" 229) (.ref 118)) :: (nat_lit 120, ts 328 ["kind", "value"]) :: (nat_lit 121, di [e P "__module__" 291 (S "lazycore.core" 229), e P "__firstlineno__" 295 (I (26) 294), e P "__init__" 304 (.ref 98), e P "groups" 311 (.ref 105), e P "parts" 318 (.ref 112), e P "rebuilt" 327 (.ref 119), e P "__static_attributes__" 330 (.ref 120), e P "__dict__" 332 (.ref 123), e P "__weakref__" 334 (.ref 124), e P "__doc__" 335 (.none)] 4) :: (nat_lit 122, Obj.mk (.type "type") none (.cls { name := O "Lit", bases := [.type "object"], mro := [.ref 122, .type "object"], ns := 121, qualname := O "Lit" }) (List.toArray [none, none, some (S "Lit" 284), some (S "Lit" 292), some (.builtin "object.__new__"), some (.bool true)])) :: (nat_lit 123, fs (.type "getset_descriptor") [S "__dict__" 331, .ref 122, .builtin "function.__dict__", .builtin "function.__dict__#set"]) :: (nat_lit 124, fs (.type "getset_descriptor") [S "__weakref__" 333, .ref 122, .builtin "ExceptionGroup.__weakref__", .none]) :: (nat_lit 134, t0) :: (nat_lit 136, ts 353 ["self", "fun", "args"]) :: (nat_lit 137, t0) :: (nat_lit 139, co "__init__" "App.__init__" 350 42 3 0 0 3 134 true 135 .none (.ref 136) (.ref 137) (.ref 138) 356) :: (nat_lit 140, fq (me 7 0) (.type "function") "App.__init__" 3 .none (S "lazycore.core" 229) (.ref 139)) :: (nat_lit 141, t0) :: (nat_lit 143, ts 362 ["self"]) :: (nat_lit 144, t0) :: (nat_lit 146, co "groups" "App.groups" 359 46 1 0 0 3 141 true 142 .none (.ref 143) (.ref 144) (.ref 145) 363) :: (nat_lit 147, fq (me 7 1) (.type "function") "App.groups" 3 .none (S "lazycore.core" 229) (.ref 146)) :: (nat_lit 148, t0) :: (nat_lit 151, co "parts" "App.parts" 366 49 1 0 0 3 148 true 149 .none .none .none (.ref 150) 369) :: (nat_lit 152, fq (me 7 2) (.type "function") "App.parts" 3 .none (S "lazycore.core" 229) (.ref 151)) :: (nat_lit 153, t0) :: (nat_lit 155, ts 375 ["self", "groups", "parts"]) :: (nat_lit 156, t0) :: (nat_lit 158, co "rebuilt" "App.rebuilt" 372 52 3 0 0 3 153 true 154 .none (.ref 155) (.ref 156) (.ref 157) 378) :: (nat_lit 159, fq (me 7 3) (.type "function") "App.rebuilt" 3 .none (S "lazycore.core" 229) (.ref 158)) :: (nat_lit 160, ts 381 ["args", "fun"]) :: (nat_lit 161, di [e P "__module__" 345 (S "lazycore.core" 229), e P "__firstlineno__" 349 (I (40) 348), e P "__init__" 358 (.ref 140), e P "groups" 365 (.ref 147), e P "parts" 371 (.ref 152), e P "rebuilt" 380 (.ref 159), e P "__static_attributes__" 383 (.ref 160), e P "__dict__" 385 (.ref 163), e P "__weakref__" 387 (.ref 164), e P "__doc__" 388 (.none)] 4) :: (nat_lit 162, Obj.mk (.type "type") none (.cls { name := O "App", bases := [.type "object"], mro := [.ref 162, .type "object"], ns := 161, qualname := O "App" }) (List.toArray [none, none, some (S "App" 338), some (S "App" 346), some (.builtin "object.__new__"), some (.bool true)])) :: (nat_lit 163, fs (.type "getset_descriptor") [S "__dict__" 384, .ref 162, .builtin "function.__dict__", .builtin "function.__dict__#set"]) :: (nat_lit 164, fs (.type "getset_descriptor") [S "__weakref__" 386, .ref 162, .builtin "ExceptionGroup.__weakref__", .none]) :: (nat_lit 174, t0) :: (nat_lit 176, ts 406 ["self", "params", "body"]) :: (nat_lit 177, t0) :: (nat_lit 179, co "__init__" "Lam.__init__" 403 56 3 0 0 3 174 true 175 .none (.ref 176) (.ref 177) (.ref 178) 409) :: (nat_lit 180, fq (me 8 0) (.type "function") "Lam.__init__" 3 .none (S "lazycore.core" 229) (.ref 179)) :: (nat_lit 181, t0) :: (nat_lit 183, ts 415 ["self"]) :: (nat_lit 184, t0) :: (nat_lit 186, co "groups" "Lam.groups" 412 60 1 0 0 3 181 true 182 .none (.ref 183) (.ref 184) (.ref 185) 416) :: (nat_lit 187, fq (me 8 1) (.type "function") "Lam.groups" 3 .none (S "lazycore.core" 229) (.ref 186)) :: (nat_lit 188, t0) :: (nat_lit 190, ts 422 ["self"]) :: (nat_lit 191, t0) :: (nat_lit 193, co "parts" "Lam.parts" 419 63 1 0 0 3 188 true 189 .none (.ref 190) (.ref 191) (.ref 192) 423) :: (nat_lit 194, fq (me 8 2) (.type "function") "Lam.parts" 3 .none (S "lazycore.core" 229) (.ref 193)) :: (nat_lit 195, t0) :: (nat_lit 197, ts 429 ["self", "groups", "parts"]) :: (nat_lit 198, t0) :: (nat_lit 200, co "rebuilt" "Lam.rebuilt" 426 66 3 0 0 3 195 true 196 .none (.ref 197) (.ref 198) (.ref 199) 432) :: (nat_lit 201, fq (me 8 3) (.type "function") "Lam.rebuilt" 3 .none (S "lazycore.core" 229) (.ref 200)) :: (nat_lit 202, ts 435 ["body", "params"]) :: (nat_lit 203, di [e P "__module__" 398 (S "lazycore.core" 229), e P "__firstlineno__" 402 (I (54) 401), e P "__init__" 411 (.ref 180), e P "groups" 418 (.ref 187), e P "parts" 425 (.ref 194), e P "rebuilt" 434 (.ref 201), e P "__static_attributes__" 437 (.ref 202), e P "__dict__" 439 (.ref 205), e P "__weakref__" 441 (.ref 206), e P "__doc__" 442 (.none)] 4) :: (nat_lit 204, Obj.mk (.type "type") none (.cls { name := O "Lam", bases := [.type "object"], mro := [.ref 204, .type "object"], ns := 203, qualname := O "Lam" }) (List.toArray [none, none, some (S "Lam" 391), some (S "Lam" 399), some (.builtin "object.__new__"), some (.bool true)])) :: (nat_lit 205, fs (.type "getset_descriptor") [S "__dict__" 438, .ref 204, .builtin "function.__dict__", .builtin "function.__dict__#set"]) :: (nat_lit 206, fs (.type "getset_descriptor") [S "__weakref__" 440, .ref 204, .builtin "ExceptionGroup.__weakref__", .none]) :: (nat_lit 216, t0) :: (nat_lit 218, ts 460 ["self", "binds", "body", "is_rec"]) :: (nat_lit 219, t0) :: (nat_lit 221, co "__init__" "Let.__init__" 457 70 4 0 0 3 216 true 217 .none (.ref 218) (.ref 219) (.ref 220) 464) :: (nat_lit 222, fq (me 9 0) (.type "function") "Let.__init__" 3 .none (S "lazycore.core" 229) (.ref 221)) :: (nat_lit 223, t0) :: (nat_lit 226, co "groups" "Let.groups" 467 75 1 0 0 3 223 true 224 .none .none .none (.ref 225) 470) :: (nat_lit 227, fq (me 9 1) (.type "function") "Let.groups" 3 .none (S "lazycore.core" 229) (.ref 226)) :: (nat_lit 228, t0) :: (nat_lit 231, co "parts" "Let.parts" 473 78 1 0 0 3 228 true 229 .none .none .none (.ref 230) 476) :: (nat_lit 232, fq (me 9 2) (.type "function") "Let.parts" 3 .none (S "lazycore.core" 229) (.ref 231)) :: (nat_lit 233, t0) :: (nat_lit 235, ts 482 ["self", "groups", "parts"]) :: (nat_lit 236, t0) :: (nat_lit 238, co "rebuilt" "Let.rebuilt" 479 82 3 0 0 3 233 true 234 .none (.ref 235) (.ref 236) (.ref 237) 485) :: (nat_lit 239, fq (me 9 3) (.type "function") "Let.rebuilt" 3 .none (S "lazycore.core" 229) (.ref 238)) :: (nat_lit 240, ts 488 ["binds", "body", "is_rec"]) :: (nat_lit 241, di [e P "__module__" 452 (S "lazycore.core" 229), e P "__firstlineno__" 456 (I (68) 455), e P "__init__" 466 (.ref 222), e P "groups" 472 (.ref 227), e P "parts" 478 (.ref 232), e P "rebuilt" 487 (.ref 239), e P "__static_attributes__" 491 (.ref 240), e P "__dict__" 493 (.ref 243), e P "__weakref__" 495 (.ref 244), e P "__doc__" 496 (.none)] 4) :: (nat_lit 242, Obj.mk (.type "type") none (.cls { name := O "Let", bases := [.type "object"], mro := [.ref 242, .type "object"], ns := 241, qualname := O "Let" }) (List.toArray [none, none, some (S "Let" 445), some (S "Let" 453), some (.builtin "object.__new__"), some (.bool true)])) :: (nat_lit 243, fs (.type "getset_descriptor") [S "__dict__" 492, .ref 242, .builtin "function.__dict__", .builtin "function.__dict__#set"]) :: (nat_lit 244, fs (.type "getset_descriptor") [S "__weakref__" 494, .ref 242, .builtin "ExceptionGroup.__weakref__", .none]) :: (nat_lit 254, t0) :: (nat_lit 256, ts 514 ["self", "key", "names", "body"]) :: (nat_lit 257, t0) :: (nat_lit 259, co "__init__" "Alt.__init__" 511 86 4 0 0 3 254 true 255 .none (.ref 256) (.ref 257) (.ref 258) 518) :: (nat_lit 260, fq (me 10 0) (.type "function") "Alt.__init__" 3 .none (S "lazycore.core" 229) (.ref 259)) :: (nat_lit 261, ts 521 ["body", "key", "names"]) :: (nat_lit 262, di [e P "__module__" 506 (S "lazycore.core" 229), e P "__firstlineno__" 510 (I (84) 509), e P "__init__" 520 (.ref 260), e P "__static_attributes__" 524 (.ref 261), e P "__dict__" 526 (.ref 264), e P "__weakref__" 528 (.ref 265), e P "__doc__" 529 (.none)] 4) :: (nat_lit 263, Obj.mk (.type "type") none (.cls { name := O "Alt", bases := [.type "object"], mro := [.ref 263, .type "object"], ns := 262, qualname := O "Alt" }) (List.toArray [none, none, some (S "Alt" 499), some (S "Alt" 507), some (.builtin "object.__new__"), some (.bool true)])) :: (nat_lit 264, fs (.type "getset_descriptor") [S "__dict__" 525, .ref 263, .builtin "function.__dict__", .builtin "function.__dict__#set"]) :: (nat_lit 265, fs (.type "getset_descriptor") [S "__weakref__" 527, .ref 263, .builtin "ExceptionGroup.__weakref__", .none]) :: (nat_lit 275, t0) :: (nat_lit 277, ts 547 ["self", "value", "name", "alts", "other"]) :: (nat_lit 278, t0) :: (nat_lit 280, co "__init__" "Case.__init__" 544 92 5 0 0 3 275 true 276 .none (.ref 277) (.ref 278) (.ref 279) 552) :: (nat_lit 281, fq (me 11 0) (.type "function") "Case.__init__" 3 .none (S "lazycore.core" 229) (.ref 280)) :: (nat_lit 282, t0) :: (nat_lit 285, co "groups" "Case.groups" 555 98 1 0 0 3 282 true 283 .none .none .none (.ref 284) 558) :: (nat_lit 286, fq (me 11 1) (.type "function") "Case.groups" 3 .none (S "lazycore.core" 229) (.ref 285)) :: (nat_lit 287, t0) :: (nat_lit 289, ts 564 ["self", "found", "at"]) :: (nat_lit 290, t0) :: (nat_lit 292, co "parts" "Case.parts" 561 101 1 0 0 3 287 true 288 .none (.ref 289) (.ref 290) (.ref 291) 567) :: (nat_lit 293, fq (me 11 2) (.type "function") "Case.parts" 3 .none (S "lazycore.core" 229) (.ref 292)) :: (nat_lit 294, t0) :: (nat_lit 296, ts 573 ["self", "groups", "parts"]) :: (nat_lit 297, t0) :: (nat_lit 299, co "rebuilt" "Case.rebuilt" 570 107 3 0 0 3 294 true 295 .none (.ref 296) (.ref 297) (.ref 298) 576) :: (nat_lit 300, fq (me 11 3) (.type "function") "Case.rebuilt" 3 .none (S "lazycore.core" 229) (.ref 299)) :: (nat_lit 301, ts 579 ["alts", "name", "other", "value"]) :: (nat_lit 302, di [e P "__module__" 539 (S "lazycore.core" 229), e P "__firstlineno__" 543 (I (90) 542), e P "__init__" 554 (.ref 281), e P "groups" 560 (.ref 286), e P "parts" 569 (.ref 293), e P "rebuilt" 578 (.ref 300), e P "__static_attributes__" 583 (.ref 301), e P "__dict__" 585 (.ref 304), e P "__weakref__" 587 (.ref 305), e P "__doc__" 588 (.none)] 4) :: (nat_lit 303, Obj.mk (.type "type") none (.cls { name := O "Case", bases := [.type "object"], mro := [.ref 303, .type "object"], ns := 302, qualname := O "Case" }) (List.toArray [none, none, some (S "Case" 532), some (S "Case" 540), some (.builtin "object.__new__"), some (.bool true)])) :: (nat_lit 304, fs (.type "getset_descriptor") [S "__dict__" 584, .ref 303, .builtin "function.__dict__", .builtin "function.__dict__#set"]) :: (nat_lit 305, fs (.type "getset_descriptor") [S "__weakref__" 586, .ref 303, .builtin "ExceptionGroup.__weakref__", .none]) :: (nat_lit 315, t0) :: (nat_lit 317, ts 606 ["self", "name", "args"]) :: (nat_lit 318, t0) :: (nat_lit 320, co "__init__" "Con.__init__" 603 111 3 0 0 3 315 true 316 .none (.ref 317) (.ref 318) (.ref 319) 609) :: (nat_lit 321, fq (me 12 0) (.type "function") "Con.__init__" 3 .none (S "lazycore.core" 229) (.ref 320)) :: (nat_lit 322, t0) :: (nat_lit 324, ts 615 ["self"]) :: (nat_lit 325, t0) :: (nat_lit 327, co "groups" "Con.groups" 612 115 1 0 0 3 322 true 323 .none (.ref 324) (.ref 325) (.ref 326) 616) :: (nat_lit 328, fq (me 12 1) (.type "function") "Con.groups" 3 .none (S "lazycore.core" 229) (.ref 327)) :: (nat_lit 329, t0) :: (nat_lit 332, co "parts" "Con.parts" 619 118 1 0 0 3 329 true 330 .none .none .none (.ref 331) 622) :: (nat_lit 333, fq (me 12 2) (.type "function") "Con.parts" 3 .none (S "lazycore.core" 229) (.ref 332)) :: (nat_lit 334, t0) :: (nat_lit 336, ts 628 ["self", "groups", "parts"]) :: (nat_lit 337, t0) :: (nat_lit 339, co "rebuilt" "Con.rebuilt" 625 121 3 0 0 3 334 true 335 .none (.ref 336) (.ref 337) (.ref 338) 631) :: (nat_lit 340, fq (me 12 3) (.type "function") "Con.rebuilt" 3 .none (S "lazycore.core" 229) (.ref 339)) :: (nat_lit 341, ts 634 ["args", "name"]) :: (nat_lit 342, di [e P "__module__" 598 (S "lazycore.core" 229), e P "__firstlineno__" 602 (I (109) 601), e P "__init__" 611 (.ref 321), e P "groups" 618 (.ref 328), e P "parts" 624 (.ref 333), e P "rebuilt" 633 (.ref 340), e P "__static_attributes__" 636 (.ref 341), e P "__dict__" 638 (.ref 344), e P "__weakref__" 640 (.ref 345), e P "__doc__" 641 (.none)] 4) :: (nat_lit 343, Obj.mk (.type "type") none (.cls { name := O "Con", bases := [.type "object"], mro := [.ref 343, .type "object"], ns := 342, qualname := O "Con" }) (List.toArray [none, none, some (S "Con" 591), some (S "Con" 599), some (.builtin "object.__new__"), some (.bool true)])) :: (nat_lit 344, fs (.type "getset_descriptor") [S "__dict__" 637, .ref 343, .builtin "function.__dict__", .builtin "function.__dict__#set"]) :: (nat_lit 345, fs (.type "getset_descriptor") [S "__weakref__" 639, .ref 343, .builtin "ExceptionGroup.__weakref__", .none]) :: (nat_lit 355, t0) :: (nat_lit 357, ts 660 ["self", "op", "args"]) :: (nat_lit 358, t0) :: (nat_lit 360, co "__init__" "Prim.__init__" 657 126 3 0 0 3 355 true 356 .none (.ref 357) (.ref 358) (.ref 359) 663) :: (nat_lit 361, fq (me 14 0) (.type "function") "Prim.__init__" 3 .none (S "lazycore.core" 229) (.ref 360)) :: (nat_lit 362, t0) :: (nat_lit 364, ts 669 ["self"]) :: (nat_lit 365, t0) :: (nat_lit 367, co "groups" "Prim.groups" 666 130 1 0 0 3 362 true 363 .none (.ref 364) (.ref 365) (.ref 366) 670) :: (nat_lit 368, fq (me 14 1) (.type "function") "Prim.groups" 3 .none (S "lazycore.core" 229) (.ref 367)) :: (nat_lit 369, t0) :: (nat_lit 372, co "parts" "Prim.parts" 673 133 1 0 0 3 369 true 370 .none .none .none (.ref 371) 676) :: (nat_lit 373, fq (me 14 2) (.type "function") "Prim.parts" 3 .none (S "lazycore.core" 229) (.ref 372)) :: (nat_lit 374, t0) :: (nat_lit 376, ts 682 ["self", "groups", "parts"]) :: (nat_lit 377, t0) :: (nat_lit 379, co "rebuilt" "Prim.rebuilt" 679 136 3 0 0 3 374 true 375 .none (.ref 376) (.ref 377) (.ref 378) 685) :: (nat_lit 380, fq (me 14 3) (.type "function") "Prim.rebuilt" 3 .none (S "lazycore.core" 229) (.ref 379)) :: (nat_lit 381, ts 688 ["args", "op"]) :: (nat_lit 382, di [e P "__module__" 652 (S "lazycore.core" 229), e P "__firstlineno__" 656 (I (124) 655), e P "__init__" 665 (.ref 361), e P "groups" 672 (.ref 368), e P "parts" 678 (.ref 373), e P "rebuilt" 687 (.ref 380), e P "__static_attributes__" 690 (.ref 381), e P "__dict__" 692 (.ref 384), e P "__weakref__" 694 (.ref 385), e P "__doc__" 695 (.none)] 4) :: (nat_lit 383, Obj.mk (.type "type") none (.cls { name := O "Prim", bases := [.type "object"], mro := [.ref 383, .type "object"], ns := 382, qualname := O "Prim" }) (List.toArray [none, none, some (S "Prim" 645), some (S "Prim" 653), some (.builtin "object.__new__"), some (.bool true)])) :: (nat_lit 384, fs (.type "getset_descriptor") [S "__dict__" 691, .ref 383, .builtin "function.__dict__", .builtin "function.__dict__#set"]) :: (nat_lit 385, fs (.type "getset_descriptor") [S "__weakref__" 693, .ref 383, .builtin "ExceptionGroup.__weakref__", .none]) :: (nat_lit 388, t0) :: (nat_lit 390, ts 703 ["names", "groups", "scope", "found", "number", "name"]) :: (nat_lit 391, t0) :: (nat_lit 393, co "scoped" "scoped" 700 139 3 0 0 3 388 true 389 .none (.ref 390) (.ref 391) (.ref 392) 709) :: (nat_lit 394, fq (st 16) (.type "function") "scoped" 3 .none (S "lazycore.core_names" 698) (.ref 393)) :: (nat_lit 395, t0) :: (nat_lit 397, ts 715 ["expr", "found", "tasks", "node", "bound", "groups", "part", "scope"]) :: (nat_lit 398, t0) :: (nat_lit 400, co "free_names" "free_names" 712 147 1 0 0 3 395 true 396 .none (.ref 397) (.ref 398) (.ref 399) 723) :: (nat_lit 401, fq (st 17) (.type "function") "free_names" 3 .none (S "lazycore.core_names" 698) (.ref 400)) :: (nat_lit 402, t0) :: (nat_lit 404, ts 731 ["node"]) :: (nat_lit 405, t0) :: (nat_lit 407, co "row_of" "row_of" 728 160 1 0 0 3 402 true 403 .none (.ref 404) (.ref 405) (.ref 406) 732) :: (nat_lit 408, fq (st 19) (.type "function") "row_of" 3 .none (S "lazycore.nodes" 726) (.ref 407)) :: (nat_lit 409, t0) :: (nat_lit 412, co "rows_of" "rows_of" 735 162 1 0 0 3 409 true 410 .none .none .none (.ref 411) 738) :: (nat_lit 413, fq (st 20) (.type "function") "rows_of" 3 .none (S "lazycore.nodes" 726) (.ref 412)) :: (nat_lit 421, t0) :: (nat_lit 423, ts 756 ["self", "place"]) :: (nat_lit 424, t0) :: (nat_lit 426, co "__init__" "Node.__init__" 753 166 2 0 0 3 421 true 422 .none (.ref 423) (.ref 424) (.ref 425) 758) :: (nat_lit 427, fq (me 21 0) (.type "function") "Node.__init__" 3 .none (S "lazycore.nodes" 726) (.ref 426)) :: (nat_lit 428, t0) :: (nat_lit 430, ts 764 ["self"]) :: (nat_lit 431, t0) :: (nat_lit 433, co "row" "Node.row" 761 169 1 0 0 3 428 true 429 .none (.ref 430) (.ref 431) (.ref 432) 765) :: (nat_lit 434, fq (me 21 1) (.type "function") "Node.row" 3 .none (S "lazycore.nodes" 726) (.ref 433)) :: (nat_lit 435, ts 768 ["place"]) :: (nat_lit 436, di [e P "__module__" 748 (S "lazycore.nodes" 726), e P "__firstlineno__" 752 (I (164) 751), e P "__init__" 760 (.ref 427), e P "row" 767 (.ref 434), e P "__static_attributes__" 769 (.ref 435), e P "__dict__" 771 (.ref 438), e P "__weakref__" 773 (.ref 439), e P "__doc__" 774 (.none)] 4) :: (nat_lit 437, g19) :: (nat_lit 438, fs (.type "getset_descriptor") [S "__dict__" 770, .ref 437, .builtin "function.__dict__", .builtin "function.__dict__#set"]) :: (nat_lit 439, fs (.type "getset_descriptor") [S "__weakref__" 772, .ref 437, .builtin "ExceptionGroup.__weakref__", .none]) :: (nat_lit 442, tu [.ref 437]) :: (nat_lit 449, tu [.none]) :: (nat_lit 450, t0) :: (nat_lit 452, ts 792 ["self", "name", "clauses", "place"]) :: (nat_lit 453, t0) :: (nat_lit 455, co "__init__" "FunBind.__init__" 789 173 4 0 0 3 450 true 451 .none (.ref 452) (.ref 453) (.ref 454) 796) :: (nat_lit 456, fq (me 22 0) (.type "function") "FunBind.__init__" 3 (.ref 449) (S "lazycore.nodes" 726) (.ref 455)) :: (nat_lit 457, t0) :: (nat_lit 459, ts 802 ["self"]) :: (nat_lit 460, t0) :: (nat_lit 462, co "row" "FunBind.row" 799 179 1 0 0 3 457 true 458 .none (.ref 459) (.ref 460) (.ref 461) 803) :: (nat_lit 463, fq (me 22 1) (.type "function") "FunBind.row" 3 .none (S "lazycore.nodes" 726) (.ref 462)) :: (nat_lit 464, ts 806 ["clauses", "given", "name"]) :: (nat_lit 465, di [e P "__module__" 784 (S "lazycore.nodes" 726), e P "__firstlineno__" 788 (I (171) 787), e P "__init__" 798 (.ref 456), e P "row" 805 (.ref 463), e P "__static_attributes__" 809 (.ref 464), e P "__doc__" 810 (.none)] 2) :: (nat_lit 466, Obj.mk (.type "type") none (.cls { name := O "FunBind", bases := [.ref 437], mro := [.ref 466, .ref 437, .type "object"], ns := 465, qualname := O "FunBind" }) (List.toArray [some (.ref 442), none, some (S "FunBind" 777), some (S "FunBind" 785), some (.builtin "object.__new__"), some (.bool true)])) :: (nat_lit 469, tu [.ref 437]) :: (nat_lit 476, tu [.none]) :: (nat_lit 477, t0) :: (nat_lit 479, ts 828 ["self", "patterns", "rhs", "place"]) :: (nat_lit 480, t0) :: (nat_lit 482, co "__init__" "Clause.__init__" 825 183 4 0 0 3 477 true 478 .none (.ref 479) (.ref 480) (.ref 481) 832) :: (nat_lit 483, fq (me 23 0) (.type "function") "Clause.__init__" 3 (.ref 476) (S "lazycore.nodes" 726) (.ref 482)) :: (nat_lit 484, t0) :: (nat_lit 486, ts 838 ["self"]) :: (nat_lit 487, t0) :: (nat_lit 489, co "row" "Clause.row" 835 188 1 0 0 3 484 true 485 .none (.ref 486) (.ref 487) (.ref 488) 839) :: (nat_lit 490, fq (me 23 1) (.type "function") "Clause.row" 3 .none (S "lazycore.nodes" 726) (.ref 489)) :: (nat_lit 491, ts 842 ["patterns", "rhs"]) :: (nat_lit 492, di [e P "__module__" 820 (S "lazycore.nodes" 726), e P "__firstlineno__" 824 (I (181) 823), e P "__init__" 834 (.ref 483), e P "row" 841 (.ref 490), e P "__static_attributes__" 844 (.ref 491), e P "__doc__" 845 (.none)] 2) :: (nat_lit 493, Obj.mk (.type "type") none (.cls { name := O "Clause", bases := [.ref 437], mro := [.ref 493, .ref 437, .type "object"], ns := 492, qualname := O "Clause" }) (List.toArray [some (.ref 469), none, some (S "Clause" 813), some (S "Clause" 821), some (.builtin "object.__new__"), some (.bool true)])) :: (nat_lit 496, tu [.ref 437]) :: (nat_lit 503, tu [.none]) :: (nat_lit 504, t0) :: (nat_lit 506, ts 863 ["self", "guarded", "where", "place"]) :: (nat_lit 507, t0) :: (nat_lit 509, co "__init__" "Rhs.__init__" 860 192 4 0 0 3 504 true 505 .none (.ref 506) (.ref 507) (.ref 508) 867) :: (nat_lit 510, fq (me 24 0) (.type "function") "Rhs.__init__" 3 (.ref 503) (S "lazycore.nodes" 726) (.ref 509)) :: (nat_lit 511, t0) :: (nat_lit 514, co "row" "Rhs.row" 870 197 1 0 0 3 511 true 512 .none .none .none (.ref 513) 873) :: (nat_lit 515, fq (me 24 1) (.type "function") "Rhs.row" 3 .none (S "lazycore.nodes" 726) (.ref 514)) :: (nat_lit 516, ts 876 ["guarded", "where"]) :: (nat_lit 517, di [e P "__module__" 855 (S "lazycore.nodes" 726), e P "__firstlineno__" 859 (I (190) 858), e P "__init__" 869 (.ref 510), e P "row" 875 (.ref 515), e P "__static_attributes__" 878 (.ref 516), e P "__doc__" 879 (.none)] 2) :: (nat_lit 518, Obj.mk (.type "type") none (.cls { name := O "Rhs", bases := [.ref 437], mro := [.ref 518, .ref 437, .type "object"], ns := 517, qualname := O "Rhs" }) (List.toArray [some (.ref 496), none, some (S "Rhs" 848), some (S "Rhs" 856), some (.builtin "object.__new__"), some (.bool true)])) :: (nat_lit 521, tu [.ref 437]) :: (nat_lit 528, tu [.none]) :: (nat_lit 529, t0) :: (nat_lit 531, ts 897 ["self", "sigs", "binds", "place"]) :: (nat_lit 532, t0) :: (nat_lit 534, co "__init__" "Binds.__init__" 894 202 4 0 0 3 529 true 530 .none (.ref 531) (.ref 532) (.ref 533) 901) :: (nat_lit 535, fq (me 25 0) (.type "function") "Binds.__init__" 3 (.ref 528) (S "lazycore.nodes" 726) (.ref 534)) :: (nat_lit 536, t0) :: (nat_lit 538, ts 907 ["self"]) :: (nat_lit 539, t0) :: (nat_lit 541, co "row" "Binds.row" 904 208 1 0 0 3 536 true 537 .none (.ref 538) (.ref 539) (.ref 540) 908) :: (nat_lit 542, fq (me 25 1) (.type "function") "Binds.row" 3 .none (S "lazycore.nodes" 726) (.ref 541)) :: (nat_lit 543, ts 911 ["binds", "groups", "sigs"]) :: (nat_lit 544, di [e P "__module__" 889 (S "lazycore.nodes" 726), e P "__firstlineno__" 893 (I (200) 892), e P "__init__" 903 (.ref 535), e P "row" 910 (.ref 542), e P "__static_attributes__" 914 (.ref 543), e P "__doc__" 915 (.none)] 2) :: (nat_lit 545, Obj.mk (.type "type") none (.cls { name := O "Binds", bases := [.ref 437], mro := [.ref 545, .ref 437, .type "object"], ns := 544, qualname := O "Binds" }) (List.toArray [some (.ref 521), none, some (S "Binds" 882), some (S "Binds" 890), some (.builtin "object.__new__"), some (.bool true)])) :: (nat_lit 548, tu [.ref 437]) :: (nat_lit 555, tu [.none]) :: (nat_lit 556, t0) :: (nat_lit 558, ts 933 ["self", "name", "place"]) :: (nat_lit 559, t0) :: (nat_lit 561, co "__init__" "Var.__init__" 930 212 3 0 0 3 556 true 557 .none (.ref 558) (.ref 559) (.ref 560) 936) :: (nat_lit 562, fq (me 26 0) (.type "function") "Var.__init__" 3 (.ref 555) (S "lazycore.nodes" 726) (.ref 561)) :: (nat_lit 563, t0) :: (nat_lit 565, ts 942 ["self"]) :: (nat_lit 566, t0) :: (nat_lit 568, co "row" "Var.row" 939 217 1 0 0 3 563 true 564 .none (.ref 565) (.ref 566) (.ref 567) 943) :: (nat_lit 569, fq (me 26 1) (.type "function") "Var.row" 3 .none (S "lazycore.nodes" 726) (.ref 568)) :: (nat_lit 570, ts 946 ["name", "uses"]) :: (nat_lit 571, di [e P "__module__" 925 (S "lazycore.nodes" 726), e P "__firstlineno__" 929 (I (210) 928), e P "__init__" 938 (.ref 562), e P "row" 945 (.ref 569), e P "__static_attributes__" 948 (.ref 570), e P "__doc__" 949 (.none)] 2) :: (nat_lit 572, Obj.mk (.type "type") none (.cls { name := O "Var", bases := [.ref 437], mro := [.ref 572, .ref 437, .type "object"], ns := 571, qualname := O "Var" }) (List.toArray [some (.ref 548), none, some (S "Var" 918), some (S "Var" 926), some (.builtin "object.__new__"), some (.bool true)])) :: (nat_lit 575, tu [.ref 437]) :: (nat_lit 582, tu [.none]) :: (nat_lit 583, t0) :: (nat_lit 585, ts 968 ["self", "name", "place"]) :: (nat_lit 586, t0) :: (nat_lit 588, co "__init__" "Con.__init__" 965 222 3 0 0 3 583 true 584 .none (.ref 585) (.ref 586) (.ref 587) 971) :: (nat_lit 589, fq (me 28 0) (.type "function") "Con.__init__" 3 (.ref 582) (S "lazycore.nodes" 726) (.ref 588)) :: (nat_lit 590, t0) :: (nat_lit 592, ts 977 ["self"]) :: (nat_lit 593, t0) :: (nat_lit 595, co "row" "Con.row" 974 227 1 0 0 3 590 true 591 .none (.ref 592) (.ref 593) (.ref 594) 978) :: (nat_lit 596, fq (me 28 1) (.type "function") "Con.row" 3 .none (S "lazycore.nodes" 726) (.ref 595)) :: (nat_lit 597, ts 981 ["name", "uses"]) :: (nat_lit 598, di [e P "__module__" 960 (S "lazycore.nodes" 726), e P "__firstlineno__" 964 (I (220) 963), e P "__init__" 973 (.ref 589), e P "row" 980 (.ref 596), e P "__static_attributes__" 983 (.ref 597), e P "__doc__" 984 (.none)] 2) :: (nat_lit 599, Obj.mk (.type "type") none (.cls { name := O "Con", bases := [.ref 437], mro := [.ref 599, .ref 437, .type "object"], ns := 598, qualname := O "Con" }) (List.toArray [some (.ref 575), none, some (S "Con" 953), some (S "Con" 961), some (.builtin "object.__new__"), some (.bool true)])) :: (nat_lit 602, tu [.ref 437]) :: (nat_lit 609, tu [.none]) :: (nat_lit 610, t0) :: (nat_lit 612, ts 1003 ["self", "expr", "statements", "place"]) :: (nat_lit 613, t0) :: (nat_lit 615, co "__init__" "Comp.__init__" 1000 232 4 0 0 3 610 true 611 .none (.ref 612) (.ref 613) (.ref 614) 1007) :: (nat_lit 616, fq (me 30 0) (.type "function") "Comp.__init__" 3 (.ref 609) (S "lazycore.nodes" 726) (.ref 615)) :: (nat_lit 617, t0) :: (nat_lit 619, ts 1013 ["self"]) :: (nat_lit 620, t0) :: (nat_lit 622, co "row" "Comp.row" 1010 237 1 0 0 3 617 true 618 .none (.ref 619) (.ref 620) (.ref 621) 1014) :: (nat_lit 623, fq (me 30 1) (.type "function") "Comp.row" 3 .none (S "lazycore.nodes" 726) (.ref 622)) :: (nat_lit 624, ts 1017 ["expr", "statements"]) :: (nat_lit 625, di [e P "__module__" 995 (S "lazycore.nodes" 726), e P "__firstlineno__" 999 (I (230) 998), e P "__init__" 1009 (.ref 616), e P "row" 1016 (.ref 623), e P "__static_attributes__" 1019 (.ref 624), e P "__doc__" 1020 (.none)] 2) :: (nat_lit 626, Obj.mk (.type "type") none (.cls { name := O "Comp", bases := [.ref 437], mro := [.ref 626, .ref 437, .type "object"], ns := 625, qualname := O "Comp" }) (List.toArray [some (.ref 602), none, some (S "Comp" 988), some (S "Comp" 996), some (.builtin "object.__new__"), some (.bool true)])) :: (nat_lit 629, tu [.ref 437]) :: (nat_lit 636, tu [.none]) :: (nat_lit 637, t0) :: (nat_lit 639, ts 1038 ["self", "pattern", "expr", "place"]) :: (nat_lit 640, t0) :: (nat_lit 642, co "__init__" "Generate.__init__" 1035 241 4 0 0 3 637 true 638 .none (.ref 639) (.ref 640) (.ref 641) 1042) :: (nat_lit 643, fq (me 31 0) (.type "function") "Generate.__init__" 3 (.ref 636) (S "lazycore.nodes" 726) (.ref 642)) :: (nat_lit 644, t0) :: (nat_lit 646, ts 1048 ["self"]) :: (nat_lit 647, t0) :: (nat_lit 649, co "row" "Generate.row" 1045 246 1 0 0 3 644 true 645 .none (.ref 646) (.ref 647) (.ref 648) 1049) :: (nat_lit 650, fq (me 31 1) (.type "function") "Generate.row" 3 .none (S "lazycore.nodes" 726) (.ref 649)) :: (nat_lit 651, ts 1052 ["expr", "pattern"]) :: (nat_lit 652, di [e P "__module__" 1030 (S "lazycore.nodes" 726), e P "__firstlineno__" 1034 (I (239) 1033), e P "__init__" 1044 (.ref 643), e P "row" 1051 (.ref 650), e P "__static_attributes__" 1054 (.ref 651), e P "__doc__" 1055 (.none)] 2) :: (nat_lit 653, Obj.mk (.type "type") none (.cls { name := O "Generate", bases := [.ref 437], mro := [.ref 653, .ref 437, .type "object"], ns := 652, qualname := O "Generate" }) (List.toArray [some (.ref 629), none, some (S "Generate" 1023), some (S "Generate" 1031), some (.builtin "object.__new__"), some (.bool true)])) :: (nat_lit 656, tu [.ref 437]) :: (nat_lit 663, tu [.none]) :: (nat_lit 664, t0) :: (nat_lit 666, ts 1073 ["self", "expr", "place"]) :: (nat_lit 667, t0) :: (nat_lit 669, co "__init__" "Say.__init__" 1070 250 3 0 0 3 664 true 665 .none (.ref 666) (.ref 667) (.ref 668) 1076) :: (nat_lit 670, fq (me 32 0) (.type "function") "Say.__init__" 3 (.ref 663) (S "lazycore.nodes" 726) (.ref 669)) :: (nat_lit 671, t0) :: (nat_lit 673, ts 1082 ["self"]) :: (nat_lit 674, t0) :: (nat_lit 676, co "row" "Say.row" 1079 254 1 0 0 3 671 true 672 .none (.ref 673) (.ref 674) (.ref 675) 1083) :: (nat_lit 677, fq (me 32 1) (.type "function") "Say.row" 3 .none (S "lazycore.nodes" 726) (.ref 676)) :: (nat_lit 678, ts 1086 ["expr"]) :: (nat_lit 679, di [e P "__module__" 1065 (S "lazycore.nodes" 726), e P "__firstlineno__" 1069 (I (248) 1068), e P "__init__" 1078 (.ref 670), e P "row" 1085 (.ref 677), e P "__static_attributes__" 1087 (.ref 678), e P "__doc__" 1088 (.none)] 2) :: (nat_lit 680, Obj.mk (.type "type") none (.cls { name := O "Say", bases := [.ref 437], mro := [.ref 680, .ref 437, .type "object"], ns := 679, qualname := O "Say" }) (List.toArray [some (.ref 656), none, some (S "Say" 1058), some (S "Say" 1066), some (.builtin "object.__new__"), some (.bool true)])) :: (nat_lit 683, tu [.ref 437]) :: (nat_lit 690, tu [.none]) :: (nat_lit 691, t0) :: (nat_lit 693, ts 1106 ["self", "binds", "place"]) :: (nat_lit 694, t0) :: (nat_lit 696, co "__init__" "LetSay.__init__" 1103 258 3 0 0 3 691 true 692 .none (.ref 693) (.ref 694) (.ref 695) 1109) :: (nat_lit 697, fq (me 33 0) (.type "function") "LetSay.__init__" 3 (.ref 690) (S "lazycore.nodes" 726) (.ref 696)) :: (nat_lit 698, t0) :: (nat_lit 700, ts 1115 ["self"]) :: (nat_lit 701, t0) :: (nat_lit 703, co "row" "LetSay.row" 1112 262 1 0 0 3 698 true 699 .none (.ref 700) (.ref 701) (.ref 702) 1116) :: (nat_lit 704, fq (me 33 1) (.type "function") "LetSay.row" 3 .none (S "lazycore.nodes" 726) (.ref 703)) :: (nat_lit 705, ts 1119 ["binds"]) :: (nat_lit 706, di [e P "__module__" 1098 (S "lazycore.nodes" 726), e P "__firstlineno__" 1102 (I (256) 1101), e P "__init__" 1111 (.ref 697), e P "row" 1118 (.ref 704), e P "__static_attributes__" 1120 (.ref 705), e P "__doc__" 1121 (.none)] 2) :: (nat_lit 707, Obj.mk (.type "type") none (.cls { name := O "LetSay", bases := [.ref 437], mro := [.ref 707, .ref 437, .type "object"], ns := 706, qualname := O "LetSay" }) (List.toArray [some (.ref 683), none, some (S "LetSay" 1091), some (S "LetSay" 1099), some (.builtin "object.__new__"), some (.bool true)])) :: (nat_lit 710, tu [.ref 437]) :: (nat_lit 717, tu [.none]) :: (nat_lit 718, t0) :: (nat_lit 720, ts 1141 ["self", "name", "place"]) :: (nat_lit 721, t0) :: (nat_lit 723, co "__init__" "PVar.__init__" 1138 267 3 0 0 3 718 true 719 .none (.ref 720) (.ref 721) (.ref 722) 1144) :: (nat_lit 724, fq (me 35 0) (.type "function") "PVar.__init__" 3 (.ref 717) (S "lazycore.pattern_nodes" 1124) (.ref 723)) :: (nat_lit 725, t0) :: (nat_lit 727, ts 1150 ["self"]) :: (nat_lit 728, t0) :: (nat_lit 730, co "row" "PVar.row" 1147 271 1 0 0 3 725 true 726 .none (.ref 727) (.ref 728) (.ref 729) 1151) :: (nat_lit 731, fq (me 35 1) (.type "function") "PVar.row" 3 .none (S "lazycore.pattern_nodes" 1124) (.ref 730)) :: (nat_lit 732, ts 1154 ["name"]) :: (nat_lit 733, di [e P "__module__" 1133 (S "lazycore.pattern_nodes" 1124), e P "__firstlineno__" 1137 (I (265) 1136), e P "__init__" 1146 (.ref 724), e P "row" 1153 (.ref 731), e P "__static_attributes__" 1155 (.ref 732), e P "__doc__" 1156 (.none)] 2) :: (nat_lit 734, Obj.mk (.type "type") none (.cls { name := O "PVar", bases := [.ref 437], mro := [.ref 734, .ref 437, .type "object"], ns := 733, qualname := O "PVar" }) (List.toArray [some (.ref 710), none, some (S "PVar" 1126), some (S "PVar" 1134), some (.builtin "object.__new__"), some (.bool true)])) :: (nat_lit 737, tu [.ref 437]) :: (nat_lit 744, tu [.none]) :: (nat_lit 745, t0) :: (nat_lit 747, ts 1174 ["self", "place"]) :: (nat_lit 748, t0) :: (nat_lit 750, co "__init__" "PWild.__init__" 1171 275 2 0 0 3 745 true 746 .none (.ref 747) (.ref 748) (.ref 749) 1176) :: (nat_lit 751, fq (me 36 0) (.type "function") "PWild.__init__" 3 (.ref 744) (S "lazycore.pattern_nodes" 1124) (.ref 750)) :: (nat_lit 752, t0) :: (nat_lit 754, ts 1182 ["self"]) :: (nat_lit 755, t0) :: (nat_lit 757, co "row" "PWild.row" 1179 278 1 0 0 3 752 true 753 .none (.ref 754) (.ref 755) (.ref 756) 1183) :: (nat_lit 758, fq (me 36 1) (.type "function") "PWild.row" 3 .none (S "lazycore.pattern_nodes" 1124) (.ref 757)) :: (nat_lit 759, t0) :: (nat_lit 760, di [e P "__module__" 1166 (S "lazycore.pattern_nodes" 1124), e P "__firstlineno__" 1170 (I (273) 1169), e P "__init__" 1178 (.ref 751), e P "row" 1185 (.ref 758), e P "__static_attributes__" 1186 (.ref 759), e P "__doc__" 1187 (.none)] 2) :: (nat_lit 761, Obj.mk (.type "type") none (.cls { name := O "PWild", bases := [.ref 437], mro := [.ref 761, .ref 437, .type "object"], ns := 760, qualname := O "PWild" }) (List.toArray [some (.ref 737), none, some (S "PWild" 1159), some (S "PWild" 1167), some (.builtin "object.__new__"), some (.bool true)])) :: (nat_lit 764, tu [.ref 437]) :: (nat_lit 771, tu [.none]) :: (nat_lit 772, t0) :: (nat_lit 774, ts 1205 ["self", "kind", "value", "place"]) :: (nat_lit 775, t0) :: (nat_lit 777, co "__init__" "PLit.__init__" 1202 282 4 0 0 3 772 true 773 .none (.ref 774) (.ref 775) (.ref 776) 1209) :: (nat_lit 778, fq (me 37 0) (.type "function") "PLit.__init__" 3 (.ref 771) (S "lazycore.pattern_nodes" 1124) (.ref 777)) :: (nat_lit 779, t0) :: (nat_lit 781, ts 1215 ["self"]) :: (nat_lit 782, t0) :: (nat_lit 784, co "row" "PLit.row" 1212 287 1 0 0 3 779 true 780 .none (.ref 781) (.ref 782) (.ref 783) 1216) :: (nat_lit 785, fq (me 37 1) (.type "function") "PLit.row" 3 .none (S "lazycore.pattern_nodes" 1124) (.ref 784)) :: (nat_lit 786, ts 1219 ["kind", "value"]) :: (nat_lit 787, di [e P "__module__" 1197 (S "lazycore.pattern_nodes" 1124), e P "__firstlineno__" 1201 (I (280) 1200), e P "__init__" 1211 (.ref 778), e P "row" 1218 (.ref 785), e P "__static_attributes__" 1221 (.ref 786), e P "__doc__" 1222 (.none)] 2) :: (nat_lit 788, Obj.mk (.type "type") none (.cls { name := O "PLit", bases := [.ref 437], mro := [.ref 788, .ref 437, .type "object"], ns := 787, qualname := O "PLit" }) (List.toArray [some (.ref 764), none, some (S "PLit" 1190), some (S "PLit" 1198), some (.builtin "object.__new__"), some (.bool true)])) :: (nat_lit 791, tu [.ref 437]) :: (nat_lit 798, tu [.none]) :: (nat_lit 799, t0) :: (nat_lit 801, ts 1240 ["self", "name", "args", "place"]) :: (nat_lit 802, t0) :: (nat_lit 804, co "__init__" "PCon.__init__" 1237 291 4 0 0 3 799 true 800 .none (.ref 801) (.ref 802) (.ref 803) 1244) :: (nat_lit 805, fq (me 38 0) (.type "function") "PCon.__init__" 3 (.ref 798) (S "lazycore.pattern_nodes" 1124) (.ref 804)) :: (nat_lit 806, t0) :: (nat_lit 808, ts 1250 ["self"]) :: (nat_lit 809, t0) :: (nat_lit 811, co "row" "PCon.row" 1247 296 1 0 0 3 806 true 807 .none (.ref 808) (.ref 809) (.ref 810) 1251) :: (nat_lit 812, fq (me 38 1) (.type "function") "PCon.row" 3 .none (S "lazycore.pattern_nodes" 1124) (.ref 811)) :: (nat_lit 813, ts 1254 ["args", "name"]) :: (nat_lit 814, di [e P "__module__" 1232 (S "lazycore.pattern_nodes" 1124), e P "__firstlineno__" 1236 (I (289) 1235), e P "__init__" 1246 (.ref 805), e P "row" 1253 (.ref 812), e P "__static_attributes__" 1256 (.ref 813), e P "__doc__" 1257 (.none)] 2) :: (nat_lit 815, Obj.mk (.type "type") none (.cls { name := O "PCon", bases := [.ref 437], mro := [.ref 815, .ref 437, .type "object"], ns := 814, qualname := O "PCon" }) (List.toArray [some (.ref 791), none, some (S "PCon" 1225), some (S "PCon" 1233), some (.builtin "object.__new__"), some (.bool true)])) :: (nat_lit 818, tu [.ref 437]) :: (nat_lit 825, tu [.none]) :: (nat_lit 826, t0) :: (nat_lit 828, ts 1275 ["self", "items", "place"]) :: (nat_lit 829, t0) :: (nat_lit 831, co "__init__" "PTuple.__init__" 1272 300 3 0 0 3 826 true 827 .none (.ref 828) (.ref 829) (.ref 830) 1278) :: (nat_lit 832, fq (me 39 0) (.type "function") "PTuple.__init__" 3 (.ref 825) (S "lazycore.pattern_nodes" 1124) (.ref 831)) :: (nat_lit 833, t0) :: (nat_lit 835, ts 1284 ["self"]) :: (nat_lit 836, t0) :: (nat_lit 838, co "row" "PTuple.row" 1281 304 1 0 0 3 833 true 834 .none (.ref 835) (.ref 836) (.ref 837) 1285) :: (nat_lit 839, fq (me 39 1) (.type "function") "PTuple.row" 3 .none (S "lazycore.pattern_nodes" 1124) (.ref 838)) :: (nat_lit 840, ts 1288 ["items"]) :: (nat_lit 841, di [e P "__module__" 1267 (S "lazycore.pattern_nodes" 1124), e P "__firstlineno__" 1271 (I (298) 1270), e P "__init__" 1280 (.ref 832), e P "row" 1287 (.ref 839), e P "__static_attributes__" 1289 (.ref 840), e P "__doc__" 1290 (.none)] 2) :: (nat_lit 842, Obj.mk (.type "type") none (.cls { name := O "PTuple", bases := [.ref 437], mro := [.ref 842, .ref 437, .type "object"], ns := 841, qualname := O "PTuple" }) (List.toArray [some (.ref 818), none, some (S "PTuple" 1260), some (S "PTuple" 1268), some (.builtin "object.__new__"), some (.bool true)])) :: (nat_lit 845, tu [.ref 437]) :: (nat_lit 852, tu [.none]) :: (nat_lit 853, t0) :: (nat_lit 855, ts 1308 ["self", "items", "place"]) :: (nat_lit 856, t0) :: (nat_lit 858, co "__init__" "PList.__init__" 1305 308 3 0 0 3 853 true 854 .none (.ref 855) (.ref 856) (.ref 857) 1311) :: (nat_lit 859, fq (me 40 0) (.type "function") "PList.__init__" 3 (.ref 852) (S "lazycore.pattern_nodes" 1124) (.ref 858)) :: (nat_lit 860, t0) :: (nat_lit 862, ts 1317 ["self"]) :: (nat_lit 863, t0) :: (nat_lit 865, co "row" "PList.row" 1314 312 1 0 0 3 860 true 861 .none (.ref 862) (.ref 863) (.ref 864) 1318) :: (nat_lit 866, fq (me 40 1) (.type "function") "PList.row" 3 .none (S "lazycore.pattern_nodes" 1124) (.ref 865)) :: (nat_lit 867, ts 1321 ["items"]) :: (nat_lit 868, di [e P "__module__" 1300 (S "lazycore.pattern_nodes" 1124), e P "__firstlineno__" 1304 (I (306) 1303), e P "__init__" 1313 (.ref 859), e P "row" 1320 (.ref 866), e P "__static_attributes__" 1322 (.ref 867), e P "__doc__" 1323 (.none)] 2) :: (nat_lit 869, Obj.mk (.type "type") none (.cls { name := O "PList", bases := [.ref 437], mro := [.ref 869, .ref 437, .type "object"], ns := 868, qualname := O "PList" }) (List.toArray [some (.ref 845), none, some (S "PList" 1293), some (S "PList" 1301), some (.builtin "object.__new__"), some (.bool true)])) :: (nat_lit 872, tu [.ref 437]) :: (nat_lit 879, tu [.none]) :: (nat_lit 880, t0) :: (nat_lit 882, ts 1341 ["self", "name", "pattern", "place"]) :: (nat_lit 883, t0) :: (nat_lit 885, co "__init__" "PAs.__init__" 1338 316 4 0 0 3 880 true 881 .none (.ref 882) (.ref 883) (.ref 884) 1345) :: (nat_lit 886, fq (me 41 0) (.type "function") "PAs.__init__" 3 (.ref 879) (S "lazycore.pattern_nodes" 1124) (.ref 885)) :: (nat_lit 887, t0) :: (nat_lit 889, ts 1351 ["self"]) :: (nat_lit 890, t0) :: (nat_lit 892, co "row" "PAs.row" 1348 321 1 0 0 3 887 true 888 .none (.ref 889) (.ref 890) (.ref 891) 1352) :: (nat_lit 893, fq (me 41 1) (.type "function") "PAs.row" 3 .none (S "lazycore.pattern_nodes" 1124) (.ref 892)) :: (nat_lit 894, ts 1355 ["name", "pattern"]) :: (nat_lit 895, di [e P "__module__" 1333 (S "lazycore.pattern_nodes" 1124), e P "__firstlineno__" 1337 (I (314) 1336), e P "__init__" 1347 (.ref 886), e P "row" 1354 (.ref 893), e P "__static_attributes__" 1357 (.ref 894), e P "__doc__" 1358 (.none)] 2) :: (nat_lit 896, Obj.mk (.type "type") none (.cls { name := O "PAs", bases := [.ref 437], mro := [.ref 896, .ref 437, .type "object"], ns := 895, qualname := O "PAs" }) (List.toArray [some (.ref 872), none, some (S "PAs" 1326), some (S "PAs" 1334), some (.builtin "object.__new__"), some (.bool true)])) :: (nat_lit 899, tu [.ref 437]) :: (nat_lit 906, tu [.none]) :: (nat_lit 907, t0) :: (nat_lit 909, ts 1376 ["self", "pattern", "place"]) :: (nat_lit 910, t0) :: (nat_lit 912, co "__init__" "PLazy.__init__" 1373 325 3 0 0 3 907 true 908 .none (.ref 909) (.ref 910) (.ref 911) 1379) :: (nat_lit 913, fq (me 42 0) (.type "function") "PLazy.__init__" 3 (.ref 906) (S "lazycore.pattern_nodes" 1124) (.ref 912)) :: (nat_lit 914, t0) :: (nat_lit 916, ts 1385 ["self"]) :: (nat_lit 917, t0) :: (nat_lit 919, co "row" "PLazy.row" 1382 329 1 0 0 3 914 true 915 .none (.ref 916) (.ref 917) (.ref 918) 1386) :: (nat_lit 920, fq (me 42 1) (.type "function") "PLazy.row" 3 .none (S "lazycore.pattern_nodes" 1124) (.ref 919)) :: (nat_lit 921, ts 1389 ["pattern"]) :: (nat_lit 922, di [e P "__module__" 1368 (S "lazycore.pattern_nodes" 1124), e P "__firstlineno__" 1372 (I (323) 1371), e P "__init__" 1381 (.ref 913), e P "row" 1388 (.ref 920), e P "__static_attributes__" 1390 (.ref 921), e P "__doc__" 1391 (.none)] 2) :: (nat_lit 923, Obj.mk (.type "type") none (.cls { name := O "PLazy", bases := [.ref 437], mro := [.ref 923, .ref 437, .type "object"], ns := 922, qualname := O "PLazy" }) (List.toArray [some (.ref 899), none, some (S "PLazy" 1361), some (S "PLazy" 1369), some (.builtin "object.__new__"), some (.bool true)])) :: (nat_lit 926, tu [.ref 437]) :: (nat_lit 933, tu [.none]) :: (nat_lit 934, t0) :: (nat_lit 936, ts 1409 ["self", "pattern", "place"]) :: (nat_lit 937, t0) :: (nat_lit 939, co "__init__" "PBang.__init__" 1406 333 3 0 0 3 934 true 935 .none (.ref 936) (.ref 937) (.ref 938) 1412) :: (nat_lit 940, fq (me 43 0) (.type "function") "PBang.__init__" 3 (.ref 933) (S "lazycore.pattern_nodes" 1124) (.ref 939)) :: (nat_lit 941, t0) :: (nat_lit 943, ts 1418 ["self"]) :: (nat_lit 944, t0) :: (nat_lit 946, co "row" "PBang.row" 1415 337 1 0 0 3 941 true 942 .none (.ref 943) (.ref 944) (.ref 945) 1419) :: (nat_lit 947, fq (me 43 1) (.type "function") "PBang.row" 3 .none (S "lazycore.pattern_nodes" 1124) (.ref 946)) :: (nat_lit 948, ts 1422 ["pattern"]) :: (nat_lit 949, di [e P "__module__" 1401 (S "lazycore.pattern_nodes" 1124), e P "__firstlineno__" 1405 (I (331) 1404), e P "__init__" 1414 (.ref 940), e P "row" 1421 (.ref 947), e P "__static_attributes__" 1423 (.ref 948), e P "__doc__" 1424 (.none)] 2) :: (nat_lit 950, Obj.mk (.type "type") none (.cls { name := O "PBang", bases := [.ref 437], mro := [.ref 950, .ref 437, .type "object"], ns := 949, qualname := O "PBang" }) (List.toArray [some (.ref 926), none, some (S "PBang" 1394), some (S "PBang" 1402), some (.builtin "object.__new__"), some (.bool true)])) :: (nat_lit 953, t0) :: (nat_lit 955, ts 1432 ["pattern"]) :: (nat_lit 956, t0) :: (nat_lit 958, co "parts_of" "parts_of" 1429 340 1 0 0 3 953 true 954 .none (.ref 955) (.ref 956) (.ref 957) 1433) :: (nat_lit 959, fq (st 45) (.type "function") "parts_of" 3 .none (S "lazycore.pattern_forms" 1427) (.ref 958)) :: (nat_lit 960, t0) :: (nat_lit 962, ts 1439 ["pattern", "found", "part"]) :: (nat_lit 963, t0) :: (nat_lit 965, co "variables_of" "variables_of" 1436 346 1 0 0 3 960 true 961 .none (.ref 962) (.ref 963) (.ref 964) 1442) :: (nat_lit 966, fq (st 46) (.type "function") "variables_of" 3 .none (S "lazycore.pattern_forms" 1427) (.ref 965)) :: (nat_lit 967, t0) :: (nat_lit 970, co "renamed_pattern" "renamed_pattern" 1445 351 2 0 0 3 967 true 968 .none .none .none (.ref 969) 1448) :: (nat_lit 971, fq (st 47) (.type "function") "renamed_pattern" 3 .none (S "lazycore.pattern_forms" 1427) (.ref 970)) :: (nat_lit 979, t0) :: (nat_lit 981, ts 1466 ["self", "cons"]) :: (nat_lit 982, t0) :: (nat_lit 984, co "__init__" "Constructors.__init__" 1463 369 2 0 0 3 979 true 980 .none (.ref 981) (.ref 982) (.ref 983) 1468) :: (nat_lit 985, fq (me 48 0) (.type "function") "Constructors.__init__" 3 .none (S "lazycore.pattern_forms" 1427) (.ref 984)) :: (nat_lit 986, t0) :: (nat_lit 988, ts 1474 ["self", "name"]) :: (nat_lit 989, t0) :: (nat_lit 991, co "arity" "Constructors.arity" 1471 372 2 0 0 3 986 true 987 .none (.ref 988) (.ref 989) (.ref 990) 1476) :: (nat_lit 992, fq (me 48 1) (.type "function") "Constructors.arity" 3 .none (S "lazycore.pattern_forms" 1427) (.ref 991)) :: (nat_lit 993, t0) :: (nat_lit 995, ts 1482 ["self", "name"]) :: (nat_lit 996, t0) :: (nat_lit 998, co "is_newtype" "Constructors.is_newtype" 1479 375 2 0 0 3 993 true 994 .none (.ref 995) (.ref 996) (.ref 997) 1484) :: (nat_lit 999, fq (me 48 2) (.type "function") "Constructors.is_newtype" 3 .none (S "lazycore.pattern_forms" 1427) (.ref 998)) :: (nat_lit 1000, t0) :: (nat_lit 1002, ts 1490 ["self", "name"]) :: (nat_lit 1003, t0) :: (nat_lit 1005, co "siblings" "Constructors.siblings" 1487 378 2 0 0 3 1000 true 1001 .none (.ref 1002) (.ref 1003) (.ref 1004) 1492) :: (nat_lit 1006, fq (me 48 3) (.type "function") "Constructors.siblings" 3 .none (S "lazycore.pattern_forms" 1427) (.ref 1005)) :: (nat_lit 1007, ts 1495 ["cons"]) :: (nat_lit 1008, di [e P "__module__" 1458 (S "lazycore.pattern_forms" 1427), e P "__firstlineno__" 1462 (I (367) 1461), e P "__init__" 1470 (.ref 985), e P "arity" 1478 (.ref 992), e P "is_newtype" 1486 (.ref 999), e P "siblings" 1494 (.ref 1006), e P "__static_attributes__" 1496 (.ref 1007), e P "__dict__" 1498 (.ref 1010), e P "__weakref__" 1500 (.ref 1011), e P "__doc__" 1501 (.none)] 4) :: (nat_lit 1009, Obj.mk (.type "type") none (.cls { name := O "Constructors", bases := [.type "object"], mro := [.ref 1009, .type "object"], ns := 1008, qualname := O "Constructors" }) (List.toArray [none, none, some (S "Constructors" 1451), some (S "Constructors" 1459), some (.builtin "object.__new__"), some (.bool true)])) :: (nat_lit 1010, fs (.type "getset_descriptor") [S "__dict__" 1497, .ref 1009, .builtin "function.__dict__", .builtin "function.__dict__#set"]) :: (nat_lit 1011, fs (.type "getset_descriptor") [S "__weakref__" 1499, .ref 1009, .builtin "ExceptionGroup.__weakref__", .none]) :: (nat_lit 1014, t0) :: (nat_lit 1016, ts 1513 ["fresh", "condition", "then", "other"]) :: (nat_lit 1017, t0) :: (nat_lit 1019, co "choice" "choice" 1510 383 4 0 0 3 1014 true 1015 .none (.ref 1016) (.ref 1017) (.ref 1018) 1517) :: (nat_lit 1020, fq (st 52) (.type "function") "choice" 3 .none (S "lazycore.desugar_binds" 1504) (.ref 1019)) :: (nat_lit 1021, t0) :: (nat_lit 1023, ts 1523 ["condition"]) :: (nat_lit 1024, t0) :: (nat_lit 1026, co "is_always" "is_always" 1520 385 1 0 0 3 1021 true 1022 .none (.ref 1023) (.ref 1024) (.ref 1025) 1524) :: (nat_lit 1027, fq (st 53) (.type "function") "is_always" 3 .none (S "lazycore.desugar_binds" 1504) (.ref 1026)) :: (nat_lit 1028, t0) :: (nat_lit 1031, co "rhs_falls" "rhs_falls" 1527 391 1 0 0 3 1028 true 1029 .none .none .none (.ref 1030) 1530) :: (nat_lit 1032, fq (st 54) (.type "function") "rhs_falls" 3 .none (S "lazycore.desugar_binds" 1504) (.ref 1031)) :: (nat_lit 1033, t0) :: (nat_lit 1035, ts 1536 ["maker", "rhs", "fall", "found", "condition", "expr", "core"]) :: (nat_lit 1036, t0) :: (nat_lit 1038, co "guarded" "guarded" 1533 393 3 0 0 3 1033 true 1034 .none (.ref 1035) (.ref 1036) (.ref 1037) 1543) :: (nat_lit 1039, fq (st 55) (.type "function") "guarded" 3 .none (S "lazycore.desugar_binds" 1504) (.ref 1038)) :: (nat_lit 1040, t0) :: (nat_lit 1042, ts 1549 ["maker", "rhs"]) :: (nat_lit 1043, ts 1551 ["maker", "rhs"]) :: (nat_lit 1045, co "rhs_code" "rhs_code" 1546 399 2 0 0 3 1040 true 1041 .none (.ref 1042) (.ref 1043) (.ref 1044) 1553) :: (nat_lit 1046, fq (st 56) (.type "function") "rhs_code" 3 .none (S "lazycore.desugar_binds" 1504) (.ref 1045)) :: (nat_lit 1047, t0) :: (nat_lit 1050, co "function_core" "function_core" 1556 401 3 0 0 3 1047 true 1048 .none .none .none (.ref 1049) 1559) :: (nat_lit 1051, fq (st 57) (.type "function") "function_core" 3 .none (S "lazycore.desugar_binds" 1504) (.ref 1050)) :: (nat_lit 1052, t0) :: (nat_lit 1054, ts 1565 ["maker", "pattern", "name", "value", "other", "row"]) :: (nat_lit 1055, ts 1571 ["name", "others"]) :: (nat_lit 1057, co "taken" "taken" 1562 411 4 0 0 3 1052 true 1053 .none (.ref 1054) (.ref 1055) (.ref 1056) 1573) :: (nat_lit 1058, fq (st 58) (.type "function") "taken" 3 .none (S "lazycore.desugar_binds" 1504) (.ref 1057)) :: (nat_lit 1059, t0) :: (nat_lit 1062, co "pattern_pairs" "pattern_pairs" 1576 417 2 0 0 3 1059 true 1060 .none .none .none (.ref 1061) 1579) :: (nat_lit 1063, fq (st 59) (.type "function") "pattern_pairs" 3 .none (S "lazycore.desugar_binds" 1504) (.ref 1062)) :: (nat_lit 1064, t0) :: (nat_lit 1066, ts 1585 ["maker", "bind"]) :: (nat_lit 1067, t0) :: (nat_lit 1069, co "bind_pairs" "bind_pairs" 1582 426 2 0 0 3 1064 true 1065 .none (.ref 1066) (.ref 1067) (.ref 1068) 1587) :: (nat_lit 1070, fq (st 60) (.type "function") "bind_pairs" 3 .none (S "lazycore.desugar_binds" 1504) (.ref 1069)) :: (nat_lit 1071, t0) :: (nat_lit 1073, ts 1593 ["maker", "group", "found", "bind"]) :: (nat_lit 1074, t0) :: (nat_lit 1076, co "group_pairs" "group_pairs" 1590 430 2 0 0 3 1071 true 1072 .none (.ref 1073) (.ref 1074) (.ref 1075) 1597) :: (nat_lit 1077, fq (st 61) (.type "function") "group_pairs" 3 .none (S "lazycore.desugar_binds" 1504) (.ref 1076)) :: (nat_lit 1078, t0) :: (nat_lit 1081, co "is_round" "is_round" 1600 435 1 0 0 3 1078 true 1079 .none .none .none (.ref 1080) 1603) :: (nat_lit 1082, fq (st 62) (.type "function") "is_round" 3 .none (S "lazycore.desugar_binds" 1504) (.ref 1081)) :: (nat_lit 1083, t0) :: (nat_lit 1085, ts 1609 ["pairs", "body", "pair"]) :: (nat_lit 1086, t0) :: (nat_lit 1088, co "let_pairs" "let_pairs" 1606 441 2 0 0 3 1083 true 1084 .none (.ref 1085) (.ref 1086) (.ref 1087) 1612) :: (nat_lit 1089, fq (st 63) (.type "function") "let_pairs" 3 .none (S "lazycore.desugar_binds" 1504) (.ref 1088)) :: (nat_lit 1090, t0) :: (nat_lit 1092, ts 1618 ["maker", "binds", "body", "group"]) :: (nat_lit 1093, t0) :: (nat_lit 1095, co "bound" "bound" 1615 447 3 0 0 3 1090 true 1091 .none (.ref 1092) (.ref 1093) (.ref 1094) 1622) :: (nat_lit 1096, fq (st 64) (.type "function") "bound" 3 .none (S "lazycore.desugar_binds" 1504) (.ref 1095)) :: (nat_lit 1097, t0) :: (nat_lit 1099, ts 1634 ["maker", "node"]) :: (nat_lit 1100, t0) :: (nat_lit 1102, co "comprehension" "comprehension" 1631 454 2 0 0 3 1097 true 1098 .none (.ref 1099) (.ref 1100) (.ref 1101) 1636) :: (nat_lit 1103, fq (st 68) (.type "function") "comprehension" 3 .none (S "lazycore.desugar_statements" 1625) (.ref 1102)) :: (nat_lit 1104, t0) :: (nat_lit 1106, ts 1642 ["maker", "expr", "statements", "at", "rest", "statement", "condition", "loop", "items", "source", "body"]) :: (nat_lit 1107, t0) :: (nat_lit 1109, co "told_items" "told_items" 1639 456 5 0 0 3 1104 true 1105 .none (.ref 1106) (.ref 1107) (.ref 1108) 1653) :: (nat_lit 1110, fq (st 69) (.type "function") "told_items" 3 .none (S "lazycore.desugar_statements" 1625) (.ref 1109)) :: (nat_lit 1111, t0) :: (nat_lit 1113, ts 1659 ["maker", "pattern", "loop", "items", "expr", "statements", "at", "rest", "item", "more", "inner", "step"]) :: (nat_lit 1114, ts 1671 ["maker", "expr", "statements", "at", "again"]) :: (nat_lit 1116, co "loop_body" "loop_body" 1656 469 8 0 0 3 1111 true 1112 .none (.ref 1113) (.ref 1114) (.ref 1115) 1676) :: (nat_lit 1117, fq (st 70) (.type "function") "loop_body" 3 .none (S "lazycore.desugar_statements" 1625) (.ref 1116)) :: (nat_lit 1125, t0) :: (nat_lit 1127, ts 1696 ["self", "types", "classes", "fresh", "matcher", "unmatched", "desugar"]) :: (nat_lit 1128, t0) :: (nat_lit 1130, co "__init__" "Maker.__init__" 1693 478 7 0 0 3 1125 true 1126 .none (.ref 1127) (.ref 1128) (.ref 1129) 1703) :: (nat_lit 1131, fq (me 72 0) (.type "function") "Maker.__init__" 3 .none (S "lazycore.desugar_maker" 1679) (.ref 1130)) :: (nat_lit 1132, t0) :: (nat_lit 1134, ts 1709 ["self", "node"]) :: (nat_lit 1135, t0) :: (nat_lit 1137, co "expression" "Maker.expression" 1706 486 2 0 0 3 1132 true 1133 .none (.ref 1134) (.ref 1135) (.ref 1136) 1711) :: (nat_lit 1138, fq (me 72 1) (.type "function") "Maker.expression" 3 .none (S "lazycore.desugar_maker" 1679) (.ref 1137)) :: (nat_lit 1139, t0) :: (nat_lit 1141, ts 1717 ["self"]) :: (nat_lit 1142, t0) :: (nat_lit 1144, co "fail" "Maker.fail" 1714 489 1 0 0 3 1139 true 1140 .none (.ref 1141) (.ref 1142) (.ref 1143) 1718) :: (nat_lit 1145, fq (me 72 2) (.type "function") "Maker.fail" 3 .none (S "lazycore.desugar_maker" 1679) (.ref 1144)) :: (nat_lit 1146, t0) :: (nat_lit 1148, ts 1724 ["self", "names", "rows", "fail"]) :: (nat_lit 1149, t0) :: (nat_lit 1151, co "match" "Maker.match" 1721 492 4 0 0 3 1146 true 1147 .none (.ref 1148) (.ref 1149) (.ref 1150) 1728) :: (nat_lit 1152, fq (me 72 3) (.type "function") "Maker.match" 3 .none (S "lazycore.desugar_maker" 1679) (.ref 1151)) :: (nat_lit 1153, t0) :: (nat_lit 1155, ts 1734 ["self", "core", "base", "inside", "name"]) :: (nat_lit 1156, t0) :: (nat_lit 1158, co "named" "Maker.named" 1731 495 4 0 0 3 1153 true 1154 .none (.ref 1155) (.ref 1156) (.ref 1157) 1739) :: (nat_lit 1159, fq (me 72 4) (.type "function") "Maker.named" 3 .none (S "lazycore.desugar_maker" 1679) (.ref 1158)) :: (nat_lit 1160, t0) :: (nat_lit 1162, ts 1745 ["self", "items", "empty", "item", "more", "step", "alts"]) :: (nat_lit 1163, t0) :: (nat_lit 1165, co "list_case" "Maker.list_case" 1742 501 6 0 0 3 1160 true 1161 .none (.ref 1162) (.ref 1163) (.ref 1164) 1752) :: (nat_lit 1166, fq (me 72 5) (.type "function") "Maker.list_case" 3 .none (S "lazycore.desugar_maker" 1679) (.ref 1165)) :: (nat_lit 1167, t0) :: (nat_lit 1169, ts 1758 ["self", "use"]) :: (nat_lit 1170, t0) :: (nat_lit 1172, co "evidence" "Maker.evidence" 1755 505 2 0 0 3 1167 true 1168 .none (.ref 1169) (.ref 1170) (.ref 1171) 1760) :: (nat_lit 1173, fq (me 72 6) (.type "function") "Maker.evidence" 3 .none (S "lazycore.desugar_maker" 1679) (.ref 1172)) :: (nat_lit 1174, ts 1763 ["classes", "desugar", "fresh", "matcher", "types", "unmatched"]) :: (nat_lit 1175, di [e P "__module__" 1688 (S "lazycore.desugar_maker" 1679), e P "__firstlineno__" 1692 (I (476) 1691), e P "__init__" 1705 (.ref 1131), e P "expression" 1713 (.ref 1138), e P "fail" 1720 (.ref 1145), e P "match" 1730 (.ref 1152), e P "named" 1741 (.ref 1159), e P "list_case" 1754 (.ref 1166), e P "evidence" 1762 (.ref 1173), e P "__static_attributes__" 1769 (.ref 1174), e P "__dict__" 1771 (.ref 1177), e P "__weakref__" 1773 (.ref 1178), e P "__doc__" 1774 (.none)] 4) :: (nat_lit 1176, Obj.mk (.type "type") none (.cls { name := O "Maker", bases := [.type "object"], mro := [.ref 1176, .type "object"], ns := 1175, qualname := O "Maker" }) (List.toArray [none, none, some (S "Maker" 1681), some (S "Maker" 1689), some (.builtin "object.__new__"), some (.bool true)])) :: (nat_lit 1177, fs (.type "getset_descriptor") [S "__dict__" 1770, .ref 1176, .builtin "function.__dict__", .builtin "function.__dict__#set"]) :: (nat_lit 1178, fs (.type "getset_descriptor") [S "__weakref__" 1772, .ref 1176, .builtin "ExceptionGroup.__weakref__", .none]) :: (nat_lit 1181, t0) :: (nat_lit 1183, ts 1782 ["name", "at"]) :: (nat_lit 1184, t0) :: (nat_lit 1186, co "base_of" "base_of" 1779 508 1 0 0 3 1181 true 1182 .none (.ref 1183) (.ref 1184) (.ref 1185) 1784) :: (nat_lit 1187, fq (st 74) (.type "function") "base_of" 3 .none (S "lazycore.fresh" 1777) (.ref 1186)) :: (nat_lit 1195, t0) :: (nat_lit 1196, tu [.ref 1195]) :: (nat_lit 1197, t0) :: (nat_lit 1199, ts 1802 ["self", "avoided"]) :: (nat_lit 1200, t0) :: (nat_lit 1202, co "__init__" "Fresh.__init__" 1799 513 2 0 0 3 1197 true 1198 .none (.ref 1199) (.ref 1200) (.ref 1201) 1804) :: (nat_lit 1203, fq (me 75 0) (.type "function") "Fresh.__init__" 3 (.ref 1196) (S "lazycore.fresh" 1777) (.ref 1202)) :: (nat_lit 1204, t0) :: (nat_lit 1206, ts 1810 ["self", "names", "name"]) :: (nat_lit 1207, t0) :: (nat_lit 1209, co "avoid" "Fresh.avoid" 1807 518 2 0 0 3 1204 true 1205 .none (.ref 1206) (.ref 1207) (.ref 1208) 1813) :: (nat_lit 1210, fq (me 75 1) (.type "function") "Fresh.avoid" 3 .none (S "lazycore.fresh" 1777) (.ref 1209)) :: (nat_lit 1211, t0) :: (nat_lit 1213, ts 1819 ["self", "base", "told", "number"]) :: (nat_lit 1214, t0) :: (nat_lit 1216, co "next" "Fresh.next" 1816 522 2 0 0 3 1211 true 1212 .none (.ref 1213) (.ref 1214) (.ref 1215) 1823) :: (nat_lit 1217, fq (me 75 2) (.type "function") "Fresh.next" 3 .none (S "lazycore.fresh" 1777) (.ref 1216)) :: (nat_lit 1218, ts 1826 ["avoided", "numbers"]) :: (nat_lit 1219, di [e P "__module__" 1794 (S "lazycore.fresh" 1777), e P "__firstlineno__" 1798 (I (511) 1797), e P "__init__" 1806 (.ref 1203), e P "avoid" 1815 (.ref 1210), e P "next" 1825 (.ref 1217), e P "__static_attributes__" 1828 (.ref 1218), e P "__dict__" 1830 (.ref 1221), e P "__weakref__" 1832 (.ref 1222), e P "__doc__" 1833 (.none)] 4) :: (nat_lit 1220, Obj.mk (.type "type") none (.cls { name := O "Fresh", bases := [.type "object"], mro := [.ref 1220, .type "object"], ns := 1219, qualname := O "Fresh" }) (List.toArray [none, none, some (S "Fresh" 1787), some (S "Fresh" 1795), some (.builtin "object.__new__"), some (.bool true)])) :: (nat_lit 1221, fs (.type "getset_descriptor") [S "__dict__" 1829, .ref 1220, .builtin "function.__dict__", .builtin "function.__dict__#set"]) :: (nat_lit 1222, fs (.type "getset_descriptor") [S "__weakref__" 1831, .ref 1220, .builtin "ExceptionGroup.__weakref__", .none]) :: (nat_lit 1225, t0) :: (nat_lit 1227, ts 1841 ["script", "big", "mixed", "k"]) :: (nat_lit 1228, t0) :: (nat_lit 1230, co "_law_pool" "_law_pool" 1838 530 1 0 0 3 1225 true 1226 .none (.ref 1227) (.ref 1228) (.ref 1229) 1845) :: (nat_lit 1231, fq (st 77) (.type "function") "_law_pool" 3 .none (S "law_np0253_01" 1836) (.ref 1230)) :: (nat_lit 1232, t0) :: (nat_lit 1234, ts 1851 ["source", "top", "digit"]) :: (nat_lit 1235, t0) :: (nat_lit 1237, co "_law_take" "_law_take" 1848 538 2 0 0 3 1232 true 1233 .none (.ref 1234) (.ref 1235) (.ref 1236) 1854) :: (nat_lit 1238, fq (st 78) (.type "function") "_law_take" 3 .none (S "law_np0253_01" 1836) (.ref 1237)) :: (nat_lit 1239, t0) :: (nat_lit 1241, ts 1860 ["names", "number", "found", "name"]) :: (nat_lit 1242, t0) :: (nat_lit 1244, co "_law_number" "_law_number" 1857 545 2 0 0 3 1239 true 1240 .none (.ref 1241) (.ref 1242) (.ref 1243) 1864) :: (nat_lit 1245, fq (st 79) (.type "function") "_law_number" 3 .none (S "law_np0253_01" 1836) (.ref 1244)) :: (nat_lit 1246, t0) :: (nat_lit 1248, ts 1870 ["maker", "told", "found", "item", "core"]) :: (nat_lit 1249, t0) :: (nat_lit 1251, co "_law_core" "_law_core" 1867 550 2 0 0 3 1246 true 1247 .none (.ref 1248) (.ref 1249) (.ref 1250) 1875) :: (nat_lit 1252, fq (st 80) (.type "function") "_law_core" 3 .none (S "law_np0253_01" 1836) (.ref 1251)) :: (nat_lit 1253, t0) :: (nat_lit 1255, ts 1881 ["names", "rows", "fail", "cons", "fresh", "pattern", "body", "first", "second"]) :: (nat_lit 1256, t0) :: (nat_lit 1258, co "_law_matched" "_law_matched" 1878 560 5 0 0 3 1253 true 1254 .none (.ref 1255) (.ref 1256) (.ref 1257) 1890) :: (nat_lit 1259, fq (st 81) (.type "function") "_law_matched" 3 .none (S "law_np0253_01" 1836) (.ref 1258)) :: (nat_lit 1260, t0) :: (nat_lit 1262, ts 1896 ["known", "more", "found"]) :: (nat_lit 1263, t0) :: (nat_lit 1265, co "_law_with" "_law_with" 1893 572 2 0 0 3 1260 true 1261 .none (.ref 1262) (.ref 1263) (.ref 1264) 1899) :: (nat_lit 1266, fq (st 82) (.type "function") "_law_with" 3 .none (S "law_np0253_01" 1836) (.ref 1265)) :: (nat_lit 1267, t0) :: (nat_lit 1270, co "_law_value" "_law_value" 1902 576 2 0 0 3 1267 true 1268 .none .none .none (.ref 1269) 1905) :: (nat_lit 1271, fq (st 83) (.type "function") "_law_value" 3 .none (S "law_np0253_01" 1836) (.ref 1270)) :: (nat_lit 1272, t0) :: (nat_lit 1274, ts 1911 ["core", "env", "value", "place", "alt", "name", "field"]) :: (nat_lit 1275, t0) :: (nat_lit 1277, co "_law_chosen" "_law_chosen" 1908 600 2 0 0 3 1272 true 1273 .none (.ref 1274) (.ref 1275) (.ref 1276) 1918) :: (nat_lit 1278, fq (st 84) (.type "function") "_law_chosen" 3 .none (S "law_np0253_01" 1836) (.ref 1277)) :: (nat_lit 1279, t0) :: (nat_lit 1281, ts 1924 ["core", "found", "value"]) :: (nat_lit 1282, t0) :: (nat_lit 1284, co "_law_items" "_law_items" 1921 613 1 0 0 3 1279 true 1280 .none (.ref 1281) (.ref 1282) (.ref 1283) 1927) :: (nat_lit 1285, fq (st 85) (.type "function") "_law_items" 3 .none (S "law_np0253_01" 1836) (.ref 1284)) :: (nat_lit 1286, t0) :: (nat_lit 1289, co "_law_statements" "_law_statements" 1930 619 1 0 0 3 1286 true 1287 .none .none .none (.ref 1288) 1933) :: (nat_lit 1290, fq (st 86) (.type "function") "_law_statements" 3 .none (S "law_np0253_01" 1836) (.ref 1289)) :: (nat_lit 1291, t0) :: (nat_lit 1293, ts 1939 ["source", "turn", "names", "is_pair", "way", "items", "step", "one", "other", "name"]) :: (nat_lit 1294, t0) :: (nat_lit 1296, co "_law_draw" "_law_draw" 1936 632 3 0 0 3 1291 true 1292 .none (.ref 1293) (.ref 1294) (.ref 1295) 1949) :: (nat_lit 1297, fq (st 87) (.type "function") "_law_draw" 3 .none (S "law_np0253_01" 1836) (.ref 1296)) :: (nat_lit 1298, t0) :: (nat_lit 1300, ts 1955 ["told"]) :: (nat_lit 1301, t0) :: (nat_lit 1303, co "_law_pattern" "_law_pattern" 1952 650 1 0 0 3 1298 true 1299 .none (.ref 1300) (.ref 1301) (.ref 1302) 1956) :: (nat_lit 1304, fq (st 88) (.type "function") "_law_pattern" 3 .none (S "law_np0253_01" 1836) (.ref 1303)) :: (nat_lit 1305, t0) :: (nat_lit 1307, ts 1962 ["row", "bind", "binds"]) :: (nat_lit 1308, t0) :: (nat_lit 1310, co "_law_statement" "_law_statement" 1959 658 1 0 0 3 1305 true 1306 .none (.ref 1307) (.ref 1308) (.ref 1309) 1965) :: (nat_lit 1311, fq (st 89) (.type "function") "_law_statement" 3 .none (S "law_np0253_01" 1836) (.ref 1310)) :: (nat_lit 1312, t0) :: (nat_lit 1314, ts 1971 ["told", "item"]) :: (nat_lit 1315, t0) :: (nat_lit 1317, co "_law_taken" "_law_taken" 1968 667 2 0 0 3 1312 true 1313 .none (.ref 1314) (.ref 1315) (.ref 1316) 1973) :: (nat_lit 1318, fq (st 90) (.type "function") "_law_taken" 3 .none (S "law_np0253_01" 1836) (.ref 1317)) :: (nat_lit 1319, t0) :: (nat_lit 1322, co "_law_loops" "_law_loops" 1976 675 5 0 0 3 1319 true 1320 .none .none .none (.ref 1321) 1979) :: (nat_lit 1323, fq (st 91) (.type "function") "_law_loops" 3 .none (S "law_np0253_01" 1836) (.ref 1322)) :: (nat_lit 1324, t0) :: (nat_lit 1327, co "law" "law" 1982 690 1 0 0 3 1324 true 1325 .none .none .none (.ref 1326) 1985) :: (nat_lit 1328, fq (st 92) (.type "function") "law" 3 .none (S "law_np0253_01" 1836) (.ref 1327)) :: []
noncomputable def KA : List Addr := [nat_lit 2, nat_lit 3, nat_lit 15, nat_lit 17, nat_lit 18, nat_lit 20, nat_lit 21, nat_lit 29, nat_lit 31, nat_lit 32, nat_lit 34, nat_lit 35, nat_lit 36, nat_lit 37, nat_lit 38, nat_lit 39, nat_lit 40, nat_lit 50, nat_lit 52, nat_lit 53, nat_lit 55, nat_lit 56, nat_lit 57, nat_lit 59, nat_lit 60, nat_lit 62, nat_lit 63, nat_lit 64, nat_lit 66, nat_lit 67, nat_lit 69, nat_lit 70, nat_lit 71, nat_lit 73, nat_lit 74, nat_lit 76, nat_lit 77, nat_lit 78, nat_lit 79, nat_lit 80, nat_lit 81, nat_lit 82, nat_lit 92, nat_lit 94, nat_lit 95, nat_lit 97, nat_lit 98, nat_lit 99, nat_lit 101, nat_lit 102, nat_lit 104, nat_lit 105, nat_lit 106, nat_lit 108, nat_lit 109, nat_lit 111, nat_lit 112, nat_lit 113, nat_lit 115, nat_lit 116, nat_lit 118, nat_lit 119, nat_lit 120, nat_lit 121, nat_lit 122, nat_lit 123, nat_lit 124, nat_lit 134, nat_lit 136, nat_lit 137, nat_lit 139, nat_lit 140, nat_lit 141, nat_lit 143, nat_lit 144, nat_lit 146, nat_lit 147, nat_lit 148, nat_lit 151, nat_lit 152, nat_lit 153, nat_lit 155, nat_lit 156, nat_lit 158, nat_lit 159, nat_lit 160, nat_lit 161, nat_lit 162, nat_lit 163, nat_lit 164, nat_lit 174, nat_lit 176, nat_lit 177, nat_lit 179, nat_lit 180, nat_lit 181, nat_lit 183, nat_lit 184, nat_lit 186, nat_lit 187, nat_lit 188, nat_lit 190, nat_lit 191, nat_lit 193, nat_lit 194, nat_lit 195, nat_lit 197, nat_lit 198, nat_lit 200, nat_lit 201, nat_lit 202, nat_lit 203, nat_lit 204, nat_lit 205, nat_lit 206, nat_lit 216, nat_lit 218, nat_lit 219, nat_lit 221, nat_lit 222, nat_lit 223, nat_lit 226, nat_lit 227, nat_lit 228, nat_lit 231, nat_lit 232, nat_lit 233, nat_lit 235, nat_lit 236, nat_lit 238, nat_lit 239, nat_lit 240, nat_lit 241, nat_lit 242, nat_lit 243, nat_lit 244, nat_lit 254, nat_lit 256, nat_lit 257, nat_lit 259, nat_lit 260, nat_lit 261, nat_lit 262, nat_lit 263, nat_lit 264, nat_lit 265, nat_lit 275, nat_lit 277, nat_lit 278, nat_lit 280, nat_lit 281, nat_lit 282, nat_lit 285, nat_lit 286, nat_lit 287, nat_lit 289, nat_lit 290, nat_lit 292, nat_lit 293, nat_lit 294, nat_lit 296, nat_lit 297, nat_lit 299, nat_lit 300, nat_lit 301, nat_lit 302, nat_lit 303, nat_lit 304, nat_lit 305, nat_lit 315, nat_lit 317, nat_lit 318, nat_lit 320, nat_lit 321, nat_lit 322, nat_lit 324, nat_lit 325, nat_lit 327, nat_lit 328, nat_lit 329, nat_lit 332, nat_lit 333, nat_lit 334, nat_lit 336, nat_lit 337, nat_lit 339, nat_lit 340, nat_lit 341, nat_lit 342, nat_lit 343, nat_lit 344, nat_lit 345, nat_lit 355, nat_lit 357, nat_lit 358, nat_lit 360, nat_lit 361, nat_lit 362, nat_lit 364, nat_lit 365, nat_lit 367, nat_lit 368, nat_lit 369, nat_lit 372, nat_lit 373, nat_lit 374, nat_lit 376, nat_lit 377, nat_lit 379, nat_lit 380, nat_lit 381, nat_lit 382, nat_lit 383, nat_lit 384, nat_lit 385, nat_lit 388, nat_lit 390, nat_lit 391, nat_lit 393, nat_lit 394, nat_lit 395, nat_lit 397, nat_lit 398, nat_lit 400, nat_lit 401, nat_lit 402, nat_lit 404, nat_lit 405, nat_lit 407, nat_lit 408, nat_lit 409, nat_lit 412, nat_lit 413, nat_lit 421, nat_lit 423, nat_lit 424, nat_lit 426, nat_lit 427, nat_lit 428, nat_lit 430, nat_lit 431, nat_lit 433, nat_lit 434, nat_lit 435, nat_lit 436, nat_lit 437, nat_lit 438, nat_lit 439, nat_lit 442, nat_lit 449, nat_lit 450, nat_lit 452, nat_lit 453, nat_lit 455, nat_lit 456, nat_lit 457, nat_lit 459, nat_lit 460, nat_lit 462, nat_lit 463, nat_lit 464, nat_lit 465, nat_lit 466, nat_lit 469, nat_lit 476, nat_lit 477, nat_lit 479, nat_lit 480, nat_lit 482, nat_lit 483, nat_lit 484, nat_lit 486, nat_lit 487, nat_lit 489, nat_lit 490, nat_lit 491, nat_lit 492, nat_lit 493, nat_lit 496, nat_lit 503, nat_lit 504, nat_lit 506, nat_lit 507, nat_lit 509, nat_lit 510, nat_lit 511, nat_lit 514, nat_lit 515, nat_lit 516, nat_lit 517, nat_lit 518, nat_lit 521, nat_lit 528, nat_lit 529, nat_lit 531, nat_lit 532, nat_lit 534, nat_lit 535, nat_lit 536, nat_lit 538, nat_lit 539, nat_lit 541, nat_lit 542, nat_lit 543, nat_lit 544, nat_lit 545, nat_lit 548, nat_lit 555, nat_lit 556, nat_lit 558, nat_lit 559, nat_lit 561, nat_lit 562, nat_lit 563, nat_lit 565, nat_lit 566, nat_lit 568, nat_lit 569, nat_lit 570, nat_lit 571, nat_lit 572, nat_lit 575, nat_lit 582, nat_lit 583, nat_lit 585, nat_lit 586, nat_lit 588, nat_lit 589, nat_lit 590, nat_lit 592, nat_lit 593, nat_lit 595, nat_lit 596, nat_lit 597, nat_lit 598, nat_lit 599, nat_lit 602, nat_lit 609, nat_lit 610, nat_lit 612, nat_lit 613, nat_lit 615, nat_lit 616, nat_lit 617, nat_lit 619, nat_lit 620, nat_lit 622, nat_lit 623, nat_lit 624, nat_lit 625, nat_lit 626, nat_lit 629, nat_lit 636, nat_lit 637, nat_lit 639, nat_lit 640, nat_lit 642, nat_lit 643, nat_lit 644, nat_lit 646, nat_lit 647, nat_lit 649, nat_lit 650, nat_lit 651, nat_lit 652, nat_lit 653, nat_lit 656, nat_lit 663, nat_lit 664, nat_lit 666, nat_lit 667, nat_lit 669, nat_lit 670, nat_lit 671, nat_lit 673, nat_lit 674, nat_lit 676, nat_lit 677, nat_lit 678, nat_lit 679, nat_lit 680, nat_lit 683, nat_lit 690, nat_lit 691, nat_lit 693, nat_lit 694, nat_lit 696, nat_lit 697, nat_lit 698, nat_lit 700, nat_lit 701, nat_lit 703, nat_lit 704, nat_lit 705, nat_lit 706, nat_lit 707, nat_lit 710, nat_lit 717, nat_lit 718, nat_lit 720, nat_lit 721, nat_lit 723, nat_lit 724, nat_lit 725, nat_lit 727, nat_lit 728, nat_lit 730, nat_lit 731, nat_lit 732, nat_lit 733, nat_lit 734, nat_lit 737, nat_lit 744, nat_lit 745, nat_lit 747, nat_lit 748, nat_lit 750, nat_lit 751, nat_lit 752, nat_lit 754, nat_lit 755, nat_lit 757, nat_lit 758, nat_lit 759, nat_lit 760, nat_lit 761, nat_lit 764, nat_lit 771, nat_lit 772, nat_lit 774, nat_lit 775, nat_lit 777, nat_lit 778, nat_lit 779, nat_lit 781, nat_lit 782, nat_lit 784, nat_lit 785, nat_lit 786, nat_lit 787, nat_lit 788, nat_lit 791, nat_lit 798, nat_lit 799, nat_lit 801, nat_lit 802, nat_lit 804, nat_lit 805, nat_lit 806, nat_lit 808, nat_lit 809, nat_lit 811, nat_lit 812, nat_lit 813, nat_lit 814, nat_lit 815, nat_lit 818, nat_lit 825, nat_lit 826, nat_lit 828, nat_lit 829, nat_lit 831, nat_lit 832, nat_lit 833, nat_lit 835, nat_lit 836, nat_lit 838, nat_lit 839, nat_lit 840, nat_lit 841, nat_lit 842, nat_lit 845, nat_lit 852, nat_lit 853, nat_lit 855, nat_lit 856, nat_lit 858, nat_lit 859, nat_lit 860, nat_lit 862, nat_lit 863, nat_lit 865, nat_lit 866, nat_lit 867, nat_lit 868, nat_lit 869, nat_lit 872, nat_lit 879, nat_lit 880, nat_lit 882, nat_lit 883, nat_lit 885, nat_lit 886, nat_lit 887, nat_lit 889, nat_lit 890, nat_lit 892, nat_lit 893, nat_lit 894, nat_lit 895, nat_lit 896, nat_lit 899, nat_lit 906, nat_lit 907, nat_lit 909, nat_lit 910, nat_lit 912, nat_lit 913, nat_lit 914, nat_lit 916, nat_lit 917, nat_lit 919, nat_lit 920, nat_lit 921, nat_lit 922, nat_lit 923, nat_lit 926, nat_lit 933, nat_lit 934, nat_lit 936, nat_lit 937, nat_lit 939, nat_lit 940, nat_lit 941, nat_lit 943, nat_lit 944, nat_lit 946, nat_lit 947, nat_lit 948, nat_lit 949, nat_lit 950, nat_lit 953, nat_lit 955, nat_lit 956, nat_lit 958, nat_lit 959, nat_lit 960, nat_lit 962, nat_lit 963, nat_lit 965, nat_lit 966, nat_lit 967, nat_lit 970, nat_lit 971, nat_lit 979, nat_lit 981, nat_lit 982, nat_lit 984, nat_lit 985, nat_lit 986, nat_lit 988, nat_lit 989, nat_lit 991, nat_lit 992, nat_lit 993, nat_lit 995, nat_lit 996, nat_lit 998, nat_lit 999, nat_lit 1000, nat_lit 1002, nat_lit 1003, nat_lit 1005, nat_lit 1006, nat_lit 1007, nat_lit 1008, nat_lit 1009, nat_lit 1010, nat_lit 1011, nat_lit 1014, nat_lit 1016, nat_lit 1017, nat_lit 1019, nat_lit 1020, nat_lit 1021, nat_lit 1023, nat_lit 1024, nat_lit 1026, nat_lit 1027, nat_lit 1028, nat_lit 1031, nat_lit 1032, nat_lit 1033, nat_lit 1035, nat_lit 1036, nat_lit 1038, nat_lit 1039, nat_lit 1040, nat_lit 1042, nat_lit 1043, nat_lit 1045, nat_lit 1046, nat_lit 1047, nat_lit 1050, nat_lit 1051, nat_lit 1052, nat_lit 1054, nat_lit 1055, nat_lit 1057, nat_lit 1058, nat_lit 1059, nat_lit 1062, nat_lit 1063, nat_lit 1064, nat_lit 1066, nat_lit 1067, nat_lit 1069, nat_lit 1070, nat_lit 1071, nat_lit 1073, nat_lit 1074, nat_lit 1076, nat_lit 1077, nat_lit 1078, nat_lit 1081, nat_lit 1082, nat_lit 1083, nat_lit 1085, nat_lit 1086, nat_lit 1088, nat_lit 1089, nat_lit 1090, nat_lit 1092, nat_lit 1093, nat_lit 1095, nat_lit 1096, nat_lit 1097, nat_lit 1099, nat_lit 1100, nat_lit 1102, nat_lit 1103, nat_lit 1104, nat_lit 1106, nat_lit 1107, nat_lit 1109, nat_lit 1110, nat_lit 1111, nat_lit 1113, nat_lit 1114, nat_lit 1116, nat_lit 1117, nat_lit 1125, nat_lit 1127, nat_lit 1128, nat_lit 1130, nat_lit 1131, nat_lit 1132, nat_lit 1134, nat_lit 1135, nat_lit 1137, nat_lit 1138, nat_lit 1139, nat_lit 1141, nat_lit 1142, nat_lit 1144, nat_lit 1145, nat_lit 1146, nat_lit 1148, nat_lit 1149, nat_lit 1151, nat_lit 1152, nat_lit 1153, nat_lit 1155, nat_lit 1156, nat_lit 1158, nat_lit 1159, nat_lit 1160, nat_lit 1162, nat_lit 1163, nat_lit 1165, nat_lit 1166, nat_lit 1167, nat_lit 1169, nat_lit 1170, nat_lit 1172, nat_lit 1173, nat_lit 1174, nat_lit 1175, nat_lit 1176, nat_lit 1177, nat_lit 1178, nat_lit 1181, nat_lit 1183, nat_lit 1184, nat_lit 1186, nat_lit 1187, nat_lit 1195, nat_lit 1196, nat_lit 1197, nat_lit 1199, nat_lit 1200, nat_lit 1202, nat_lit 1203, nat_lit 1204, nat_lit 1206, nat_lit 1207, nat_lit 1209, nat_lit 1210, nat_lit 1211, nat_lit 1213, nat_lit 1214, nat_lit 1216, nat_lit 1217, nat_lit 1218, nat_lit 1219, nat_lit 1220, nat_lit 1221, nat_lit 1222, nat_lit 1225, nat_lit 1227, nat_lit 1228, nat_lit 1230, nat_lit 1231, nat_lit 1232, nat_lit 1234, nat_lit 1235, nat_lit 1237, nat_lit 1238, nat_lit 1239, nat_lit 1241, nat_lit 1242, nat_lit 1244, nat_lit 1245, nat_lit 1246, nat_lit 1248, nat_lit 1249, nat_lit 1251, nat_lit 1252, nat_lit 1253, nat_lit 1255, nat_lit 1256, nat_lit 1258, nat_lit 1259, nat_lit 1260, nat_lit 1262, nat_lit 1263, nat_lit 1265, nat_lit 1266, nat_lit 1267, nat_lit 1270, nat_lit 1271, nat_lit 1272, nat_lit 1274, nat_lit 1275, nat_lit 1277, nat_lit 1278, nat_lit 1279, nat_lit 1281, nat_lit 1282, nat_lit 1284, nat_lit 1285, nat_lit 1286, nat_lit 1289, nat_lit 1290, nat_lit 1291, nat_lit 1293, nat_lit 1294, nat_lit 1296, nat_lit 1297, nat_lit 1298, nat_lit 1300, nat_lit 1301, nat_lit 1303, nat_lit 1304, nat_lit 1305, nat_lit 1307, nat_lit 1308, nat_lit 1310, nat_lit 1311, nat_lit 1312, nat_lit 1314, nat_lit 1315, nat_lit 1317, nat_lit 1318, nat_lit 1319, nat_lit 1322, nat_lit 1323, nat_lit 1324, nat_lit 1327, nat_lit 1328]
noncomputable abbrev Q (P : Params) (d f g : Obj) (k t : Nat) (os : OsState) : SharedT := ⟨T P d f g, k, {}, #[], {}, t, os⟩
noncomputable def en : Env := { scope := Pg.main.scope, locals := mainNs, globals := mainNs, cells := [], code := .ref 13, frame := some 14 }
noncomputable def cE : Code := .body (behindTheImports Pg) en
noncomputable abbrev p0 : Pos := ⟨0, 0, 0, 0⟩
noncomputable abbrev an : Option Value := some (.ref 6)
noncomputable abbrev sg (w : World) (m : Nat) (s : OsState → SharedT) (t : Thread) (s' : OsState → SharedT) (q : Pos) : Prop := (fun os => PySem.W.Fast.tw10110043849684766642 PySem.W.Fast.tw14364793385576792824 Pg w 11 an 1 m (s os) t) = fun os => some (.next, s' os, cE, q)
theorem sg_of {w : World} {m : Nat} {s s' : OsState → SharedT} {t : Thread} {q : Pos} (h : sg w m s t s' q) (os : OsState) : segRun treeTable Pg w 11 an 1 m (s os).abs t = some (.next, (s' os).abs, cE, q) :=
  segRun_of (by rw [PySem.W.Fast.te10110043849684766642, PySem.W.Fast.te14364793385576792824]; exact congrFun h os)
noncomputable def sl (i k : Nat) : List Stmt := (Pg.main.body.drop i).take k
theorem q0 (w : World) : sg w 2418 (fun os => Q w.params (dB w.params) f0x g5 15 187 os) (piecesOf (sl 0 12) en cE p0 [topFrame p0]) (fun os => Q w.params (d11 w.params) f9x g5 308 591 os) ⟨90, 0, 108, 16⟩ := by kernel_rfl
theorem q1 (w : World) : sg w 2447 (fun os => Q w.params (d11 w.params) f9x g5 308 591 os) (piecesOf (sl 12 16) en cE ⟨90, 0, 108, 16⟩ [topFrame p0]) (fun os => Q w.params (d27 w.params) f21x g5 575 953 os) ⟨219, 0, 219, 9⟩ := by kernel_rfl
theorem q2 (w : World) : sg w 2249 (fun os => Q w.params (d27 w.params) f21x g5 575 953 os) (piecesOf (sl 28 10) en cE ⟨219, 0, 219, 9⟩ [topFrame p0]) (fun os => Q w.params (d37 w.params) f29x g13 791 1225 os) ⟨280, 0, 288, 46⟩ := by kernel_rfl
theorem q3 (w : World) : sg w 2474 (fun os => Q w.params (d37 w.params) f29x g13 791 1225 os) (piecesOf (sl 38 26) en cE ⟨280, 0, 288, 46⟩ [topFrame p0]) (fun os => Q w.params (d63 w.params) f51x g19 1090 1615 os) ⟨441, 0, 446, 15⟩ := by kernel_rfl
theorem q4 (w : World) : sg w 1451 (fun os => Q w.params (d63 w.params) f51x g19 1090 1615 os) (piecesOf (sl 64 29) en cE ⟨441, 0, 446, 15⟩ [topFrame p0]) (fun os => Q w.params (d92 w.params) f74x g19 1329 1988 os) ⟨690, 0, 698, 56⟩ := by kernel_rfl
noncomputable def Hf (P : Params) : Heap := absHeap (T P (d92 P) f74x g19) 1329 {}
noncomputable abbrev R (w : World) (os : OsState) : Shared := ⟨Hf w.params, #[], {}, 1988, os⟩
theorem fin (w : World) (os : OsState) : topRun treeTable Pg w 11 an 2 (Q w.params (d92 w.params) f74x g19 1329 1988 os).abs ⟨doneF .next, cE, ⟨690, 0, 698, 56⟩, [topFrame p0]⟩ = some (R w os) := by kernel_rfl
noncomputable def s5 : List Stmt := []
noncomputable def s4 : List Stmt := sl 64 29 ++ s5
noncomputable def s3 : List Stmt := sl 38 26 ++ s4
noncomputable def s2 : List Stmt := sl 28 10 ++ s3
noncomputable def s1 : List Stmt := sl 12 16 ++ s2
noncomputable def s0 : List Stmt := sl 0 12 ++ s1
noncomputable def m5 : Nat := 2
theorem r5 (w : World) (os : OsState) : topRun treeTable Pg w 11 an m5 (Q w.params (d92 w.params) f74x g19 1329 1988 os).abs (restOf s5 en cE ⟨690, 0, 698, 56⟩ [topFrame p0]) = some (R w os) := piece_nil (fin w os)
noncomputable def m4 : Nat := 1451 + m5
theorem r4 (w : World) (os : OsState) : topRun treeTable Pg w 11 an m4 (Q w.params (d63 w.params) f51x g19 1090 1615 os).abs (restOf s4 en cE ⟨441, 0, 446, 15⟩ [topFrame p0]) = some (R w os) := piece_app (sg_of (q4 w) os) (r5 w os)
noncomputable def m3 : Nat := 2474 + m4
theorem r3 (w : World) (os : OsState) : topRun treeTable Pg w 11 an m3 (Q w.params (d37 w.params) f29x g13 791 1225 os).abs (restOf s3 en cE ⟨280, 0, 288, 46⟩ [topFrame p0]) = some (R w os) := piece_app (sg_of (q3 w) os) (r4 w os)
noncomputable def m2 : Nat := 2249 + m3
theorem r2 (w : World) (os : OsState) : topRun treeTable Pg w 11 an m2 (Q w.params (d27 w.params) f21x g5 575 953 os).abs (restOf s2 en cE ⟨219, 0, 219, 9⟩ [topFrame p0]) = some (R w os) := piece_app (sg_of (q2 w) os) (r3 w os)
noncomputable def m1 : Nat := 2447 + m2
theorem r1 (w : World) (os : OsState) : topRun treeTable Pg w 11 an m1 (Q w.params (d11 w.params) f9x g5 308 591 os).abs (restOf s1 en cE ⟨90, 0, 108, 16⟩ [topFrame p0]) = some (R w os) := piece_app (sg_of (q1 w) os) (r2 w os)
noncomputable def m0 : Nat := 2418 + m1
theorem r0 (w : World) (os : OsState) : topRun treeTable Pg w 11 an m0 (Q w.params (dB w.params) f0x g5 15 187 os).abs (restOf s0 en cE p0 [topFrame p0]) = some (R w os) := piece_app (sg_of (q0 w) os) (r1 w os)
theorem bodyIs : behindTheImports Pg = s0 := by kernel_rfl
noncomputable def Ha (P : Params) : Heap := absHeap (T P (dB P) f0x g5) 15 {}
theorem blk (w : World) (os : OsState) : segRun treeTable Pg w 11 an 1 1 (Q w.params (dB w.params) f0x g5 15 187 os).abs (blockOf (behindTheImports Pg) en cE p0 [topFrame p0]) = some (.next, (Q w.params (dB w.params) f0x g5 15 187 os).abs, cE, p0) := by kernel_rfl
theorem pre (w : World) : (fun os => PySem.W.Fast.tw15667345088766844465 PySem.W.Fast.tw14364793385576792824 Pg w 11 an 12 ⟨boot_heap w.params, #[], boot_drawn, boot_toks, os⟩ (topStub Pg)) = fun os => some ((Q w.params (dB w.params) f0x g5 15 187 os).abs, ⟨PySem.W.Fast.tw11892475500146522536 PySem.W.Fast.tw14364793385576792824 cE, cE, p0, [topFrame p0]⟩) := by kernel_rfl
noncomputable def M : Nat := 12 + (1 + m0)
theorem run (w : World) (os : OsState) : topRun treeTable Pg w 11 an M ⟨boot_heap w.params, #[], boot_drawn, boot_toks, os⟩ (topStub Pg) = some (R w os) :=
  go_top (n := 12) (N := 1 + m0) (s' := (Q w.params (dB w.params) f0x g5 15 187 os).abs) (t' := ⟨denote treeTable cE, cE, p0, [topFrame p0]⟩) (by rw [PySem.W.Fast.te15667345088766844465, PySem.W.Fast.te11892475500146522536, PySem.W.Fast.te14364793385576792824]; exact congrFun (pre w) os) (piece_block (blk w os) (by rw [bodyIs]; exact r0 w os))
end
end Mine.H
end
section
open PySem PySem.W PyProof.Rows
set_option maxHeartbeats 0
namespace Mine.H
noncomputable def pickAt (os : List Obj) : Nat → List Addr → List Obj :=
  List.rec (motive := fun _ => Nat → List Addr → List Obj) (fun _ _ => [])
    (fun o _ ih i as => match as with
      | [] => []
      | a :: r => match Nat.beq i a with
        | true => o :: ih (i + 1) r
        | false => ih (i + 1) (a :: r)) os
theorem pickAt_spec : ∀ (os : List Obj) (i : Nat) (ks : List (Addr × Obj)), pickAt os i (ks.map (·.1)) = ks.map (·.2) → ∀ p ∈ ks, @LE.le Nat _ i p.1 ∧ os[@HSub.hSub Nat Nat Nat _ p.1 i]? = some p.2
  | _, _, [], _, _, hp => nomatch hp
  | [], _, _ :: _, h, _, _ => nomatch h
  | o :: os, i, k :: ks, h, p, hp => by
    have e : pickAt (o :: os) i ((k :: ks).map (·.1)) = match Nat.beq i k.1 with
        | true => o :: pickAt os (i + 1) (ks.map (·.1))
        | false => pickAt os (i + 1) ((k :: ks).map (·.1)) := rfl
    rw [e] at h
    cases hb : Nat.beq i k.1 with
    | true =>
      rw [hb] at h
      have hi : i = k.1 := Nat.eq_of_beq_eq_true hb
      obtain ⟨h1, h2⟩ := List.cons.inj h
      rcases List.mem_cons.mp hp with rfl | hp
      · exact ⟨Nat.le_of_eq hi, by rw [hi, Nat.sub_self]; show some o = _; rw [h1]⟩
      · obtain ⟨a, b⟩ := pickAt_spec os (i + 1) ks h2 p hp
        refine ⟨Nat.le_of_succ_le a, ?_⟩
        have e2 : @HSub.hSub Nat Nat Nat _ p.1 i = @HSub.hSub Nat Nat Nat _ p.1 (i + 1) + 1 := by generalize (p.1 : Nat) = n at a; omega
        rw [e2, List.getElem?_cons_succ]; exact b
    | false =>
      rw [hb] at h
      obtain ⟨a, b⟩ := pickAt_spec os (i + 1) (k :: ks) h p hp
      refine ⟨Nat.le_of_succ_le a, ?_⟩
      have e2 : @HSub.hSub Nat Nat Nat _ p.1 i = @HSub.hSub Nat Nat Nat _ p.1 (i + 1) + 1 := by generalize (p.1 : Nat) = n at a; omega
      rw [e2, List.getElem?_cons_succ]; exact b
theorem lookup_mem {a : Addr} {o : Obj} : ∀ {ks : List (Addr × Obj)}, ks.lookup a = some o → (a, o) ∈ ks
  | (b, x) :: r, h => by
    simp only [List.lookup] at h
    split at h
    · rename_i q; cases h; rw [beq_iff_eq.mp q]; exact .head _
    · exact .tail _ (lookup_mem h)
theorem in_of_pick {K : Params → Frag} {as : List Addr} (e : ∀ P, as = (K P).map (·.1)) (f : ∀ P, ((K P).all fun p => !p.2.isFreed) = true) (w : World) (s : Shared)
    (x : pickAt s.heap.objs.toList 0 as = (K w.params).map (·.2)) : InK K w s.heap := by
  rw [e w.params] at x
  intro a o h
  have hm := lookup_mem h
  obtain ⟨_, hx⟩ := pickAt_spec _ _ _ x _ hm
  have hf := List.all_eq_true.mp (f w.params) _ hm
  have hx' : s.heap.objs[a]? = some o := by simpa using hx
  show (match s.heap.objs[a]? with | some ⟨_, _, .freed, _⟩ => none | o => o) = some o
  rw [hx']
  obtain ⟨c, d, dt, sl⟩ := o
  cases dt <;> first | rfl | exact absurd hf (by simp [Obj.isFreed])
noncomputable def hook (K : Params → Frag) (as : List Addr) (e : ∀ P, as = (K P).map (·.1)) (f : ∀ P, ((K P).all fun p => !p.2.isFreed) = true) (ts : List Addr) : Hook where
  α := List Obj × List (Option Obj)
  obs := fun s => (pickAt s.heap.objs.toList 0 as, ts.map s.heap.get?)
  val := fun w => ((K w.params).map (·.2), ts.map fun _ => some (tabObj #[]))
  says := fun w h => (kmHook K as e ts).says w h
  of := fun w s x => ⟨in_of_pick e f w s (Prod.mk.inj x).1, List.map_inj_left.mp (Prod.mk.inj x).2⟩
  keeps := fun w h h' x k => (kmHook K as e ts).keeps w h h' x k
end Mine.H
namespace Mine.H
section
noncomputable def rm (l : List Stmt) (i : Nat) (r : List Nat) : List Stmt := List.rec (motive := fun _ => Nat → List Nat → List Stmt) (fun _ _ => [])
  (fun a _ ih i r => List.rec (a :: ih (i + 1) []) (fun x r' _ => Bool.rec (a :: ih (i + 1) (x :: r')) (ih (i + 1) r') (Nat.beq x i)) r) l i r
noncomputable def vw : Program := { Pg with main := { Pg.main with body := rm Pg.main.body 0 [1, 3, 15, 18, 34, 44, 49, 65, 71, 73, 76] } }
noncomputable def lo : List Str := [O "Var", O "Var_core", O "Con", O "Con_core", O "FunBind", O "Clause", O "Rhs", O "Binds", O "Var_nodes", O "Con_nodes", O "Comp", O "Generate", O "Say", O "LetSay", O "PVar", O "PWild", O "PLit", O "PCon", O "PTuple", O "PList", O "PAs", O "PLazy", O "PBang", O "Fresh"]
noncomputable def Rw : OpenRow := PySem.Challenge.rw_np0253_01.row
theorem open_ : ∀ w : World, (fencedOpening treeTable Pg w 22194).map (fun s => (s.heap, s.gens, s.drawn, s.toks)) = some (boot_heap w.params, Array.mk [], boot_drawn, boot_toks) :=
  boot_open (by kernel_rfl) (by kernel_rfl) (fun s => by kernel_rfl)
theorem size : ∀ w : World, ((boot_heap w.params).isNs mainGlobals && (Array.mk [] : Array GenState).size == 0, (boot_heap w.params).objs.size, (boot_heap w.params).nsMap mainGlobals "__annotations__") = (true, 11, an) := fun w => by kernel_rfl
theorem le : Nat.ble M 22194 = true := by kernel_rfl
noncomputable def Xt (s : Shared) : Bool := xlAt vw [] s && recOk Rw.records s
theorem both {a b : Bool} (h : a = true) (k : b = true) : (a && b) = true := by rw [h, k]; rfl
theorem pr {α β : Type} {a a' : α} {b b' : β} (h : a = a') (k : b = b') : (a, b) = (a', b') := by rw [h, k]
theorem sn1 (w : World) (os : OsState) : seen ((recsOf vw).map (·.name)) (ownsOf vw) [] { R w os with gens := #[] } = expectedOf vw := by kernel_rfl
theorem sn3a (w : World) (os : OsState) : (R w os).heap.keysOk (looseW vw lo) ((recsOf vw).map (·.name)) ((litsOf vw).map (·.1)) ((clssOf vw (looseW vw lo)).map (·.name)) = true := by kernel_rfl
theorem sn3b (w : World) (os : OsState) : (R w os).heap.accountedOkI (importedModules Pg.main.body) = true := by kernel_rfl
theorem sn4 (w : World) (os : OsState) : tabsOk vw (R w os) = true := by kernel_rfl
theorem sn6 (w : World) (os : OsState) : plainSeenE vw (looseW vw lo) (R w os) = plainGoodE vw (looseW vw lo) := by kernel_rfl
theorem sn8 (w : World) (os : OsState) : (plainSeenD vw lo (R w os), wideSeen vw (R w os), clsSeenW vw lo (R w os)) = (plainGoodD vw lo, wideGood vw, clsGoodW vw lo) := by kernel_rfl
theorem sn5 (w : World) (os : OsState) : pinSeenD vw (drecsOf vw) (R w os) = pinGoodD (drecsOf vw) := by kernel_rfl
theorem sn2 (w : World) (os : OsState) : (R w os).heap.bltView = bltViewBooted := by kernel_rfl
theorem sn3 (w : World) (os : OsState) : ((R w os).heap.isNs mainGlobals && (R w os).heap.isNs builtinsNs && tablesOk vw (R w os).heap && Xt (R w os) && (if true then (R w os).gens.size == 0 else !leftWithCleanup (R w os).gens)) = true := by kernel_rfl
theorem seen_ok (w : World) (os : OsState) : openSeen vw lo (importedModules Pg.main.body) Xt true (R w os) = openGood vw lo := by
  have h := sn3 w os
  simp only [Bool.and_eq_true] at h
  delta openSeen openGood
  exact pr (sn1 w os) (pr (sn2 w os) (pr (both (both (both (both (both (both (sn3a w os) (sn3b w os)) h.1.1.1.1) h.1.1.1.2) h.1.1.2) h.1.2) h.2) (pr (sn4 w os) (pr (sn5 w os) (pr (sn6 w os) (sn8 w os))))))
theorem stat_ok (w : World) (os : OsState) : (staticsOk (importedModules Pg.main.body) (boot_heap w.params) (Hf w.params) && namesBound Pg (Hf w.params) && gensDone (R w os) && laidKept (boot_heap w.params) (Hf w.params)) = true := by kernel_rfl
theorem left_of {α : Type} {Yf : Shared → α} {Ya : World → α} (y : ∀ w os, Yf (R w os) = Ya w) : LeftO Pg vw lo Xt Yf Ya 22194 :=
  LeftO.of_pieces open_ size run le fun w => funext fun os => looks_pair (stat_ok w os) (looks_pair (seen_ok w os) (y w os))
theorem said : PySem.Challenge.rw_np0253_01.wellSaid = true := by
  delta OpenLaw.wellSaid
  repeat' first | with_reducible refine both ?_ ?_ | ((with_reducible show OpenRow.wellSaid _ = true); delta OpenRow.wellSaid) | ((with_reducible show OpenRow.partSaid _ = true); delta OpenRow.partSaid) | ((with_reducible show looksOpen _ = true); delta looksOpen)
  all_goals decide +kernel
theorem hX (s : Shared) (h : Xt s = true) : XL vw [] (s.heap.nsMap mainGlobals) s.heap := xl_of s (Bool.and_eq_true_iff.mp h).1
theorem hR (s : Shared) (h : Xt s = true) : RecFacts Rw.records s.heap := recFacts_of (Bool.and_eq_true_iff.mp h).2
theorem KE (P : Params) : KA = (KK P).map (·.1) := by kernel_rfl
theorem KF (P : Params) : ((KK P).all fun p => !p.2.isFreed) = true := by kernel_rfl
noncomputable abbrev hk : Hook := hook KK KA KE KF [1112, 1053, 1041]
theorem look (w : World) (os : OsState) : hk.obs (R w os) = hk.val w := by kernel_rfl
theorem well : (chainsOk vw && opensWell Rw.prog && (frees Rw.toRowW && Rw.within.isEmpty)) = true := by decide +kernel
theorem bare : Rw.prog.bare := ⟨rfl, rfl, rfl, rfl, rfl, by decide +kernel⟩
end
end Mine.H
end
section
open PySem PySem.W PyProof.Rows
set_option maxHeartbeats 0
namespace Mine.H
section
theorem prom : PySem.Challenge.rw_np0253_01.row.toRowW.promised := by w_witness2
theorem hd {d : DefRec} {kwd : List (Str × PySem.Expr)} (e1 : defOf vw PySem.Challenge.rw_np0253_01.row.name = some (d, kwd)) (e2 : PySem.Challenge.rw_np0253_01.row.prog.theDef PySem.Challenge.rw_np0253_01.row.name = some (d.params, d.body, d.scope)) (e3 : kwWritten? d.params.kwonlyargs d.params.kw_defaults = some kwd)
    (call : WalkO vw lo (XL vw []) hk.says PySem.Challenge.rw_np0253_01.row.toRowW d kwd fun f vs => PySem.call f vs) : PySem.Challenge.rw_np0253_01.Holds :=
  holds_law said fun said => holds_open (r := PySem.Challenge.rw_np0253_01.row) (left_of look) hk.of hk.keeps hX XL.keeps e1 e2 e3 hR rfl said well bare prom call
end
end Mine.H
end
section
open PySem PySem.W PyProof.Rows
theorem Mine.fill : PySem.Challenge.rw_np0253_01 = PySem.Challenge.rw_np0253_01 ∧ Mine.H.KK = Mine.H.KK := by
  k_fill
  exact ⟨rfl, rfl⟩
end
section
open PySem PySem.W PyProof.Rows PySem.Spec PySem.Calls
set_option genSizeOf false
namespace Mine
noncomputable abbrev Nm := PySem.Str
inductive Core where
  | lit (k : Int)
  | var (x : Nm)
  | con0 (n : Nm)
  | con2 (n : Nm) (a b : Core)
  | lam (x : Nm) (b : Core)
  | letr (x : Nm) (e b : Core)
  | letn (x : Nm) (e b : Core)
  | add (a b : Core)
  | lt (a b : Core)
  | app (f a : Core)
  | cLit (v : Core) (k : Int) (t o : Core)
  | cPair (v : Core) (x y : Nm) (t o : Core)
  | cTrue (v t o : Core)
  | cList (v e : Core) (h r : Nm) (t : Core)
inductive Env where
  | nil
  | bind (x : Nm) (c : Core) (ρc : Env) (rest : Env)
  | recb (x : Nm) (c : Core) (rest : Env)
noncomputable def Env.len : Env → Nat
  | .nil => 0
  | .bind _ _ _ r => r.len + 1
  | .recb _ _ r => r.len + 1
noncomputable def Env.look : Env → Nm → Option (Core × Env)
  | .nil, _ => none
  | .bind x c ρc r, y => if y = x then some (c, ρc) else r.look y
  | .recb x c r, y => if y = x then some (c, .recb x c r) else r.look y
inductive Val where
  | int (k : Int)
  | con0 (n : Nm)
  | con2 (n : Nm) (a b : Core) (ρ : Env)
  | fn (x : Nm) (b : Core) (ρ : Env)
noncomputable def Small (ρ : Env) : Prop := ρ.len ≤ 200
inductive Ev : Nat → Core → Env → Val → Prop where
  | lit {n k ρ} : Ev (n+1) (.lit k) ρ (.int k)
  | var {n x ρ c ρ' v} : ρ.look x = some (c, ρ') → Ev n c ρ' v → Ev (n+1) (.var x) ρ v
  | con0 {n nm ρ} : Ev (n+1) (.con0 nm) ρ (.con0 nm)
  | con2 {n nm a b ρ} : Ev (n+1) (.con2 nm a b) ρ (.con2 nm a b ρ)
  | lam {n x b ρ} : Ev (n+1) (.lam x b) ρ (.fn x b ρ)
  | letr {n x e b ρ v} : Small ρ → Ev n b (.recb x e ρ) v → Ev (n+1) (.letr x e b) ρ v
  | letn {n x e b ρ v} : Small ρ → Ev n b (.bind x e ρ ρ) v → Ev (n+1) (.letn x e b) ρ v
  | add {n a b ρ i j} : Ev n a ρ (.int i) → Ev n b ρ (.int j) → Ev (n+1) (.add a b) ρ (.int (i + j))
  | lt {n a b ρ i j} : Ev n a ρ (.int i) → Ev n b ρ (.int j) → Ev (n+1) (.lt a b) ρ (.con0 (if i < j then "Prelude.True" else "Prelude.False"))
  | app {n f a ρ x b ρ' v} : Small ρ' → Ev n f ρ (.fn x b ρ') → Ev n b (.bind x a ρ ρ') v → Ev (n+1) (.app f a) ρ v
  | cLitT {n s k t o ρ v} : Small ρ → Ev n s ρ (.int k) → Ev n t (.bind "w" (.lit k) .nil ρ) v → Ev (n+2) (.cLit s k t o) ρ v
  | cLitF {n s k j t o ρ v} : Small ρ → Ev n s ρ (.int j) → j ≠ k → Ev n o (.bind "w" (.lit j) .nil ρ) v → Ev (n+2) (.cLit s k t o) ρ v
  | cPair {n s x y t o ρ a b ρ' v} : Small ρ → Ev n s ρ (.con2 "(,)" a b ρ') → Ev n t (.bind y b ρ' (.bind x a ρ' ρ)) v → Ev (n+2) (.cPair s x y t o) ρ v
  | cTrueT {n s t o ρ v} : Small ρ → Ev n s ρ (.con0 "Prelude.True") → Ev n t ρ v → Ev (n+2) (.cTrue s t o) ρ v
  | cTrueF {n s t o ρ v} : Small ρ → Ev n s ρ (.con0 "Prelude.False") → Ev n o ρ v → Ev (n+2) (.cTrue s t o) ρ v
  | cNil {n s e h r t ρ v} : Small ρ → Ev n s ρ (.con0 "[]") → Ev n e ρ v → Ev (n+2) (.cList s e h r t) ρ v
  | cCons {n s e h r t ρ a b ρ' v} : Small ρ → Ev n s ρ (.con2 ":" a b ρ') → Ev n t (.bind r b ρ' (.bind h a ρ' ρ)) v → Ev (n+2) (.cList s e h r t) ρ v
noncomputable abbrev Led := List (Addr × Obj)
noncomputable abbrev listO (vs : List Value) (n : Nat) : Obj := { cls := .type "list", data := .seq vs.toArray n }
noncomputable abbrev tupO (vs : List Value) (n : Nat) : Obj := { cls := .type "tuple", data := .seq vs.toArray n }
noncomputable abbrev at_ (w : World) (x : Str) (t : Tok) (v : Value) : DictEntry := ⟨PyData.keyHash w.params x, .str x t, v⟩
section
variable (w : World)
inductive CoreIn (news : Led) : Addr → Core → Prop where
  | lit {a d k t1 t2 t3 t4} : (a, instObj 122 d) ∈ news → (d, dictOf [at_ w "kind" t1 (.str "int" t2), at_ w "value" t3 (.int k t4)] 2) ∈ news → CoreIn news a (.lit k)
  | var {a d x t1 t2} : (a, instObj 80 d) ∈ news → (d, dictOf [at_ w "name" t1 (.str x t2)] 1) ∈ news → CoreIn news a (.var x)
  | con0 {a d l nm t1 t2 t3 n} : (a, instObj 343 d) ∈ news → (d, dictOf [at_ w "name" t1 (.str nm t2), at_ w "args" t3 (.ref l)] 2) ∈ news → (l, listO [] n) ∈ news → CoreIn news a (.con0 nm)
  | con2 {a d l nm t1 t2 t3 n x y cx cy} : (a, instObj 343 d) ∈ news → (d, dictOf [at_ w "name" t1 (.str nm t2), at_ w "args" t3 (.ref l)] 2) ∈ news → (l, listO [.ref x, .ref y] n) ∈ news → CoreIn news x cx → CoreIn news y cy → CoreIn news a (.con2 nm cx cy)
  | lam {a d l x t1 t2 t3 n b cb} : (a, instObj 204 d) ∈ news → (d, dictOf [at_ w "params" t1 (.ref l), at_ w "body" t2 (.ref b)] 2) ∈ news → (l, listO [.str x t3] n) ∈ news → CoreIn news b cb → CoreIn news a (.lam x cb)
  | letr {a d l p x t1 t2 t3 t4 n n' e b ce cb} : (a, instObj 242 d) ∈ news → (d, dictOf [at_ w "binds" t1 (.ref l), at_ w "body" t2 (.ref b), at_ w "is_rec" t3 (.bool true)] 3) ∈ news →
      (l, listO [.ref p] n) ∈ news → (p, tupO [.str x t4, .ref e] n') ∈ news → CoreIn news e ce → CoreIn news b cb → CoreIn news a (.letr x ce cb)
  | letn {a d l p x t1 t2 t3 t4 n n' e b ce cb} : (a, instObj 242 d) ∈ news → (d, dictOf [at_ w "binds" t1 (.ref l), at_ w "body" t2 (.ref b), at_ w "is_rec" t3 (.bool false)] 3) ∈ news →
      (l, listO [.ref p] n) ∈ news → (p, tupO [.str x t4, .ref e] n') ∈ news → CoreIn news e ce → CoreIn news b cb → CoreIn news a (.letn x ce cb)
  | add {a d l t1 t2 t3 n x y cx cy} : (a, instObj 383 d) ∈ news → (d, dictOf [at_ w "op" t1 (.str "intAdd" t2), at_ w "args" t3 (.ref l)] 2) ∈ news → (l, listO [.ref x, .ref y] n) ∈ news → CoreIn news x cx → CoreIn news y cy → CoreIn news a (.add cx cy)
  | lt {a d l t1 t2 t3 n x y cx cy} : (a, instObj 383 d) ∈ news → (d, dictOf [at_ w "op" t1 (.str "intLt" t2), at_ w "args" t3 (.ref l)] 2) ∈ news → (l, listO [.ref x, .ref y] n) ∈ news → CoreIn news x cx → CoreIn news y cy → CoreIn news a (.lt cx cy)
  | app {a d l t1 t2 n f x cf cx} : (a, instObj 162 d) ∈ news → (d, dictOf [at_ w "fun" t1 (.ref f), at_ w "args" t2 (.ref l)] 2) ∈ news → (l, listO [.ref x] n) ∈ news → CoreIn news f cf → CoreIn news x cx → CoreIn news a (.app cf cx)
  | cLit {a d l k s e u ad ns o kk cs ct co t1 t2 t3 t4 t5 t6 t7 t8 t9 t10 t11 n1 n2 n3} : (a, instObj 303 d) ∈ news →
      (d, dictOf [at_ w "value" t1 (.ref s), at_ w "name" t2 (.str "w" t3), at_ w "alts" t4 (.ref l), at_ w "other" t5 (.ref o)] 4) ∈ news →
      (l, listO [.ref e] n1) ∈ news → (e, instObj 263 ad) ∈ news → (ad, dictOf [at_ w "key" t6 (.ref k), at_ w "names" t7 (.ref ns), at_ w "body" t8 (.ref u)] 3) ∈ news →
      (k, tupO [.str "lit" t9, .str "int" t10, .int kk t11] n2) ∈ news → (ns, listO [] n3) ∈ news →
      CoreIn news s cs → CoreIn news u ct → CoreIn news o co → CoreIn news a (.cLit cs kk ct co)
  | cPair {a d l k s e u ad ns o x y cs ct co t1 t2 t3 t4 t5 t6 t7 t8 t9 t10 t11 t12 n1 n2 n3} : (a, instObj 303 d) ∈ news →
      (d, dictOf [at_ w "value" t1 (.ref s), at_ w "name" t2 (.str "w" t3), at_ w "alts" t4 (.ref l), at_ w "other" t5 (.ref o)] 4) ∈ news →
      (l, listO [.ref e] n1) ∈ news → (e, instObj 263 ad) ∈ news → (ad, dictOf [at_ w "key" t6 (.ref k), at_ w "names" t7 (.ref ns), at_ w "body" t8 (.ref u)] 3) ∈ news →
      (k, tupO [.str "con" t9, .str "(,)" t10] n2) ∈ news → (ns, listO [.str x t11, .str y t12] n3) ∈ news →
      CoreIn news s cs → CoreIn news u ct → CoreIn news o co → CoreIn news a (.cPair cs x y ct co)
  | cTrue {a d l k s e u ad ns o nm cs ct co t1 t2 t3 t4 t5 t6 t7 t8 t9 t10 n1 n2 n3} : (a, instObj 303 d) ∈ news →
      (d, dictOf [at_ w "value" t1 (.ref s), at_ w "name" t2 (.str nm t3), at_ w "alts" t4 (.ref l), at_ w "other" t5 (.ref o)] 4) ∈ news →
      (l, listO [.ref e] n1) ∈ news → (e, instObj 263 ad) ∈ news → (ad, dictOf [at_ w "key" t6 (.ref k), at_ w "names" t7 (.ref ns), at_ w "body" t8 (.ref u)] 3) ∈ news →
      (k, tupO [.str "con" t9, .str "Prelude.True" t10] n2) ∈ news → (ns, listO [] n3) ∈ news →
      CoreIn news s cs → CoreIn news u ct → CoreIn news o co → CoreIn news a (.cTrue cs ct co)
  | cList {a d l k1 k2 s e1 e2 u1 u2 ad1 ad2 ns1 ns2 nm h r cs c1 c2 t1 t2 t3 t4 t5 t6 t7 t8 t9 t10 t11 t12 t13 t14 t15 t16 t17 n1 n2 n3 n4 n5} : (a, instObj 303 d) ∈ news →
      (d, dictOf [at_ w "value" t1 (.ref s), at_ w "name" t2 (.str nm t3), at_ w "alts" t4 (.ref l), at_ w "other" t5 .none] 4) ∈ news →
      (l, listO [.ref e1, .ref e2] n1) ∈ news →
      (e1, instObj 263 ad1) ∈ news → (ad1, dictOf [at_ w "key" t6 (.ref k1), at_ w "names" t7 (.ref ns1), at_ w "body" t8 (.ref u1)] 3) ∈ news →
      (k1, tupO [.str "con" t9, .str "[]" t10] n2) ∈ news → (ns1, listO [] n3) ∈ news →
      (e2, instObj 263 ad2) ∈ news → (ad2, dictOf [at_ w "key" t11 (.ref k2), at_ w "names" t12 (.ref ns2), at_ w "body" t13 (.ref u2)] 3) ∈ news →
      (k2, tupO [.str "con" t14, .str ":" t15] n4) ∈ news → (ns2, listO [.str h t16, .str r t17] n5) ∈ news →
      CoreIn news s cs → CoreIn news u1 c1 → CoreIn news u2 c2 → CoreIn news a (.cList cs c1 h r c2)
theorem CoreIn.mono {w : World} {news news' : Led} (hs : ∀ p ∈ news, p ∈ news') {a : Addr} {c : Core} (h : CoreIn w news a c) : CoreIn w news' a c := by
  induction h with
  | lit h1 h2 => exact .lit (hs _ h1) (hs _ h2)
  | var h1 h2 => exact .var (hs _ h1) (hs _ h2)
  | con0 h1 h2 h3 => exact .con0 (hs _ h1) (hs _ h2) (hs _ h3)
  | con2 h1 h2 h3 _ _ i1 i2 => exact .con2 (hs _ h1) (hs _ h2) (hs _ h3) i1 i2
  | lam h1 h2 h3 _ i1 => exact .lam (hs _ h1) (hs _ h2) (hs _ h3) i1
  | letr h1 h2 h3 h4 _ _ i1 i2 => exact .letr (hs _ h1) (hs _ h2) (hs _ h3) (hs _ h4) i1 i2
  | letn h1 h2 h3 h4 _ _ i1 i2 => exact .letn (hs _ h1) (hs _ h2) (hs _ h3) (hs _ h4) i1 i2
  | add h1 h2 h3 _ _ i1 i2 => exact .add (hs _ h1) (hs _ h2) (hs _ h3) i1 i2
  | lt h1 h2 h3 _ _ i1 i2 => exact .lt (hs _ h1) (hs _ h2) (hs _ h3) i1 i2
  | app h1 h2 h3 _ _ i1 i2 => exact .app (hs _ h1) (hs _ h2) (hs _ h3) i1 i2
  | cLit h1 h2 h3 h4 h5 h6 h7 _ _ _ i1 i2 i3 => exact .cLit (hs _ h1) (hs _ h2) (hs _ h3) (hs _ h4) (hs _ h5) (hs _ h6) (hs _ h7) i1 i2 i3
  | cPair h1 h2 h3 h4 h5 h6 h7 _ _ _ i1 i2 i3 => exact .cPair (hs _ h1) (hs _ h2) (hs _ h3) (hs _ h4) (hs _ h5) (hs _ h6) (hs _ h7) i1 i2 i3
  | cTrue h1 h2 h3 h4 h5 h6 h7 _ _ _ i1 i2 i3 => exact .cTrue (hs _ h1) (hs _ h2) (hs _ h3) (hs _ h4) (hs _ h5) (hs _ h6) (hs _ h7) i1 i2 i3
  | cList h1 h2 h3 h4 h5 h6 h7 h8 h9 h10 h11 _ _ _ i1 i2 i3 => exact .cList (hs _ h1) (hs _ h2) (hs _ h3) (hs _ h4) (hs _ h5) (hs _ h6) (hs _ h7) (hs _ h8) (hs _ h9) (hs _ h10) (hs _ h11) i1 i2 i3
end
section
variable (prog : Program) (w : World)
noncomputable def KvsW (news : Led) (W : Addr → Env → Prop) (kvs : List (Str × Value)) (ρ : Env) : Prop :=
  kvs.length ≤ ρ.len ∧ ∀ x c ρ', ρ.look x = some (c, ρ') → ∃ t n va ve, valueAt kvs x = some (.ref t) ∧ (t, tupO [.ref va, .ref ve] n) ∈ news ∧ CoreIn w news va c ∧ W ve ρ'
noncomputable def EnvStep (news : Led) (W : Addr → Env → Prop) (a : Addr) (ρ : Env) : Prop :=
  ∃ o kvs, (a, o) ∈ news ∧ (a == sysModules) = false ∧ o.IsDictOf (strKind prog w) kvs ∧ KvsW w news W kvs ρ
noncomputable def EnvIn (news : Led) (a : Addr) (ρ : Env) : Prop := ∃ W : Addr → Env → Prop, (∀ a ρ, W a ρ → EnvStep prog w news W a ρ) ∧ W a ρ
noncomputable def KvsIn (news : Led) (kvs : List (Str × Value)) (ρ : Env) : Prop := KvsW w news (EnvIn prog w news) kvs ρ
theorem KvsW.mono {w : World} {news news' : Led} {W W' : Addr → Env → Prop} {kvs : List (Str × Value)} {ρ : Env} (hs : ∀ p ∈ news, p ∈ news') (hW : ∀ a ρ, W a ρ → W' a ρ) (h : KvsW w news W kvs ρ) : KvsW w news' W' kvs ρ := by
  refine ⟨h.1, fun x c ρ' hx => ?_⟩
  obtain ⟨t, n, va, ve, e1, e2, e3, e4⟩ := h.2 x c ρ' hx
  exact ⟨t, n, va, ve, e1, hs _ e2, e3.mono hs, hW _ _ e4⟩
theorem EnvStep.mono {prog : Program} {w : World} {news news' : Led} {W W' : Addr → Env → Prop} {a : Addr} {ρ : Env} (hs : ∀ p ∈ news, p ∈ news') (hW : ∀ a ρ, W a ρ → W' a ρ) (h : EnvStep prog w news W a ρ) : EnvStep prog w news' W' a ρ := by
  obtain ⟨o, kvs, h1, h2, h3, h4⟩ := h
  exact ⟨o, kvs, hs _ h1, h2, h3, h4.mono hs hW⟩
theorem EnvIn.mono {prog : Program} {w : World} {news news' : Led} (hs : ∀ p ∈ news, p ∈ news') {a : Addr} {ρ : Env} (h : EnvIn prog w news a ρ) : EnvIn prog w news' a ρ :=
  let ⟨W, hW, ha⟩ := h; ⟨W, fun a ρ h => (hW a ρ h).mono hs fun _ _ h => h, ha⟩
theorem KvsIn.mono {prog : Program} {w : World} {news news' : Led} (hs : ∀ p ∈ news, p ∈ news') {kvs : List (Str × Value)} {ρ : Env} (h : KvsIn prog w news kvs ρ) : KvsIn prog w news' kvs ρ :=
  KvsW.mono hs (fun _ _ h => h.mono hs) h
theorem EnvIn.step {prog : Program} {w : World} {news : Led} {a : Addr} {ρ : Env} (h : EnvIn prog w news a ρ) : EnvStep prog w news (EnvIn prog w news) a ρ :=
  let ⟨W, hW, ha⟩ := h; (hW a ρ ha).mono (fun _ h => h) fun _ _ h => ⟨W, hW, h⟩
theorem EnvIn.of {prog : Program} {w : World} {news : Led} {a : Addr} {ρ : Env} (h : EnvStep prog w news (fun b σ => EnvIn prog w news b σ ∨ (b = a ∧ σ = ρ)) a ρ) : EnvIn prog w news a ρ := by
  refine ⟨fun b σ => EnvIn prog w news b σ ∨ (b = a ∧ σ = ρ), fun b σ hb => ?_, .inr ⟨rfl, rfl⟩⟩
  rcases hb with hb | ⟨rfl, rfl⟩
  · exact hb.step.mono (fun _ h => h) fun _ _ h => .inl h
  · exact h
theorem EnvIn.ofKvs {prog : Program} {w : World} {news : Led} {a : Addr} {ρ : Env} {o : Obj} {kvs : List (Str × Value)} (h1 : (a, o) ∈ news) (h2 : (a == sysModules) = false) (h3 : o.IsDictOf (strKind prog w) kvs) (h4 : KvsIn prog w news kvs ρ) : EnvIn prog w news a ρ :=
  .of ⟨o, kvs, h1, h2, h3, KvsW.mono (fun _ h => h) (fun _ _ h => .inl h) h4⟩
theorem valueAt_stored (kvs : List (Str × Value)) (k x : Str) (v : Value) : valueAt (stored kvs k v) x = if x = k then some v else valueAt kvs x := by
  unfold stored
  by_cases h : (kvs.any fun kv => decide (kv.1 = k)) = true
  · rw [if_pos h]
    unfold valueAt
    induction kvs with
    | nil => simp at h
    | cons p r ih =>
      simp only [List.map_cons, List.find?_cons]
      by_cases hp : p.1 = k
      · simp only [hp, if_true]
        by_cases hx : x = k
        · simp [hx]
        · have : ¬ k = x := fun e => hx e.symm
          simp only [this, decide_false, if_neg hx]
          clear ih h
          induction r with
          | nil => rfl
          | cons q r ih =>
            simp only [List.map_cons, List.find?_cons]
            by_cases hq : q.1 = k
            · simp only [hq, if_true, this, decide_false, ih]
            · simp only [if_neg hq]
              by_cases hqx : q.1 = x
              · simp [hqx]
              · simp only [hqx, decide_false, ih]
      · simp only [if_neg hp]
        have hr : (r.any fun kv => decide (kv.1 = k)) = true := by simpa [hp] using h
        by_cases hpx : p.1 = x
        · have : ¬ x = k := fun e => hp (hpx.trans e)
          simp [hpx, this]
        · simp only [hpx, decide_false]
          exact ih hr
  · rw [if_neg h]
    unfold valueAt
    rw [List.find?_append]
    by_cases hx : x = k
    · subst hx
      have : kvs.find? (fun kv => decide (kv.1 = x)) = none := by
        rw [List.find?_eq_none]
        intro p hp hq
        exact h (List.any_eq_true.mpr ⟨p, hp, hq⟩)
      simp [this]
    · have : ¬ k = x := fun e => hx e.symm
      simp [this, if_neg hx]
theorem stored_len (kvs : List (Str × Value)) (k : Str) (v : Value) : (stored kvs k v).length ≤ kvs.length + 1 := by
  unfold stored; split <;> simp
theorem KvsIn.bind {prog : Program} {w : World} {news : Led} {kvs : List (Str × Value)} {ρ ρc : Env} {x : Nm} {c : Core} {t va ve : Addr} {n : Nat} (h : KvsIn prog w news kvs ρ) (ht : (t, tupO [.ref va, .ref ve] n) ∈ news) (hc : CoreIn w news va c) (he : EnvIn prog w news ve ρc) :
    KvsIn prog w news (stored kvs x (.ref t)) (.bind x c ρc ρ) := by
  refine ⟨Nat.le_trans (stored_len _ _ _) (Nat.succ_le_succ h.1), fun y c' ρ' hy => ?_⟩
  rw [valueAt_stored]
  simp only [Env.look] at hy
  by_cases e : y = x
  · rw [if_pos e] at hy ⊢
    cases hy
    exact ⟨t, n, va, ve, rfl, ht, hc, he⟩
  · rw [if_neg e] at hy ⊢
    exact h.2 y c' ρ' hy
theorem EnvIn.recb {prog : Program} {w : World} {news : Led} {kvs : List (Str × Value)} {ρ : Env} {x : Nm} {c : Core} {t va a : Addr} {n : Nat} {o : Obj} (h1 : (a, o) ∈ news) (h2 : (a == sysModules) = false) (h3 : o.IsDictOf (strKind prog w) (stored kvs x (.ref t))) (h : KvsIn prog w news kvs ρ)
    (ht : (t, tupO [.ref va, .ref a] n) ∈ news) (hc : CoreIn w news va c) : EnvIn prog w news a (.recb x c ρ) := by
  refine .of ⟨o, _, h1, h2, h3, Nat.le_trans (stored_len _ _ _) (Nat.succ_le_succ h.1), fun y c' ρ' hy => ?_⟩
  rw [valueAt_stored]
  simp only [Env.look] at hy
  by_cases e : y = x
  · rw [if_pos e] at hy ⊢
    cases hy
    exact ⟨t, n, va, a, rfl, ht, hc, .inr ⟨rfl, rfl⟩⟩
  · rw [if_neg e] at hy ⊢
    obtain ⟨t, n, va, ve, e1, e2, e3, e4⟩ := h.2 y c' ρ' hy
    exact ⟨t, n, va, ve, e1, e2, e3, .inl e4⟩
theorem KvsIn.nil {prog : Program} {w : World} {news : Led} : KvsIn prog w news [] .nil := ⟨Nat.le_refl _, fun _ _ _ h => nomatch h⟩
theorem KvsIn.small {prog : Program} {w : World} {news : Led} {kvs : List (Str × Value)} {ρ : Env} (h : KvsIn prog w news kvs ρ) (hs : Small ρ) : kvs.length ≤ 200 := Nat.le_trans h.1 hs
inductive ValIn (news : Led) : Value → Val → Prop where
  | int {k t} : ValIn news (.int k t) (.int k)
  | con0 {a nm l t1 t2 n n'} : (a, tupO [.str "con" t1, .str nm t2, .ref l] n) ∈ news → (l, listO [] n') ∈ news → ValIn news (.ref a) (.con0 nm)
  | con2 {a nm l x y e p q cx cy ρ t1 t2 n n' n1 n2} : (a, tupO [.str "con" t1, .str nm t2, .ref l] n) ∈ news → (l, listO [.ref p, .ref q] n') ∈ news → (p, tupO [.ref x, .ref e] n1) ∈ news → (q, tupO [.ref y, .ref e] n2) ∈ news →
      CoreIn w news x cx → CoreIn w news y cy → EnvIn prog w news e ρ → ValIn news (.ref a) (.con2 nm cx cy ρ)
  | fn {a l b e x cb ρ t1 t2 n n'} : (a, tupO [.str "fun" t1, .ref l, .ref b, .ref e] n) ∈ news → (l, listO [.str x t2] n') ∈ news → CoreIn w news b cb → EnvIn prog w news e ρ → ValIn news (.ref a) (.fn x cb ρ)
end
end Mine
end
section
open PySem PySem.W PyProof.Rows PySem.Spec PySem.Calls
namespace Mine
theorem sub_cons {p : Addr × Obj} {l l' : Led} (h : ∀ q ∈ l, q ∈ l') : ∀ q ∈ l, q ∈ p :: l' := fun q hq => List.mem_cons_of_mem _ (h q hq)
theorem sub_app {t l l' : Led} (h : ∀ q ∈ l, q ∈ l') : ∀ q ∈ l, q ∈ t ++ l' := fun q hq => List.mem_append_right _ (h q hq)
theorem sub_refl {l : Led} : ∀ q ∈ l, q ∈ l := fun _ h => h
theorem sub_left {t l : Led} : ∀ q ∈ t, q ∈ t ++ l := fun _ h => List.mem_append_left _ h
noncomputable def Above (l r : Led) : Prop := ∀ q ∈ l, ∀ p ∈ r, p.1 ≠ q.1
theorem Above.nil {r : Led} : Above [] r := fun _ h => nomatch h
theorem Above.cons {d : Addr} {o : Obj} {l r : Led} (h : ∀ p ∈ r, p.1 ≠ d) (k : Above l r) : Above ((d, o) :: l) r := fun q hq p hp => by
  rcases List.mem_cons.mp hq with rfl | hq
  · exact h p hp
  · exact k q hq p hp
theorem Above.app {a l r : Led} (h : Above a r) (k : Above l r) : Above (a ++ l) r := fun q hq p hp => (List.mem_append.mp hq).elim (fun e => h q e p hp) fun e => k q e p hp
theorem Above.mono {l r r' : Led} (h : Above l r) (s : ∀ p ∈ r', p ∈ r) : Above l r' := fun q hq p hp => h q hq p (s p hp)
noncomputable def Pre (n tl base : Led) : Prop := n = tl ++ base
theorem Pre.done {base : Led} : Pre base [] base := rfl
theorem Pre.cons {x : Addr × Obj} {n tl base : Led} (h : Pre n tl base) : Pre (x :: n) (x :: tl) base := by rw [Pre, h]; rfl
theorem Pre.app {t n tl base : Led} (h : Pre n tl base) : Pre (t ++ n) (t ++ tl) base := by rw [Pre, h, List.append_assoc]
theorem Pre.eq {n tl base : Led} (h : Pre n tl base) : n = tl ++ base := h
theorem Pre.mem {n tl base : Led} {q : Addr × Obj} (h : Pre n tl base) (k : q ∈ base) : q ∈ n := by rw [h.eq]; exact List.mem_append_right _ k
theorem Above.pre {t R n tl base : Led} (h : Above t R) (p : Pre n tl base) (s : ∀ q ∈ n, q ∈ R) : Above t base := h.mono fun q hq => s q (p.mem hq)
theorem Above.sub {t R base : Led} (h : Above t R) (s : ∀ q ∈ base, q ∈ R) : Above t base := h.mono s
noncomputable def ValueSpec (prog : Program) (w : World) (n : Nat) (c : Core) (ρ : Env) (r : Val) : Prop :=
  ∀ (p : Program) (loose : List Str) (mean : ExcName → Option Value) (mg mb : Str → Option Value) (dp un : Nat) (gd : Option (List Code)) (cn : Str) (cs : Scope) (ca : Addr) (ccd : Value) (cl : List (Str × Addr)) (outer : List PySem.Env) (A₀ : Around) (base h₀ : Heap) (L : Addr) (m : Str → Option Value) (news : Led) (s : Shared) (vc ve : Addr) (Q E : Value → Shared → Prop),
    Below A₀ base outer h₀ → Fr h₀ L s.heap m → (Mine.H.KK w.params).In h₀ → News h₀ L s.heap news → Top p loose mean mg mb h₀ → cs.kind = .function → CoreIn w news vc c → EnvIn prog w news ve ρ →
    dp + n + 10 < recursionLimit → un + 16 * n + 100 < cLine →
    (∀ v tl h' tk', Fr h₀ L h' m → News h₀ L h' (tl ++ news) → Above tl news → ValIn prog w (tl ++ news) v r → Q v { s with heap := h', toks := tk' }) →
    wpAny (model prog w) (ktrTop dp un gd cn cs L ca ccd cl outer) (call (.ref 1271) [.ref vc, .ref ve]) Q E s
theorem value_use {prog : Program} {w : World} {n : Nat} {c : Core} {ρ : Env} {r : Val} {p : Program} {loose : List Str} {mean : ExcName → Option Value} {mg mb : Str → Option Value} {dp un : Nat} {gd : Option (List Code)} {cn : Str} {cs : Scope} {ca : Addr} {ccd : Value} {cl : List (Str × Addr)} {outer : List PySem.Env} {A₀ : Around} {base h₀ : Heap} {L : Addr} {m : Str → Option Value} {news : Led} {s : Shared} {vc ve : Addr} {Q E : Value → Shared → Prop}
    (B : Below A₀ base outer h₀) (F : Fr h₀ L s.heap m) (X : (Mine.H.KK w.params).In h₀) (N : News h₀ L s.heap news) (T : Top p loose mean mg mb h₀) (hk : cs.kind = .function) (hc : CoreIn w news vc c) (he : EnvIn prog w news ve ρ) (S : ValueSpec prog w n c ρ r)
    (hd : dp + n + 10 < recursionLimit) (hu : un + 16 * n + 100 < cLine)
    (ret : ∀ v tl h' tk', Fr h₀ L h' m → News h₀ L h' (tl ++ news) → Above tl news → ValIn prog w (tl ++ news) v r → Q v { s with heap := h', toks := tk' }) :
    wpAny (model prog w) (ktrTop dp un gd cn cs L ca ccd cl outer) (call (.ref 1271) [.ref vc, .ref ve]) Q E s := S _ _ _ _ _ _ _ _ _ _ _ _ _ _ _ _ _ _ _ _ _ _ _ _ _ B F X N T hk hc he hd hu ret
theorem ValIn.mono {prog : Program} {w : World} {news news' : Led} (hs : ∀ p ∈ news, p ∈ news') {v : Value} {r : Val} (h : ValIn prog w news v r) : ValIn prog w news' v r := by
  cases h with
  | int => exact .int
  | con0 a b => exact .con0 (hs _ a) (hs _ b)
  | con2 a b c d e f g => exact .con2 (hs _ a) (hs _ b) (hs _ c) (hs _ d) (e.mono hs) (f.mono hs) (g.mono hs)
  | fn a b c d => exact .fn (hs _ a) (hs _ b) (c.mono hs) (d.mono hs)
theorem news_of {h₀ h : Heap} {L : Addr} {l l' : Led} (N : News h₀ L h l) (hs : ∀ q ∈ l', q ∈ l) : News h₀ L h (l ++ l') := fun p hp => N p ((List.mem_append.mp hp).elim id (hs p))
theorem end9 {prog : Program} {w : World} {h₀ h' : Heap} {L : Addr} {m : Str → Option Value} {news led tl : Led} {s : Shared} {v : Value} {r : Val} {tk : Nat} {Q : Value → Shared → Prop}
    (ret : ∀ v tl h' tk', Fr h₀ L h' m → News h₀ L h' (tl ++ news) → Above tl news → ValIn prog w (tl ++ news) v r → Q v { s with heap := h', toks := tk' })
    (F : Fr h₀ L h' m) (N : News h₀ L h' led) (P : Pre led tl news) (A : Above tl news) (V : ValIn prog w led v r) : Q v { s with heap := h', toks := tk } := by
  have P := P.eq
  subst P
  exact ret v tl h' tk F N A V
theorem comp_end1 {h₀ : Heap} {L I C D T : Addr} {m : Str → Option Value} {s₁ : Shared} {oI oC oD o : Obj} {S : Led → Prop} {rest : Value → Led → Prop} {y : Value} {h' : Heap} {tk : Nat} {news : Led}
    (F : Fr h₀ L h' m) (N : News h₀ L h' ((T, o) :: (I, oI) :: (C, oC) :: (D, oD) :: news)) (l : AllLt T ((I, oI) :: (C, oC) :: (D, oD) :: news)) (off : LCg.Off3 I C D news) (hS : S ((T, o) :: news)) (r : rest y ((T, o) :: news)) :
    LCg.CompEnd h₀ L m s₁ I oI C oC D oD S rest y { s₁ with heap := h', toks := tk } :=
  LCg.CompEnd.intro F N ((T, o) :: news) (fun p hp => by simp only [List.mem_cons] at hp ⊢; rcases hp with h | h | h | h | h <;> simp [h])
    ⟨⟨Nat.ne_of_gt l.1, Nat.ne_of_gt l.2.1, Nat.ne_of_gt l.2.2.1⟩, off⟩ hS r
theorem env_copy {prog : Program} {w : World} {A : Around} {E : Value → Shared → Prop} {s : Shared} {h₀ : Heap} {L : Addr} {m : Str → Option Value} {news l0 : Led} {d : Addr} {ρ : Env} {Q : Value → Shared → Prop}
    (F : Fr h₀ L s.heap m) (N : News h₀ L s.heap news) (hbig : h₀.NoLimit) (he : EnvIn prog w l0 d ρ) (sub : ∀ q ∈ l0, q ∈ news) (hs : Small ρ)
    (k : ∀ d' h' o' kvs, Fr h₀ L h' m → News h₀ L h' ((d', o') :: news) → (∀ p ∈ news, p.1 < d') → (d' == sysModules) = false → o'.IsDictOf (strKind prog w) kvs → KvsIn prog w l0 kvs ρ → kvs.length ≤ 200 → Q (.ref d') { s with heap := h' }) :
    wpAny (model prog w) A (call (.type "dict") [.ref d]) Q E s := by
  obtain ⟨o, kvs, hp, lo, hd, hk⟩ := he.step
  have hk : KvsIn prog w l0 kvs ρ := hk
  have hp := sub _ hp
  have hsz := hk.small hs
  refine kt_call_dict lo (Heap.dictOf_iff.mpr ⟨o, (N _ hp).1, hd⟩) (by rw [sizeLine_eq]; omega) fun h' hm hs => ?_
  obtain ⟨o', ho', hd'⟩ := Heap.dictOf_iff.mp hm
  have N1 := News.push F N { cls := .type "dict", data := .dict #[] }
  exact k _ h' o' kvs ((F.push _).change hs (N1 _ (.head _)).2.1 (N1.fresh (.head _))) (N1.setHead N.apart hs ho') (fun p hp => Heap.lt_size (N p hp).1) (F.notModules (modules_low hbig)) hd' hk hsz
theorem env_set {prog : Program} {w : World} {A : Around} {E : Value → Shared → Prop} {s : Shared} {h₀ : Heap} {L : Addr} {m : Str → Option Value} {news : Led} {g : Obj → Led} {d : Addr} {o : Obj} {kvs : List (Str × Value)} {x : Str} {t : Tok} {v : Value} {Q : Unit → Shared → Prop}
    (F : Fr h₀ L s.heap m) (N : News h₀ L s.heap news) (U : UpdF d o news g) (hd : o.IsDictOf (strKind prog w) kvs) (hsz : kvs.length ≤ 1000)
    (h : ∀ h' o', Fr h₀ L h' m → News h₀ L h' (g o') → o'.IsDictOf (strKind prog w) (stored kvs x v) → Q () { s with heap := h', toks := s.toks + 1 }) : wpAny (model prog w) A (setItem (.ref d) (.str x t) v) Q E s :=
  kda_set (knd := strKind prog w) F N U hd (strKind_is _ _ _ _) (by rw [sizeLine_eq]; omega) h
end Mine
end
section
open PySem PySem.W PyProof.Rows PySem.Spec PySem.Calls
namespace Mine
theorem zip_getattr_none : typeLookup (.type "zip") "__getattr__" = pure none := by rw [typeLookup_type, builtinLookup_eq_fast]; kernel_rfl
theorem zip_keys_none : typeLookup (.type "zip") "keys" = pure none := by rw [typeLookup_type, builtinLookup_eq_fast]; kernel_rfl
theorem entry_zip_getattribute : entryFor table "zip.__getattribute__" = some Builtin.«object.__getattribute__» :=
  entryFor_alias (id' := "object.__getattribute__") (by kernel_rfl) (by decide +kernel) (by decide +kernel) (by kernel_rfl)
noncomputable abbrev zipO (fs : Array Value) : Obj := { cls := .type "zip", dict := none, data := .fields fs, slots := #[] }
theorem meets_zip_miss (a : Addr) (fs : Array Value) (u : Tok) :
    Meets (Builtin.«object.__getattribute__» ⟨[.ref a, .str "keys" u], []⟩) (fun A R s => s.heap.get? a = some (zipO fs) ∧ raisesAttr (.ref a) "keys" A R s) :=
  Meets.of_wp fun prog w A R s hs => by
    obtain ⟨hp, g, d, tk, os⟩ := s
    obtain ⟨hx, hs⟩ := hs
    have hT : (⟨hp, g, d, tk, os⟩ : Shared).TypeIs (.ref a) "zip" := ⟨_, hx, rfl⟩
    have hmiss := zip_keys_none
    have hname : (["__module__", "__name__", "__qualname__", "__doc__", "__annotations__"] : List Str).contains ("keys" : Str) = false := by decide +kernel
    unfold Builtin.«object.__getattribute__»
    repeat (any_goals (first | assumption | wp_step))
    exact wpAny_raiseAttrError hs.1 hs.2 (attrMsg_fits (by decide +kernel) (by size_fits))
section
variable {prog : Program} {w : World} {A : Around} {E : Value → Shared → Prop} {s : Shared}
theorem zip_no_keys {a : Addr} {fs : Array Value} {Q : Option Value → Shared → Prop} (hx : s.heap.get? a = some (zipO fs)) (hA : A.handled = none)
    (h : ∀ h' tk, (∀ b o, s.heap.get? b = some o → h'.get? b = some o) → Q none { s with heap := h', toks := tk }) :
    wpAny (model prog w) A (getAttr? (.ref a) "keys") Q E s := by
  obtain ⟨hp, g, d, tk, os⟩ := s
  have hT : ∀ tk', (⟨hp, g, d, tk', os⟩ : Shared).TypeIs (.ref a) "zip" := fun _ => ⟨_, hx, rfl⟩
  have f1 := sub_AttributeError
  have f3 := F.slot_zip_getattribute.lookup
  have f4 := F.slot_zip_getattribute.bind (.ref a)
  have f5 := zip_getattr_none
  unfold getAttr? getAttrBy? getAttrBy
  repeat (any_goals (first | assumption | exact hT _ | ((with_reducible show wpAny _ _ (call (Value.builtin "zip.__getattribute__") _ _) _ _ _); refine call_meets F.slot_zip_getattribute (hT _) entry_zip_getattribute (F.args_zip_getattribute_2 _ _) (meets_zip_miss a fs _) ⟨hx, hA, fun h' tk' e hx' => ?_⟩) | wp_step))
  obtain ⟨t', u', he⟩ := hx'.there
  show wpAny _ _ (getattributeRaised _ _ _ _ _ _ _) _ _ _
  unfold getattributeRaised
  repeat (any_goals (first | assumption | wp_step))
  exact h _ _ hx'.keeps
end
end Mine
end
section
open PySem PySem.W PyProof.Rows PySem.Spec PySem.Calls
namespace Mine
theorem entry_upd_loop : entryFor table "dict.update.loop" = some Builtin.«dict.update.loop» := entryFor_of_tree (by kernel_rfl)
section
variable {prog : Program} {w : World} {A : Around} {E : Value → Shared → Prop} {s : Shared}
theorem zip_end_held {z TI TO i1 i2 l1 : Addr} {k1 : Nat} {T : Addr} {oT : Obj} {xs : Array Value} {Q : Fin → Shared → Prop} (hh : A.handled = none)
    (i1z : i1 ≠ z) (l1z : l1 ≠ z)
    (hz : IsZip s.heap z TI TO (rawInt T)) (hTI : IsPair s.heap TI (.ref i1) (.ref i2)) (hT : s.heap.get? T = some oT)
    (h1 : s.heap.IsListIter i1 l1 k1) (hl1 : s.heap.IsList l1 xs) (hend : xs[k1]? = none)
    (hE : ∀ h' e, (∀ c o, c ≠ z → c ≠ i1 → s.heap.get? c = some o → h'.get? c = some o) → (∃ o, h'.get? e = some o ∧ o.cls = .type "StopIteration") → E (.ref e) { s with heap := h' }) :
    wpAny (model prog w) A (Builtin.«zip.__next__» ⟨[.ref z], []⟩) Q E s := by
  show wpAny _ _ (field (.ref z) 2 >>= _) _ _ _
  refine wpAny_bind (wpAny_field hz rfl (x := .bool false) rfl ?_)
  show wpAny _ _ (field (.ref z) 3 >>= _) _ _ _
  refine wpAny_bind (wpAny_field hz rfl (x := .ref TI) rfl ?_)
  refine wpAny_bind (wpAny_seqItems hTI rfl ?_)
  show wpAny _ _ (Builtin.SmallTypes.ownedTupleIsFree (.ref z) >>= _) _ _ _
  refine wpAny_bind ?_
  unfold Builtin.SmallTypes.ownedTupleIsFree
  refine wpAny_bind (wpAny_field hz rfl (x := .int (T : Int) 0) rfl ?_)
  show wpAny _ _ (loadIfAlive ((T : Int).toNat) >>= _) _ _ _
  refine wpAny_bind ?_
  have hal : ∀ {Q : Option Obj → Shared → Prop}, Q (some oT) s → wpAny (model prog w) A (loadIfAlive ((T : Int).toNat)) Q E s := by
    intro Q hq Γ p hΓ
    show Q (s.heap.get? ((T : Int).toNat)) s
    rw [Int.toNat_natCast, hT]; exact hq
  refine hal ?_
  simp only [Option.isNone_some, Bool.false_eq_true, if_false]
  refine wpAny_bind (wpAny_field hz rfl (x := .bool false) rfl ?_)
  rw [if_pos (by decide)]
  refine wpAny_bind (wpAny_setField_rec hz (by simp) fun h₁ hz₁ hs₁ => ?_)
  refine wpAny_pure ?_
  simp only [Bool.false_eq_true, if_false]
  refine wpAny_bind ?_
  show wpAny _ _ (forIn (#[Value.ref i1, Value.ref i2] : Array Value) _ _) _ _ _
  rw [← Array.forIn_toList]
  simp only [List.forIn_cons]
  refine wpAny_bind (wpAny_bind (wpAny_holding ?_))
  show wpAny _ _ (Builtin.SmallTypes.nextOf (.ref i1) >>= _) _ _ _
  exact wpAny_bind (wpAny_nextOf_list_end hh (h1.extBut hs₁.extBut i1z) (hl1.extBut hs₁.extBut l1z) hend fun h₂ e hs₂ he =>
    hE h₂ e (fun c o c1 c2 x => hs₂ _ _ c2 (hs₁.extBut _ _ c1 x)) he)
theorem pyNext_end_held {z TI TO i1 i2 l1 : Addr} {k1 : Nat} {T : Addr} {oT : Obj} {xs : Array Value} {Q : Option Value → Shared → Prop} (hh : A.handled = none)
    (i1z : i1 ≠ z) (l1z : l1 ≠ z)
    (hz : IsZip s.heap z TI TO (rawInt T)) (hTI : IsPair s.heap TI (.ref i1) (.ref i2)) (hT : s.heap.get? T = some oT)
    (h1 : s.heap.IsListIter i1 l1 k1) (hl1 : s.heap.IsList l1 xs) (hend : xs[k1]? = none)
    (hQ : ∀ h', (∀ c o, c ≠ z → c ≠ i1 → s.heap.get? c = some o → h'.get? c = some o) → Q none { s with heap := h' }) : wpAny (model prog w) A (pyNext (.ref z)) Q E s := by
  have hTy : s.TypeIs (.ref z) "zip" := ⟨_, hz, rfl⟩
  unfold pyNext
  refine wpAny_bind (wpAny_attempt (wpAny_callSpecial?_slot (name := Str.ofString "__next__") hTy F.slot_zip_next
    (wpAny_call_entry F.slot_zip_next hTy F.entry_zip_next (zip_end_held hh i1z l1z hz hTI hT h1 hl1 hend fun h' e hk he => ?_) (F.args_zip_next_1 _))))
  obtain ⟨o, ho, hc⟩ := he
  refine wpAny_bind (wpAny_isInstance (T := "StopIteration") (b := true) ⟨o, ho, hc⟩ isSubtype_stop ?_)
  exact wpAny_pure (hQ _ hk)
theorem upd_loop_end {R : Result → Shared → Prop} {d z TI TO i1 i2 l1 : Addr} {k1 : Nat} {T : Addr} {oT : Obj} {xs : Array Value} {i : Int} {t : Tok} (hh : A.handled = none)
    (i1z : i1 ≠ z) (l1z : l1 ≠ z)
    (hz : IsZip s.heap z TI TO (rawInt T)) (hTI : IsPair s.heap TI (.ref i1) (.ref i2)) (hT : s.heap.get? T = some oT)
    (h1 : s.heap.IsListIter i1 l1 k1) (hl1 : s.heap.IsList l1 xs) (hend : xs[k1]? = none)
    (hQ : ∀ h', (∀ c o, c ≠ z → c ≠ i1 → s.heap.get? c = some o → h'.get? c = some o) → R (.ok (.ret .none)) { s with heap := h' }) :
    codeAny (model prog w) A (.builtin "dict.update.loop" ⟨[.ref d, .ref z, .int i t, .none], []⟩) R s := by
  refine codeAny_builtin entry_upd_loop ?_
  show wpAny _ _ (pyNext (.ref z) >>= _) _ _ _
  refine wpAny_bind (pyNext_end_held hh i1z l1z hz hTI hT h1 hl1 hend fun h' hk => ?_)
  show wpAny _ _ (Builtin.Dict.addKeywords d [] >>= _) _ _ _
  exact wpAny_bind (wpAny_pure (wpAny_pure (hQ h' hk)))
theorem upd_loop_item {R : Result → Shared → Prop} {d z TI TO i1 i2 l1 l2 : Addr} {x : Str} {tx t : Tok} {v a b : Value} {kvs : List (Str × Value)} {i : Int} (hh : A.handled = none)
    (D : ZipApart z TI TO i1 i2 l1 l2) (dz : d ≠ z) (dTO : d ≠ TO) (di1 : d ≠ i1) (di2 : d ≠ i2) (dTI : d ≠ TI) (dl1 : d ≠ l1)
    (hz : IsZip s.heap z TI TO .none) (hTI : IsPair s.heap TI (.ref i1) (.ref i2)) (hTO : IsPair s.heap TO a b)
    (h1 : s.heap.IsListIter i1 l1 0) (h2 : s.heap.IsListIter i2 l2 0) (hl1 : s.heap.IsList l1 #[.str x tx]) (hl2 : s.heap.IsList l2 #[v])
    (hd : s.heap.DictOf (strKind prog w) d kvs) (hsz : kvs.length ≤ sizeLine)
    (hQ : ∀ h' tk, h'.DictOf (strKind prog w) d (stored kvs x v) → (∀ c o, c ≠ z → c ≠ TO → c ≠ i1 → c ≠ i2 → c ≠ d → s.heap.get? c = some o → h'.get? c = some o) → R (.ok (.ret .none)) { s with heap := h', toks := tk }) :
    codeAny (model prog w) A (.builtin "dict.update.loop" ⟨[.ref d, .ref z, .int i t, .none], []⟩) R s := by
  refine codeAny_builtin entry_upd_loop ?_
  show wpAny _ _ (pyNext (.ref z) >>= _) _ _ _
  refine wpAny_bind (wpAny_pyNext_zip_item D hz hTI hTO h1 h2 hl1 hl2 (x := .str x tx) (y := v) rfl rfl fun h' z' TO' i1' i2' pr hs' hk => ?_)
  have nw : ∀ {c o}, s.heap.get? c = some o → s.heap.objs.size ≠ c := fun e => Nat.ne_of_gt (Heap.lt_size e)
  obtain ⟨od, hod, hdd⟩ := Heap.dictOf_iff.mp hd
  have hd' : h'.DictOf (strKind prog w) d kvs := Heap.dictOf_iff.mpr ⟨od, hk _ _ dz dTO di1 di2 hod, hdd⟩
  show wpAny _ _ (_ >>= _) _ _ _
  refine wpAny_bind (wpAny_holding ?_)
  show wpAny _ _ (_ >>= _) _ _ _
  refine wpAny_bind (wpAny_tryCatch ?_)
  have hT : (⟨h', s.gens, s.drawn, s.toks, s.os⟩ : Shared).TypeIs (.ref s.heap.objs.size) "tuple" := ⟨_, pr, rfl⟩
  unfold Builtin.Dict.pairItems
  refine wpAny_bind (wpAny_typeOf hT ?_)
  rw [if_pos (by decide)]
  refine wpAny_bind (wpAny_seqItems pr rfl (wpAny_pure ?_))
  show wpAny _ _ (holding [Value.str x tx, v] (dictSet d (Value.str x tx) v)) _ _ _
  refine wpAny_holding (wpAny_dictSet_pairs (hsz := hsz) (strKind_is prog w x tx) hd' fun h'' hd'' hs'' => ?_)
  show wpAny _ _ (again _) _ _ _
  refine wpAny_pure ⟨Code.quiet_builtin _ (by decide +kernel), ?_⟩
  have hn : (Around.under A (Code.builtin "dict.update.loop" ⟨[.ref d, .ref z, .int i t, .none], []⟩)).handled = none := hh
  have e3 : h'.get? TI = some _ := hk _ _ D.TIz D.TITO D.TIi1 D.TIi2 hTI
  refine upd_loop_end (T := s.heap.objs.size) hh D.i1z D.l1z (hs''.extBut _ _ dz.symm z') (hs''.extBut _ _ dTI.symm e3) (hs''.extBut _ _ (nw hod) pr)
    (i1'.extBut hs''.extBut di1.symm) ((hl1.at fun o e => hk _ o D.l1z D.l1TO D.l1i1 D.l1i2 e).extBut hs''.extBut dl1.symm) rfl fun h₃ hk₃ => ?_
  obtain ⟨o3, ho3, hd3⟩ := Heap.dictOf_iff.mp hd''
  exact hQ h₃ _ (Heap.dictOf_iff.mpr ⟨o3, hk₃ _ _ dz di1 ho3, hd3⟩) fun c o c1 c2 c3 c4 c5 e => hk₃ _ _ c1 c3 (hs''.extBut _ _ c5 (hk _ _ c1 c2 c3 c4 e))
end
end Mine
end
section
open PySem PySem.W PyProof.Rows PySem.Spec PySem.Calls
namespace Mine
noncomputable def IsIt (o : Obj) (l : Addr) : Prop := o.cls = .type "list_iterator" ∧ o.data = .fields #[.ref l, .int 0 0]
noncomputable abbrev zipI (TI TO : Addr) : Obj := zipO #[.none, .bool false, .bool false, .ref TI, .ref TO]
noncomputable abbrev pairO (a b : Value) : Obj := { cls := .type "tuple", data := .seq #[a, b] }
section
variable {prog : Program} {w : World} {A : Around} {E : Value → Shared → Prop} {s : Shared} {h₀ : Heap} {L : Addr} {m : Str → Option Value} {news rest : Led}
theorem zip_N {l1 l2 : Addr} {xs ys : List Value} {n1 n2 : Nat} {Q : Value → Shared → Prop} (F : Fr h₀ L s.heap m) (N : News h₀ L s.heap news) (m1 : (l1, listO xs n1) ∈ news) (m2 : (l2, listO ys n2) ∈ news)
    (h : ∀ (i1 i2 TI TO z : Addr) o1 o2 h', Fr h₀ L h' m → News h₀ L h' ((z, zipI TI TO) :: (TO, pairO .none .none) :: (TI, pairO (.ref i1) (.ref i2)) :: (i2, o2) :: (i1, o1) :: news) → IsIt o1 l1 → IsIt o2 l2 →
      (∀ p ∈ news, p.1 < i1) → @LT.lt Nat _ i1 i2 → @LT.lt Nat _ i2 TI → @LT.lt Nat _ TI TO → @LT.lt Nat _ TO z → Q (.ref z) { s with heap := h' }) :
    wpAny (model prog w) A (call (.type "zip") [.ref l1, .ref l2]) Q E s := by
  refine call_zip_2 (xs := xs.toArray) (ys := ys.toArray) ⟨_, (N _ m1).1, rfl, _, rfl⟩ ⟨_, (N _ m2).1, rfl, _, rfl⟩ fun h' hz hTI hTO h1 h2 hs hk => ?_
  obtain ⟨o1, e1, c1, d1⟩ := h1
  obtain ⟨o2, e2, c2, d2⟩ := h2
  have hL : L < s.heap.objs.size := F.ns.lt
  have fresh : ∀ a, s.heap.objs.size ≤ a → h₀.get? a = none := fun a ha => by
    cases q : h₀.get? a with
    | none => rfl
    | some o => exact absurd (Heap.lt_size (F.keep _ _ q)) (Nat.not_lt.mpr ha)
  have ok : ∀ (k : Nat) (o : Obj), h'.get? (s.heap.objs.size + k) = some o → h'.get? (s.heap.objs.size + k) = some o ∧ s.heap.objs.size + k ≠ L ∧ h₀.get? (s.heap.objs.size + k) = none :=
    fun k o e => ⟨e, Nat.ne_of_gt (Nat.lt_of_lt_of_le hL (Nat.le_add_right _ _)), fresh _ (Nat.le_add_right _ _)⟩
  refine h _ _ _ _ _ o1 o2 h' (F.keeps hk) (fun p hp => ?_) ⟨c1, d1⟩ ⟨c2, d2⟩ (fun p hp => Heap.lt_size (N p hp).1) (Nat.lt_succ_self _) (Nat.lt_succ_self _) (Nat.lt_succ_self _) (Nat.lt_succ_self _)
  simp only [List.mem_cons] at hp
  rcases hp with rfl | rfl | rfl | rfl | rfl | hp
  · exact ok 4 _ hz
  · exact ok 3 _ hTO
  · exact ok 2 _ hTI
  · exact ok 1 _ e2
  · exact ok 0 _ e1
  · exact ⟨hk _ _ (N p hp).1, (N p hp).2⟩
theorem upd_zip {fd z TO TI i1 i2 l1 l2 : Addr} {o o1 o2 : Obj} {kvs : List (Str × Value)} {x : Str} {tx : Tok} {v : Value} {n1 n2 : Nat} {Q : Value → Shared → Prop} (hh : A.handled = none)
    (F : Fr h₀ L s.heap m) (N : News h₀ L s.heap ((fd, o) :: (z, zipI TI TO) :: (TO, pairO .none .none) :: (TI, pairO (.ref i1) (.ref i2)) :: (i2, o2) :: (i1, o1) :: rest))
    (hd : o.IsDictOf (strKind prog w) kvs) (hsz : kvs.length ≤ sizeLine) (t1 : IsIt o1 l1) (t2 : IsIt o2 l2) (m1 : (l1, listO [.str x tx] n1) ∈ rest) (m2 : (l2, listO [v] n2) ∈ rest)
    (lt0 : ∀ p ∈ rest, p.1 < i1) (lt1 : @LT.lt Nat _ i1 i2) (lt2 : @LT.lt Nat _ i2 TI) (lt3 : @LT.lt Nat _ TI TO) (lt4 : @LT.lt Nat _ TO z) (lt5 : @LT.lt Nat _ z fd)
    (h : ∀ h' o' tk, Fr h₀ L h' m → News h₀ L h' ((fd, o') :: rest) → o'.IsDictOf (strKind prog w) (stored kvs x v) → Q .none { s with heap := h', toks := tk }) :
    wpAny (model prog w) A (call (.builtin "dict.update") [.ref fd, .ref z]) Q E s := by
  have gfd := N (fd, o) (by simp)
  have gz := N (z, zipI TI TO) (by simp)
  have gTO := N (TO, pairO .none .none) (by simp)
  have gTI := N (TI, pairO (.ref i1) (.ref i2)) (by simp)
  have g2 := N (i2, o2) (by simp)
  have g1 := N (i1, o1) (by simp)
  have gr : ∀ p ∈ rest, _ := fun p hp => N p (by simp [hp])
  have l1lt : @LT.lt Nat _ l1 i1 := lt0 _ m1
  have l2lt : @LT.lt Nat _ l2 i1 := lt0 _ m2
  have D : ZipApart z TI TO i1 i2 l1 l2 := by constructor <;> (show @Ne Nat _ _) <;> omega
  have hdo : s.heap.DictOf (strKind prog w) fd kvs := Heap.dictOf_iff.mpr ⟨o, gfd.1, hd⟩
  refine wpAny_call (codeAny_call_builtin PySem.F.slot_dict_update.plain PySem.F.entry_dict_update (PySem.F.slot_dict_update.check _ _ _ _ _ _ _ _ hdo.typeIs (PySem.F.args_dict_update_2 _ _) ?_))
  unfold Builtin.«dict.update»
  refine wpAny_bind ?_
  unfold Builtin.Dict.selfAndRest
  refine wpAny_bind (wpAny_notOrdered_dict hdo.typeIs ?_)
  show wpAny _ _ (pure (fd, [Value.ref z])) _ _ s
  refine wpAny_pure ?_
  show wpAny _ _ (Builtin.Dict.updateFrom "dict.update" fd (.ref z) [] .none) _ _ s
  unfold Builtin.Dict.updateFrom
  have hTz : s.TypeIs (.ref z) "zip" := ⟨_, gz.1, rfl⟩
  refine wpAny_bind (wpAny_typeOf hTz ?_)
  rw [if_pos (by decide)]
  refine wpAny_bind (zip_no_keys (a := z) gz.1 hh fun h' tk hk => ?_)
  simp only [Option.isNone_none, if_true]
  refine wpAny_bind (wpAny_rule (wpAny_bind (wpAny_pyIter_zip (hk _ _ gz.1) ?_)))
  refine wpAny_pure ⟨Code.quiet_builtin _ (by decide +kernel), ?_⟩
  refine upd_loop_item (x := x) (tx := tx) (v := v) (kvs := kvs) hh D (by show @Ne Nat _ _; omega) (by show @Ne Nat _ _; omega) (by show @Ne Nat _ _; omega) (by show @Ne Nat _ _; omega) (by show @Ne Nat _ _; omega) (by show @Ne Nat _ _; omega)
    (hk _ _ gz.1) (hk _ _ gTI.1) (hk _ _ gTO.1) ⟨_, hk _ _ g1.1, t1.1, t1.2⟩ ⟨_, hk _ _ g2.1, t2.1, t2.2⟩ ⟨_, hk _ _ (gr _ m1).1, rfl, _, rfl⟩ ⟨_, hk _ _ (gr _ m2).1, rfl, _, rfl⟩
    (Heap.dictOf_iff.mpr ⟨o, hk _ _ gfd.1, hd⟩) hsz fun h'' tk' hd'' hk'' => ?_
  obtain ⟨o', ho', hdd⟩ := Heap.dictOf_iff.mp hd''
  have nL : ∀ {a : Addr}, a ≠ L → L ≠ a := fun e => Ne.symm e
  have nh : ∀ {a b : Addr} {ob : Obj}, h₀.get? a = none → h₀.get? b = some ob → b ≠ a := fun e1 e2 q => by rw [q, e1] at e2; cases e2
  have keepL : ∀ ob, s.heap.get? L = some ob → h''.get? L = some ob := fun ob e => hk'' _ _ (nL gz.2.1) (nL gTO.2.1) (nL g1.2.1) (nL g2.2.1) (nL gfd.2.1) (hk _ _ e)
  refine h h'' o' tk' ⟨F.ns.at' keepL, fun b ob e => hk'' _ _ (nh gz.2.2 e) (nh gTO.2.2 e) (nh g1.2.2 e) (nh g2.2.2 e) (nh gfd.2.2 e) (hk _ _ (F.keep b ob e)), F.above⟩ (fun p hp => ?_) hdd
  rcases List.mem_cons.mp hp with rfl | hp
  · exact ⟨ho', gfd.2⟩
  · have hl : @LT.lt Nat _ p.1 i1 := lt0 p hp
    refine ⟨hk'' _ _ ?_ ?_ ?_ ?_ ?_ (hk _ _ (gr p hp).1), (gr p hp).2⟩ <;> (show @Ne Nat _ _) <;> omega
end
end Mine
end
section
open PySem PySem.W PyProof.Rows PySem.Spec PySem.Calls
namespace Mine
section
variable {prog : Program} {w : World} {A : Around} {E : Value → Shared → Prop} {s : Shared} {h₀ : Heap} {L : Addr} {m : Str → Option Value} {news : Led}
theorem item_N {value slice : Expr} {l : Addr} {vs : List Value} {n : Nat} {k : Int} {u : Tok} {v : Value} {Q : Value → Shared → Prop} (N : News h₀ L s.heap news) (hm : (l, listO vs n) ∈ news) (h0 : 0 ≤ k) (hhi : k < 2 ^ 63) (hx : vs[k.toNat]? = some v) (h : Q v s)
    (hs : subscripted slice false (.ref l) (.int k u) = operate [.ref l, .int k u] (getItem (.ref l) (.int k u)) := by with_unfolding_all rfl) :
    wpAny (model prog w) A (subscriptTail value slice (.ref l) (.int k u)) Q E s :=
  have hL : s.heap.IsList l vs.toArray := ⟨_, (N _ hm).1, rfl, n, rfl⟩
  tail_any hL.typeIs slot_list_getitem.lookup (wpAny_getItem_list hL h0 hhi (by simpa using hx) h) hs
theorem item_T {value slice : Expr} {l : Addr} {vs : List Value} {n : Nat} {k : Int} {u : Tok} {v : Value} {j : Nat} {Q : Value → Shared → Prop} (N : News h₀ L s.heap news) (hm : (l, tupO vs n) ∈ news) (hlo : -(2 ^ 63) ≤ k) (hhi : k < 2 ^ 63) (hj : seqIndex? k vs.length = some j) (hx : vs[j]? = some v) (h : Q v s)
    (hs : subscripted slice false (.ref l) (.int k u) = operate [.ref l, .int k u] (getItem (.ref l) (.int k u)) := by with_unfolding_all rfl) :
    wpAny (model prog w) A (subscriptTail value slice (.ref l) (.int k u)) Q E s := item_tupleT ⟨_, (N _ hm).1, rfl, n, rfl⟩ hlo hhi hj hx h hs
theorem lt_all {d : Addr} : ∀ {l : Led}, AllLt d l → ∀ p ∈ l, @LT.lt Nat _ p.1 d
  | [], _, _, hp => nomatch hp
  | _ :: _, h, p, hp => by
    rcases List.mem_cons.mp hp with rfl | hp
    · exact h.1
    · exact lt_all h.2 p hp
theorem ne_all {d : Addr} {l : Led} (h : AllLt d l) : ∀ p ∈ l, p.1 ≠ d := fun p hp => Nat.ne_of_lt (lt_all h p hp)
theorem endW0 {s₁ : Shared} {I : Addr} {it : Obj} {keep post : Led} {P : (Str → Option Value) → Led → Prop} {h' : Heap} {tk : Nat} {m' : Str → Option Value}
    (F : Fr h₀ L h' m') (N : News h₀ L h' ((I, it) :: post)) (off : ∀ p ∈ post, p.1 ≠ I) (k : SubL keep post) (r : P m' post) :
    UnrEndW h₀ L s₁ [(I, it)] (fun m' n' => SubL keep n' ∧ P m' n') { s₁ with heap := h', toks := tk } :=
  ⟨h', tk, m', post, rfl, F, N, fun p hp q hq => by rw [List.mem_singleton.mp hq]; exact off p hp, k, r⟩
theorem endW1 {s₁ : Shared} {I : Addr} {it : Obj} {x : Addr × Obj} {keep post : Led} {P : (Str → Option Value) → Led → Prop} {h' : Heap} {tk : Nat} {m' : Str → Option Value}
    (F : Fr h₀ L h' m') (N : News h₀ L h' (x :: (I, it) :: post)) (hx : x.1 ≠ I) (off : ∀ p ∈ post, p.1 ≠ I) (k : SubL keep post) (r : P m' (x :: post)) :
    UnrEndW h₀ L s₁ [(I, it)] (fun m' n' => SubL keep n' ∧ P m' n') { s₁ with heap := h', toks := tk } :=
  ⟨h', tk, m', x :: post, rfl, F, fun p hp => N p (by simp only [List.cons_append, List.nil_append, List.mem_cons] at hp ⊢; rcases hp with h | h | h <;> simp [h]),
    fun p hp q hq => by
      rw [List.mem_singleton.mp hq]
      rcases List.mem_cons.mp hp with rfl | hp
      · exact hx
      · exact off p hp,
    by
      have : ∀ {l : Led}, SubL l post → SubL l (x :: post) := fun {l} => by
        induction l with
        | nil => exact fun _ => trivial
        | cons a r ih => exact fun h => ⟨List.mem_cons_of_mem _ h.1, ih h.2⟩
      exact this k, r⟩
theorem endZ0 {s₁ : Shared} {I : Addr} {o1 o2 o3 o4 o5 : Obj} {keep post : Led} {P : (Str → Option Value) → Led → Prop} {h' : Heap} {tk : Nat} {m' : Str → Option Value}
    (F : Fr h₀ L h' m') (N : News h₀ L h' ((I + 4, o1) :: (I + 2, o2) :: (I + 3, o3) :: (I, o4) :: (I + 1, o5) :: post)) (off : AllLt I post) (k : SubL keep post) (r : P m' post) :
    UnrEndW h₀ L s₁ [(I + 4, o1), (I + 2, o2), (I + 3, o3), (I, o4), (I + 1, o5)] (fun m' n' => SubL keep n' ∧ P m' n') { s₁ with heap := h', toks := tk } :=
  ⟨h', tk, m', post, rfl, F, N, fun p hp q hq => by
    have := lt_all off p hp
    simp only [List.mem_cons, List.mem_nil_iff, or_false] at hq
    rcases hq with rfl | rfl | rfl | rfl | rfl <;> (show @Ne Nat _ _) <;> omega, k, r⟩
end
theorem ValIn.int_inv {prog : Program} {w : World} {l : Led} {v : Value} {k : Int} (h : ValIn prog w l v (.int k)) : ∃ t, v = .int k t := by cases h; exact ⟨_, rfl⟩
theorem ValIn.con0_inv {prog : Program} {w : World} {l : Led} {v : Value} {nm : Nm} (h : ValIn prog w l v (.con0 nm)) : ∃ a li t1 t2 n n', v = .ref a ∧ (a, tupO [.str "con" t1, .str nm t2, .ref li] n) ∈ l ∧ (li, listO [] n') ∈ l := by
  cases h; exact ⟨_, _, _, _, _, _, rfl, by assumption, by assumption⟩
theorem ValIn.con2_inv {prog : Program} {w : World} {l : Led} {v : Value} {nm : Nm} {cx cy : Core} {ρ : Env} (h : ValIn prog w l v (.con2 nm cx cy ρ)) : ∃ a li t1 t2 n n' p q x y e n1 n2, v = .ref a ∧ (a, tupO [.str "con" t1, .str nm t2, .ref li] n) ∈ l ∧ (li, listO [.ref p, .ref q] n') ∈ l ∧
    (p, tupO [.ref x, .ref e] n1) ∈ l ∧ (q, tupO [.ref y, .ref e] n2) ∈ l ∧ CoreIn w l x cx ∧ CoreIn w l y cy ∧ EnvIn prog w l e ρ := by
  cases h; exact ⟨_, _, _, _, _, _, _, _, _, _, _, _, _, rfl, by assumption, by assumption, by assumption, by assumption, by assumption, by assumption, by assumption⟩
theorem ValIn.fn_inv {prog : Program} {w : World} {l : Led} {v : Value} {x : Nm} {cb : Core} {ρ : Env} (h : ValIn prog w l v (.fn x cb ρ)) : ∃ a li b e t1 t2 n n', v = .ref a ∧ (a, tupO [.str "fun" t1, .ref li, .ref b, .ref e] n) ∈ l ∧ (li, listO [.str x t2] n') ∈ l ∧ CoreIn w l b cb ∧ EnvIn prog w l e ρ := by
  cases h; exact ⟨_, _, _, _, _, _, _, _, rfl, by assumption, by assumption, by assumption, by assumption⟩
section
variable {prog : Program} {w : World} {A : Around} {E : Value → Shared → Prop} {s : Shared} {h₀ : Heap} {L : Addr} {m : Str → Option Value} {news : Led}
theorem SC : PyData.strOk (Str.ofString "con") = true := by decide +kernel
theorem SL : PyData.strOk (Str.ofString "lit") = true := by decide +kernel
theorem SI : PyData.strOk (Str.ofString "int") = true := by decide +kernel
theorem eq_con {a b : Addr} {x y : Str} {t1 t2 u1 u2 : Tok} {n n' : Nat} {r : Bool} {Q : Value → Shared → Prop} (N : News h₀ L s.heap news) (ma : (a, tupO [.str "con" t1, .str x t2] n) ∈ news) (mb : (b, tupO [.str "con" u1, .str y u2] n') ∈ news)
    (hu : A.units + 64 < cLine) (sx : PyData.strOk x = true) (sy : PyData.strOk y = true) (hr : decide (x = y) = r) (h : Q (.bool r) s) : wpAny (model prog w) A (compareOp .Eq (.ref a) (.ref b)) Q E s := by
  refine eq_dataH (da := .tuple [.str "con", .str x]) (db := .tuple [.str "con", .str y]) (reads_tuple_at (News.get N ma) rfl rfl (.cons (.str _ _) (.cons (.str _ _) .nil))) (reads_tuple_at (News.get N mb) rfl rfl (.cons (.str _ _) (.cons (.str _ _) .nil))) (by simp [SeqAt.shaped, PyData.canLay0, PyData.canLayAll0, PyData.depth, PyData.depthAll, sx, SC]) (by simp [SeqAt.shaped, PyData.canLay0, PyData.canLayAll0, PyData.depth, PyData.depthAll, sy, SC]) hu ?_
  have e : PyData.eqv (.tuple [.str "con", .str x]) (.tuple [.str "con", .str y]) = r := by
    rw [← hr]
    simp only [PyData.eqv, PyData.eqvAll]
    by_cases q : x = y <;> simp [q]
  rw [e]; exact h
theorem eq_lit {a b : Addr} {x y : Int} {t1 t2 t3 u1 u2 u3 : Tok} {n n' : Nat} {Q : Value → Shared → Prop} (N : News h₀ L s.heap news) (ma : (a, tupO [.str "lit" t1, .str "int" t2, .int x t3] n) ∈ news) (mb : (b, tupO [.str "lit" u1, .str "int" u2, .int y u3] n') ∈ news)
    (hu : A.units + 64 < cLine) (r : Bool) (hr : decide (x = y) = r) (h : Q (.bool r) s) : wpAny (model prog w) A (compareOp .Eq (.ref a) (.ref b)) Q E s := by
  refine eq_dataH (da := .tuple [.str "lit", .str "int", .int x]) (db := .tuple [.str "lit", .str "int", .int y]) (reads_tuple_at (News.get N ma) rfl rfl (.cons (.str _ _) (.cons (.str _ _) (.cons (.int _ _) .nil)))) (reads_tuple_at (News.get N mb) rfl rfl (.cons (.str _ _) (.cons (.str _ _) (.cons (.int _ _) .nil)))) (by simp [SeqAt.shaped, PyData.canLay0, PyData.canLayAll0, PyData.depth, PyData.depthAll, SL, SI]) (by simp [SeqAt.shaped, PyData.canLay0, PyData.canLayAll0, PyData.depth, PyData.depthAll, SL, SI]) hu ?_
  have e : PyData.eqv (.tuple [.str "lit", .str "int", .int x]) (.tuple [.str "lit", .str "int", .int y]) = r := by
    rw [← hr]
    simp only [PyData.eqv, PyData.eqvAll]
    by_cases q : x = y <;> simp [q]
  rw [e]; exact h
end
theorem dictMethod {prog : Program} {w : World} {A : Around} {E : Value → Shared → Prop} {s : Shared} {h₀ : Heap} {L : Addr} {news : Led} {d : Addr} {o : Obj} {kvs : List (Str × Value)} {name : Str} {id : String} {pl : Sem Bool} {Q : Value × List Value → Shared → Prop}
    (N : News h₀ L s.heap news) (hm : (d, o) ∈ news) (hd : o.IsDictOf (strKind prog w) kvs) (slot : Slot "dict" name id) (hty : typeOf (.builtin id) = pure (.type "method_descriptor"))
    (h : Q (.builtin id, [.ref d]) s) : wpAny (model prog w) A (getMethod (.ref d) name pl) Q E s :=
  have hD : s.heap.DictOf (strKind prog w) d kvs := Heap.dictOf_iff.mpr ⟨o, (N _ hm).1, hd⟩
  getMethod_builtin hD.typeIs PySem.F.plainAttrs_dict slot hty (hD.mapOf.noDict) h
end Mine
end
section
open PySem PySem.W PyProof.Rows PySem.Spec PySem.Calls
namespace Mine
noncomputable def Spec (prog : Program) (w : World) (f : Addr) (args : List Value) (room units : Nat) (news : Led) (post : Value → Led → Prop) : Prop :=
  ∀ (p : Program) (loose : List Str) (mean : ExcName → Option Value) (mg mb : Str → Option Value) (dp un : Nat) (gd : Option (List Code)) (cn : Str) (cs : Scope) (ca : Addr) (ccd : Value) (cl : List (Str × Addr)) (outer : List PySem.Env) (A₀ : Around) (base h₀ : Heap) (L : Addr) (m : Str → Option Value) (s : Shared) (Q E : Value → Shared → Prop),
    Below A₀ base outer h₀ → Fr h₀ L s.heap m → (Mine.H.KK w.params).In h₀ → News h₀ L s.heap news → Top p loose mean mg mb h₀ → cs.kind = .function →
    dp + room < recursionLimit → un + units < cLine →
    (∀ v h' tk' news', Fr h₀ L h' m → News h₀ L h' news' → post v news' → Q v { s with heap := h', toks := tk' }) →
    wpAny (model prog w) (ktrTop dp un gd cn cs L ca ccd cl outer) (call (.ref f) args) Q E s
theorem spec_use {prog : Program} {w : World} {f : Addr} {args : List Value} {room units : Nat} {news callers : Led} {post : Value → Led → Prop} {p : Program} {loose : List Str} {mean : ExcName → Option Value} {mg mb : Str → Option Value} {dp un : Nat} {gd : Option (List Code)} {cn : Str} {cs : Scope} {ca : Addr} {ccd : Value} {cl : List (Str × Addr)} {outer : List PySem.Env} {A₀ : Around} {base h₀ : Heap} {L : Addr} {m : Str → Option Value} {s : Shared} {Q E : Value → Shared → Prop}
    (B : Below A₀ base outer h₀) (F : Fr h₀ L s.heap m) (X : (Mine.H.KK w.params).In h₀) (N : News h₀ L s.heap callers) (T : Top p loose mean mg mb h₀) (hk : cs.kind = .function)
    (S : Spec prog w f args room units news post) (sub : ∀ q ∈ news, q ∈ callers)
    (hd : dp + room < recursionLimit) (hu : un + units < cLine)
    (ret : ∀ v h' tk' news', Fr h₀ L h' m → News h₀ L h' news' → post v news' → Q v { s with heap := h', toks := tk' }) :
    wpAny (model prog w) (ktrTop dp un gd cn cs L ca ccd cl outer) (call (.ref f) args) Q E s :=
  S _ _ _ _ _ _ _ _ _ _ _ _ _ _ _ _ _ _ _ _ _ _ B F X (fun q hq => N q (sub q hq)) T hk hd hu ret
theorem spec_use0 {prog : Program} {w : World} {f : Addr} {args : List Value} {room units : Nat} {news : Led} {post : Value → Led → Prop} {p : Program} {loose : List Str} {mean : ExcName → Option Value} {mg mb : Str → Option Value} {dp un : Nat} {gd : Option (List Code)} {cn : Str} {cs : Scope} {ca : Addr} {ccd : Value} {cl : List (Str × Addr)} {outer : List PySem.Env} {A₀ : Around} {base h₀ : Heap} {L : Addr} {m : Str → Option Value} {s : Shared} {Q E : Value → Shared → Prop}
    (B : Below A₀ base outer h₀) (F : Fr h₀ L s.heap m) (X : (Mine.H.KK w.params).In h₀) (N : News h₀ L s.heap news) (T : Top p loose mean mg mb h₀) (hk : cs.kind = .function)
    (S : Spec prog w f args room units news post)
    (hd : dp + room < recursionLimit) (hu : un + units < cLine)
    (ret : ∀ v h' tk' news', Fr h₀ L h' m → News h₀ L h' news' → post v news' → Q v { s with heap := h', toks := tk' }) :
    wpAny (model prog w) (ktrTop dp un gd cn cs L ca ccd cl outer) (call (.ref f) args) Q E s :=
  S _ _ _ _ _ _ _ _ _ _ _ _ _ _ _ _ _ _ _ _ _ _ B F X N T hk hd hu ret
noncomputable def NumAt (kvs : List (Str × Value)) (b : Str) (n : Int) : Prop := (valueAt kvs b = none ∧ n = 0) ∨ ∃ t, valueAt kvs b = some (.int n t)
theorem len_app (x y : PySem.Str) : (x ++ y).length ≤ x.length + y.length := by
  exact Nat.le_of_eq (PySem.Str.length_append x y)
section
variable {prog : Program} {w : World} {A : Around} {E : Value → Shared → Prop} {s : Shared} {h₀ : Heap} {L : Addr} {m : Str → Option Value} {news : Led}
theorem get_num {d : Addr} {o : Obj} {kvs : List (Str × Value)} {b : Str} {t t0 : Tok} {n : Int} {Q : Value → Shared → Prop} (N : News h₀ L s.heap news) (hp : (d, o) ∈ news) (hd : o.IsDictOf (strKind prog w) kvs) (lo : (d == sysModules) = false)
    (hn : NumAt kvs b n) (h : ∀ t, Q (.int n t) { s with toks := s.toks + 1 }) : wpAny (model prog w) A (call (.builtin "dict.get") [.ref d, .str b t, .int 0 t0]) Q E s := by
  rcases hn with ⟨e, rfl⟩ | ⟨t', e⟩
  · exact kdg_get2 (knd := strKind prog w) N hp hd lo (strKind_is _ _ _ _) none e (h _)
  · exact kdg_get2 (knd := strKind prog w) N hp hd lo (strKind_is _ _ _ _) (some _) e (h _)
theorem in_empty {d : Addr} {o : Obj} {b : Str} {t : Tok} {Q : Value → Shared → Prop} (N : News h₀ L s.heap news) (hp : (d, o) ∈ news) (hd : o.IsDictOf (strKind prog w) []) (lo : (d == sysModules) = false)
    (h : Q (.bool false) { s with toks := s.toks + 1 }) : wpAny (model prog w) A (compareOp .In (.str b t) (.ref d)) Q E s := kda_in (knd := strKind prog w) N hp hd lo (strKind_is _ _ _ _) false rfl h
theorem len_text {n : Int} (h0 : 0 ≤ n) (h1 : n ≤ 40) : (PySem.Str.ofString (toString n)).length ≤ 8 := by
  obtain ⟨k, rfl⟩ := Int.eq_ofNat_of_zero_le h0
  have hk : k < 41 := by omega
  have H : ∀ k : Fin 41, (PySem.Str.ofString (toString ((k.val : Nat) : Int))).length ≤ 8 := by decide +kernel
  exact H ⟨k, hk⟩
theorem str_small {n : Int} {t : Tok} {Q : Value → Shared → Prop} (h0 : 0 ≤ n) (h1 : n ≤ 40) (h : ∀ t, Q (.str (PySem.Str.ofString (toString n)) t) { s with toks := s.toks + 1 }) : wpAny (model prog w) A (call (.type "str") [.int n t]) Q E s := by
  refine P.str_of_int ?_ (h _)
  obtain ⟨k, rfl⟩ := Int.eq_ofNat_of_zero_le h0
  have hk : k < 41 := by omega
  have H : ∀ k : Fin 41, ((k.val : Nat) : Int).natAbs.log2 < 1920 := by decide +kernel
  exact H ⟨k, hk⟩
theorem add_small {x y : PySem.Str} {t u : Tok} {Q : Value → Shared → Prop} (h1 : x.length ≤ 1000) (h2 : y.length ≤ 1000) (h : ∀ t' tk, Q (.str (x ++ y) t') { s with toks := tk }) : wpAny (model prog w) A (binaryOp .Add (.str x t) (.str y u)) Q E s :=
  PyProof.Rows.add_str h (by rw [sizeLine_eq]; omega)
theorem truthy_L {l : Addr} {vs : List Value} {n : Nat} {Q : Bool → Shared → Prop} (N : News h₀ L s.heap news) (hm : (l, listO vs n) ∈ news) (hz : vs.length ≤ 1000) (h : Q (!vs.isEmpty) { s with toks := s.toks + 1 + 1 }) : wpAny (model prog w) A (truthy (.ref l)) Q E s := by
  have hL : s.heap.IsList l vs.toArray := ⟨_, (N _ hm).1, rfl, n, rfl⟩
  refine wpAny_truthy_list hL (by rw [List.size_toArray]; omega) ?_
  rw [List.isEmpty_toArray]
  exact h
theorem While_one {env : PySem.Env} {test : PySem.Expr} {body : List PySem.Stmt} {pos : PySem.Pos} {Q : Flow → Shared → Prop} (F : Fr h₀ env.locals s.heap m) (N : News h₀ env.locals s.heap news)
    (turn : ∀ h₁ tk₁, Fr h₀ env.locals h₁ m → News h₀ env.locals h₁ news →
      wpAny (model prog w) A (isTrue test env (eval test env)) (fun b s₂ =>
        if b = true then wpAny (model prog w) A (execs body env) (WhileStep h₀ env.locals s (fun _ m' n' => m' = m ∧ n' = news) 0) E s₂ else Q .next s₂) E { s with heap := h₁, toks := tk₁ })
    (hE : PassesOwn (model prog w) A env E := by passes_own) :
    wpAny (model prog w) A (exec (.While test body [] pos) env) Q E s := by
  refine While_inv (fun n m' n' => n = 0 ∧ m' = m ∧ n' = news) (n₀ := 0) F N ⟨rfl, rfl, rfl⟩ (fun n m₁ news₁ h₁ tk₁ F₁ N₁ hJ => ?_) hE
  obtain ⟨rfl, rfl, rfl⟩ := hJ
  refine wpAny_mono (turn h₁ tk₁ F₁ N₁) (fun b s₂ h₂ => ?_) fun _ _ e => e
  cases b with
  | false => simpa using h₂
  | true =>
    simp only [if_true] at h₂ ⊢
    refine wpAny_mono h₂ (fun f s₃ h₃ => ?_) fun _ _ e => e
    obtain ⟨_, _, _, _, _, n', _, _, _, hn, _⟩ := h₃
    exact absurd hn (Nat.not_lt_zero _)
end
end Mine
end
section
open PySem PySem.W PyProof.Rows PySem.Spec PySem.Calls
set_option genSizeOf false
namespace Mine
structure Hold (p : Prop) : Prop where out : p
section
variable {prog : Program} {w : World} {A : Around} {E : Value → Shared → Prop} {s : Shared} {env : PySem.Env} {h₀ : Heap} {target : PySem.Expr} {body : List PySem.Stmt} {Q : Flow → Shared → Prop}
theorem items_inv {I : Addr} {c : String} {keep : Led} (J : List Value → (Str → Option Value) → Led → Prop)
    (step : ∀ v r m₁ n₁ h tk it, J (v :: r) m₁ n₁ → SubL keep n₁ → (∀ p ∈ n₁, p.1 ≠ I) → it.cls = .type c → Fr h₀ env.locals h m₁ → News h₀ env.locals h ((I, it) :: n₁) →
      wpAny (model prog w) A (assign target env v) (fun _ s₂ => wpAny (model prog w) A (execs body env) (UnrPostW h₀ env.locals { s with heap := h, toks := tk } [(I, it)] (fun m' n' => SubL keep n' ∧ J r m' n') Q) E s₂) E { s with heap := h, toks := tk })
    (fin : ∀ m₁ n₁ h tk, J [] m₁ n₁ → Fr h₀ env.locals h m₁ → News h₀ env.locals h n₁ → Q .next { s with heap := h, toks := tk }) :
    ∀ xs m₀ news, J xs m₀ news → SubL keep news → (∀ p ∈ news, p.1 ≠ I) → ItemsRest prog w A E h₀ env target body Q s [(I, c)] keep (xs.map .val) m₀ news := by
  intro xs
  induction xs with
  | nil => exact fun m₀ news hJ _ _ => .zero fun h tk F N => fin m₀ news h tk hJ F N
  | cons v r ih =>
    intro m₀ news hJ hk ho
    refine .val fun h tk F => .cons fun it hc => .nil fun N => ?_
    refine wpAny_mono (step v r m₀ news h tk it hJ hk ho hc F N) (fun _ s₂ h₂ => wpAny_mono h₂ (fun f s₃ h₃ => ?_) fun _ _ e => e) fun _ _ e => e
    have go : ∀ s₃, UnrEndW h₀ env.locals { s with heap := h, toks := tk } [(I, it)] (fun m' n' => SubL keep n' ∧ J r m' n') s₃ →
        UnrEndW h₀ env.locals { s with heap := h, toks := tk } [(I, it)] (fun m' n' => SubL keep n' ∧ ItemsRest prog w A E h₀ env target body Q s [(I, c)] keep (r.map .val) m' n') s₃ := by
      rintro s₃ ⟨h', tk', m', news', e, F', N', off, hk', hJ'⟩
      exact ⟨h', tk', m', news', e, F', N', off, hk', ih m' news' hJ' hk' fun p hp => off p hp _ (List.mem_singleton.mpr rfl)⟩
    cases f with
    | ret v => exact h₃
    | brk => exact h₃
    | cont => exact go _ h₃
    | next => exact go _ h₃
theorem iter_inv {ax : Addr} {vs : List Value} {n : Nat} {m₀ : Str → Option Value} {news : Led} (J : (Str → Option Value) → List Value → (Str → Option Value) → Led → Prop)
    (hh : A.handled = none) (F : Fr h₀ env.locals s.heap m₀) (N : News h₀ env.locals s.heap news) (hm : (ax, listO vs n) ∈ news) (h0 : J m₀ vs m₀ news)
    (step : ∀ I : Addr, (∀ p ∈ news, p.1 < I) → ∀ v r m₁ n₁ h tk it, J m₀ (v :: r) m₁ n₁ → SubL [(ax, listO vs n)] n₁ → (∀ p ∈ n₁, p.1 ≠ I) → it.cls = .type "list_iterator" → Fr h₀ env.locals h m₁ → News h₀ env.locals h ((I, it) :: n₁) →
      wpAny (model prog w) A (assign target env v) (fun _ s₂ => wpAny (model prog w) A (execs body env) (UnrPostW h₀ env.locals { s with heap := h, toks := tk } [(I, it)] (fun m' n' => SubL [(ax, listO vs n)] n' ∧ J m₀ r m' n') Q) E s₂) E { s with heap := h, toks := tk })
    (fin : ∀ m₁ n₁ h tk, J m₀ [] m₁ n₁ → Fr h₀ env.locals h m₁ → News h₀ env.locals h n₁ → Q .next { s with heap := h, toks := tk }) :
    wpAny (model prog w) A (pyIter (.ref ax)) (fun it s₂ => TurnsAt prog w A h₀ env target body Q E it s₂) E s := by
  refine iter_listTurns hh F N hm rfl rfl fun I hI => ?_
  exact items_inv (J m₀) (step I hI) fin vs m₀ news h0 ⟨hm, trivial⟩ fun p hp => Nat.ne_of_lt (hI p hp)
end
theorem endJ {h₀ : Heap} {L : Addr} {s₁ : Shared} {I : Addr} {it : Obj} {keep post all : Led} {P : (Str → Option Value) → Led → Prop} {h' : Heap} {tk : Nat} {m' : Str → Option Value}
    (F : Fr h₀ L h' m') (N : News h₀ L h' all) (sub : ∀ q ∈ (I, it) :: post, q ∈ all) (off : ∀ p ∈ post, p.1 ≠ I) (k : SubL keep post) (r : P m' post) :
    UnrEndW h₀ L s₁ [(I, it)] (fun m' n' => SubL keep n' ∧ P m' n') { s₁ with heap := h', toks := tk } :=
  ⟨h', tk, m', post, rfl, F, fun p hp => N p (sub p hp), fun p hp q hq => by rw [List.mem_singleton.mp hq]; exact off p hp, k, r⟩
noncomputable def numCore (names : List Str) (c : Core) : Core := names.foldl (fun c x => .add (.var x) c) c
inductive Strs : List Value → List Str → Prop where
  | nil : Strs [] []
  | cons {x : Str} {t : Tok} {vs : List Value} {xs : List Str} : Strs vs xs → Strs (.str x t :: vs) (x :: xs)
theorem lt_step {d x : Addr} {r : Led} (h : @LT.lt Nat _ d x) (k : ∀ p ∈ r, @LT.lt Nat _ p.1 d) : ∀ p ∈ r, @LT.lt Nat _ p.1 x := fun p hp => Nat.lt_trans (k p hp) h
theorem lt_right {x : Addr} {t r : Led} (k : ∀ p ∈ t ++ r, @LT.lt Nat _ p.1 x) : ∀ p ∈ r, @LT.lt Nat _ p.1 x := fun p hp => k p (List.mem_append_right _ hp)
theorem lt_tail {x : Addr} {q : Addr × Obj} {r : Led} (k : ∀ p ∈ q :: r, @LT.lt Nat _ p.1 x) : ∀ p ∈ r, @LT.lt Nat _ p.1 x := fun p hp => k p (List.mem_cons_of_mem _ hp)
theorem AllLt_app {d : Addr} {b : Led} : ∀ {a : Led}, AllLt d (a ++ b) ↔ (AllLt d a ∧ AllLt d b)
  | [] => ⟨fun h => ⟨trivial, h⟩, fun h => h.2⟩
  | x :: a => ⟨fun h => ⟨⟨h.1, (AllLt_app.mp h.2).1⟩, (AllLt_app.mp h.2).2⟩, fun h => ⟨h.1.1, AllLt_app.mpr ⟨h.1.2, h.2⟩⟩⟩
theorem Upd_app {d : Addr} {o o' : Obj} {t r r' : Led} (h : ∀ p ∈ t, p.1 ≠ d) (k : Upd d o o' r r') : Upd d o o' (t ++ r) (t ++ r') := by
  induction t with
  | nil => exact k
  | cons x t ih => exact .tail (h x (.head _)) (ih fun p hp => h p (.tail _ hp))
theorem UpdF_app {d : Addr} {o : Obj} {t r : Led} {g : Obj → Led} (h : ∀ p ∈ t, p.1 ≠ d) (k : UpdF d o r g) : UpdF d o (t ++ r) (fun o' => t ++ g o') := by
  induction t with
  | nil => exact k
  | cons x t ih => exact .tail (h x (.head _)) (ih fun p hp => h p (.tail _ hp))
inductive Drop1 (p : Addr × Obj) : Led → Led → Prop where
  | head {r : Led} : Drop1 p (p :: r) r
  | tail {x : Addr × Obj} {l r : Led} : Drop1 p l r → Drop1 p (x :: l) (x :: r)
  | app {t l r : Led} : Drop1 p l r → Drop1 p (t ++ l) (t ++ r)
theorem Drop1.mem {p : Addr × Obj} {l r : Led} (h : Drop1 p l r) : ∀ q ∈ p :: r, q ∈ l := by
  induction h with
  | head => exact fun q hq => hq
  | tail _ ih =>
    intro q hq
    rcases List.mem_cons.mp hq with rfl | hq
    · exact List.mem_cons_of_mem _ (ih _ (.head _))
    · rcases List.mem_cons.mp hq with rfl | hq
      · exact .head _
      · exact List.mem_cons_of_mem _ (ih _ (List.mem_cons_of_mem _ hq))
  | app _ ih =>
    intro q hq
    rcases List.mem_cons.mp hq with rfl | hq
    · exact List.mem_append_right _ (ih _ (.head _))
    · rcases List.mem_append.mp hq with hq | hq
      · exact List.mem_append_left _ hq
      · exact List.mem_append_right _ (ih _ (List.mem_cons_of_mem _ hq))
theorem endD {h₀ : Heap} {L : Addr} {s₁ : Shared} {I : Addr} {it : Obj} {keep post all : Led} {P : (Str → Option Value) → Led → Prop} {h' : Heap} {tk : Nat} {m' : Str → Option Value}
    (F : Fr h₀ L h' m') (N : News h₀ L h' all) (D : Drop1 (I, it) all post) (off : ∀ p ∈ post, p.1 ≠ I) (k : SubL keep post) (r : P m' post) :
    UnrEndW h₀ L s₁ [(I, it)] (fun m' n' => SubL keep n' ∧ P m' n') { s₁ with heap := h', toks := tk } := endJ F N D.mem off k r
theorem ne_cons {I : Addr} {x : Addr × Obj} {r : Led} (h : x.1 ≠ I) (k : ∀ p ∈ r, p.1 ≠ I) : ∀ p ∈ x :: r, p.1 ≠ I := fun p hp => by
  rcases List.mem_cons.mp hp with rfl | hp
  · exact h
  · exact k p hp
theorem ne_app {I : Addr} {t r : Led} (h : ∀ p ∈ t, p.1 ≠ I) (k : ∀ p ∈ r, p.1 ≠ I) : ∀ p ∈ t ++ r, p.1 ≠ I := fun p hp => (List.mem_append.mp hp).elim (h p) (k p)
theorem ne_lt {I : Addr} {r : Led} (h : ∀ p ∈ r, @LT.lt Nat _ p.1 I) : ∀ p ∈ r, p.1 ≠ I := fun p hp => Nat.ne_of_lt (h p hp)
theorem ne_above {I : Addr} {it : Obj} {t r : Led} (h : Above t r) (m : (I, it) ∈ r) : ∀ p ∈ t, p.1 ≠ I := fun p hp => (h p hp _ m).symm
theorem off1_ne {I : Addr} : ∀ {r : Led}, LCg.Off1 I r → ∀ p ∈ r, p.1 ≠ I
  | [], _, _, h => nomatch h
  | _ :: _, x, p, h => by
    rcases List.mem_cons.mp h with rfl | h
    · exact x.1
    · exact off1_ne x.2 p h
theorem ne_pre {n tl base : Led} {x : Addr} (h : Pre n tl base) (k : ∀ p ∈ n, p.1 ≠ x) : ∀ p ∈ base, p.1 ≠ x := fun p hp => k p (by rw [h.eq]; exact List.mem_append_right _ hp)
theorem ne_right {x : Addr} {t r : Led} (k : ∀ p ∈ t ++ r, p.1 ≠ x) : ∀ p ∈ r, p.1 ≠ x := fun p hp => k p (List.mem_append_right _ hp)
theorem lt_pre {n tl base : Led} {x : Addr} (h : Pre n tl base) (k : ∀ p ∈ n, @LT.lt Nat _ p.1 x) : ∀ p ∈ base, @LT.lt Nat _ p.1 x := fun p hp => k p (by rw [h]; exact List.mem_append_right _ hp)
noncomputable def sh (fn tn : Str) (o : Option Value) (v : Value) (m₀ : Str → Option Value) : Str → Option Value := fun y => if y = fn then some v else if y = tn then o else m₀ y
theorem sh_init {fn tn : Str} {v : Value} {m₀ : Str → Option Value} (h1 : m₀ fn = some v) (h2 : m₀ tn = none) : m₀ = sh fn tn none v m₀ := by
  funext y
  unfold sh
  split
  · next h => rw [h, h1]
  · split
    · next h => rw [h, h2]
    · rfl
theorem sh_step {fn tn : Str} {o : Option Value} {v v' nv : Value} {m₀ : Str → Option Value} : (fun y => if y = fn then some v' else (fun y => if y = tn then some nv else sh fn tn o v m₀ y) y) = sh fn tn (some nv) v' m₀ := by
  funext y
  unfold sh
  by_cases h1 : y = fn
  · simp only [h1, if_true]
  · by_cases h2 : y = tn
    · simp only [h1, h2, if_true, if_false]
    · simp only [h1, h2, if_false]
theorem isList_of {h₀ h : Heap} {L l : Addr} {news : Led} {vs : List Value} {n : Nat} (N : News h₀ L h news) (m : (l, listO vs n) ∈ news) : h.IsList l vs.toArray := ⟨_, (N _ m).1, rfl, n, rfl⟩
theorem comp_end0 {h₀ : Heap} {L I C D : Addr} {m : Str → Option Value} {s₁ : Shared} {oI oC oD : Obj} {S : Led → Prop} {rest : Value → Led → Prop} {y : Value} {h' : Heap} {tk : Nat} {news : Led}
    (F : Fr h₀ L h' m) (N : News h₀ L h' ((I, oI) :: (C, oC) :: (D, oD) :: news)) (off : LCg.Off3 I C D news) (hS : S news) (r : rest y news) :
    LCg.CompEnd h₀ L m s₁ I oI C oC D oD S rest y { s₁ with heap := h', toks := tk } := LCg.CompEnd.intro F N news (fun _ hp => hp) off hS r
theorem comp_end2 {h₀ : Heap} {L I C D T U : Addr} {m : Str → Option Value} {s₁ : Shared} {oI oC oD o u : Obj} {S : Led → Prop} {rest : Value → Led → Prop} {y : Value} {h' : Heap} {tk : Nat} {news : Led}
    (F : Fr h₀ L h' m) (N : News h₀ L h' ((T, o) :: (U, u) :: (I, oI) :: (C, oC) :: (D, oD) :: news)) (l1 : @Ne Nat T I ∧ @Ne Nat T C ∧ @Ne Nat T D) (l2 : @Ne Nat U I ∧ @Ne Nat U C ∧ @Ne Nat U D) (off : LCg.Off3 I C D news) (hS : S ((T, o) :: (U, u) :: news)) (r : rest y ((T, o) :: (U, u) :: news)) :
    LCg.CompEnd h₀ L m s₁ I oI C oC D oD S rest y { s₁ with heap := h', toks := tk } :=
  LCg.CompEnd.intro F N ((T, o) :: (U, u) :: news) (fun p hp => by simp only [List.mem_cons] at hp ⊢; rcases hp with h | h | h | h | h | h <;> simp [h])
    ⟨l1, l2, off⟩ hS r
inductive It where
  | one (k : Int)
  | two (a b : Int)
noncomputable def It.core : It → Core
  | .one k => .lit k
  | .two a b => .con2 "(,)" (.lit a) (.lit b)
noncomputable def itemsCore (its : List It) (c : Core) : Core := its.foldr (fun i c => .con2 ":" i.core c) c
inductive Its (news : Led) : List Value → List It → Prop where
  | nil : Its news [] []
  | one {k : Int} {t : Tok} {vs : List Value} {is : List It} : Its news vs is → Its news (.int k t :: vs) (.one k :: is)
  | two {a b : Int} {p : Addr} {t u : Tok} {n : Nat} {vs : List Value} {is : List It} : (p, tupO [.int a t, .int b u] n) ∈ news → Its news vs is → Its news (.ref p :: vs) (.two a b :: is)
theorem Its.mono {news news' : Led} (hs : ∀ q ∈ news, q ∈ news') {vs : List Value} {is : List It} (h : Its news vs is) : Its news' vs is := by
  induction h with
  | nil => exact .nil
  | one _ ih => exact .one ih
  | two m _ ih => exact .two (hs _ m) ih
theorem Its.app {news : Led} {vs vs' : List Value} {is is' : List It} (h : Its news vs is) (k : Its news vs' is') : Its news (vs ++ vs') (is ++ is') := by
  induction h with
  | nil => exact k
  | one _ ih => exact .one ih
  | two m _ ih => exact .two m ih
theorem Its.rev {news : Led} {vs : List Value} {is : List It} (h : Its news vs is) : Its news vs.reverse is.reverse := by
  induction h with
  | nil => exact .nil
  | one _ ih => rw [List.reverse_cons, List.reverse_cons]; exact ih.app (.one .nil)
  | two m _ ih => rw [List.reverse_cons, List.reverse_cons]; exact ih.app (.two m .nil)
noncomputable def sh3 (fn cn tn : Str) (oc ot : Option Value) (v : Value) (m₀ : Str → Option Value) : Str → Option Value := fun y => if y = fn then some v else if y = cn then oc else if y = tn then ot else m₀ y
theorem sh3_init {fn cn tn : Str} {v : Value} {m₀ : Str → Option Value} (h1 : m₀ fn = some v) (h2 : m₀ tn = none) (h3 : m₀ cn = none) : m₀ = sh3 fn cn tn none none v m₀ := by
  funext y
  unfold sh3
  split
  · next h => rw [h, h1]
  · split
    · next h => rw [h, h3]
    · split
      · next h => rw [h, h2]
      · rfl
theorem sh3_step {fn cn tn : Str} {oc ot : Option Value} {v v' nc nv : Value} {m₀ : Str → Option Value} : (fun y => if y = fn then some v' else (fun y => if y = cn then some nc else (fun y => if y = tn then some nv else sh3 fn cn tn oc ot v m₀ y) y) y) = sh3 fn cn tn (some nc) (some nv) v' m₀ := by
  funext y
  unfold sh3
  by_cases h1 : y = fn
  · simp only [h1, if_true]
  · by_cases h2 : y = cn
    · simp only [h1, h2, if_true, if_false]
    · by_cases h3 : y = tn
      · simp only [h1, h2, h3, if_true, if_false]
      · simp only [h1, h2, h3, if_false]
noncomputable def JIts (w : World) (base : Led) (m₀ : Str → Option Value) (total : Core) (xs : List Value) (m : Str → Option Value) (n : Led) : Prop :=
  ∃ is a c tl oc ot, Its base xs is ∧ Pre n tl base ∧ CoreIn w tl a c ∧ is.foldl (fun c i => .con2 ":" i.core c) c = total ∧ Above tl base ∧ m = sh3 "found" "core" "item" oc ot (.ref a) m₀
noncomputable def JNum (w : World) (base : Led) (m₀ : Str → Option Value) (total : Core) (xs : List Value) (m : Str → Option Value) (n : Led) : Prop :=
  ∃ nms a c tl o, Strs xs nms ∧ Pre n tl base ∧ CoreIn w tl a c ∧ numCore nms c = total ∧ Above tl base ∧ m = sh "found" "name" o (.ref a) m₀
theorem ne_lt1 {d : Addr} {l : Led} (h : ∀ p ∈ l, @LT.lt Nat _ p.1 d) : ∀ p ∈ l, p.1 ≠ @HAdd.hAdd Nat Nat Nat _ d 1 := fun p hp => Nat.ne_of_lt (Nat.lt_succ_of_lt (h p hp))
theorem ne_lt2 {d : Addr} {l : Led} (h : ∀ p ∈ l, @LT.lt Nat _ p.1 d) : ∀ p ∈ l, p.1 ≠ @HAdd.hAdd Nat Nat Nat _ (@HAdd.hAdd Nat Nat Nat _ d 1) 1 := fun p hp => Nat.ne_of_lt (Nat.lt_succ_of_lt (Nat.lt_succ_of_lt (h p hp)))
theorem ne_all1 {d : Addr} {l : Led} (h : AllLt d l) : ∀ p ∈ l, p.1 ≠ @HAdd.hAdd Nat Nat Nat _ d 1 := fun p hp => Nat.ne_of_lt (Nat.lt_succ_of_lt (lt_all h p hp))
theorem ne_all2 {d : Addr} {l : Led} (h : AllLt d l) : ∀ p ∈ l, p.1 ≠ @HAdd.hAdd Nat Nat Nat _ (@HAdd.hAdd Nat Nat Nat _ d 1) 1 := fun p hp => Nat.ne_of_lt (Nat.lt_succ_of_lt (Nat.lt_succ_of_lt (lt_all h p hp)))
theorem ne_ltsub {x : Addr} {R r : Led} (h : ∀ p ∈ R, @LT.lt Nat _ p.1 x) (s : ∀ q ∈ r, q ∈ R) : ∀ p ∈ r, p.1 ≠ x := fun p hp => Nat.ne_of_lt (h p (s p hp))
theorem off1_mem {D i : Addr} {o : Obj} {l : Led} (h : LCg.Off1 D l) (m : (i, o) ∈ l) : D ≠ i := (off1_ne h _ m).symm
theorem off1_mem' {D i : Addr} {o : Obj} {l : Led} (h : LCg.Off1 D l) (m : (i, o) ∈ l) : i ≠ D := off1_ne h _ m
theorem off1_sub {D : Addr} {l r : Led} (h : LCg.Off1 D l) (k : ∀ q ∈ r, q ∈ l) : ∀ p ∈ r, p.1 ≠ D := fun p hp => off1_ne h _ (k p hp)
theorem ne_allsub {x : Addr} {R r : Led} (h : AllLt x R) (s : ∀ q ∈ r, q ∈ R) : ∀ p ∈ r, p.1 ≠ x := fun p hp => ne_all h p (s p hp)
theorem lt_allsub {x : Addr} {R r : Led} (h : AllLt x R) (s : ∀ q ∈ r, q ∈ R) : ∀ p ∈ r, @LT.lt Nat _ p.1 x := fun p hp => lt_all h p (s p hp)
theorem lt_ltsub {x : Addr} {R r : Led} (h : ∀ p ∈ R, @LT.lt Nat _ p.1 x) (s : ∀ q ∈ r, q ∈ R) : ∀ p ∈ r, @LT.lt Nat _ p.1 x := fun p hp => h p (s p hp)
end Mine
end
section
open PySem PySem.W PyProof.Rows PySem.Spec PySem.Calls
set_option genSizeOf false
namespace Mine
noncomputable def freshIn (f : Str) (es : List DictEntry) : Bool := es.all fun e => match e.key with | .str g _ => !(g == f) | _ => false
theorem fresh_key {f : Str} {e : DictEntry} (h : (match e.key with | .str g _ => !(g == f) | _ => false) = true) : e.key.isStr f = false ∧ e.refKey = false := by
  obtain ⟨hs, k, v⟩ := e
  cases k <;> first | (simp [Value.isStr, DictEntry.refKey] at h ⊢; done) | (simp [Value.isStr, DictEntry.refKey] at h ⊢; exact h)
theorem fresh_get {f : Str} : ∀ {es : List DictEntry}, freshIn f es = true → getL f es = some none ∧ (∀ hs k v, putL f hs k v es = es ++ [⟨hs, k, v⟩]) ∧ ∀ n, putN f es n = n + 1
  | [], _ => ⟨rfl, fun _ _ _ => rfl, fun _ => rfl⟩
  | e :: r, h => by
    have h' := Bool.and_eq_true_iff.mp (show ((match e.key with | .str g _ => !(g == f) | _ => false) && freshIn f r) = true from h)
    obtain ⟨k1, k2⟩ := fresh_key h'.1
    obtain ⟨a, b, c⟩ := fresh_get h'.2
    refine ⟨?_, fun hs k v => ?_, fun n => ?_⟩
    · unfold getL at a ⊢
      simp only [List.find?_cons, k1, List.any_cons, k2, Bool.false_or]
      exact a
    · simp only [putL, k1, Bool.false_eq_true, if_false, b, List.cons_append]
    · have := c n
      unfold putN at this ⊢
      simp only [List.any_cons, k1, Bool.false_or]
      exact this
structure SetC (K : Frag) (C : Addr) : Prop where
  hs : findIn K (.ref C) "__setattr__" = some (some (.builtin "object.__setattr__"))
  hp : plainOver K C = true
  hh : hasDictIn K C = true
theorem Upd_at {x d : Addr} {o o' oi : Obj} {r : Led} : ∀ {t : Led}, (∀ q ∈ t, q.1 ≠ d) → @Ne Nat x d → (∀ q ∈ r, q.1 ≠ d) → Upd d o o' (t ++ (x, oi) :: (d, o) :: r) (t ++ (x, oi) :: (d, o') :: r)
  | [], _, h2, h3 => .tail h2 (.head h3)
  | q :: t, h1, h2, h3 => .tail (h1 q (.head _)) (Upd_at (fun p hp => h1 p (.tail _ hp)) h2 h3)
section
variable {prog : Program} {w : World} {A A₀ : Around} {E : Value → Shared → Prop} {s : Shared} {K : Frag} {C L : Addr} {h₀ base : Heap} {m mg mb : Str → Option Value} {news : Led} {p : Program} {loose : List Str} {mean : ExcName → Option Value} {env : PySem.Env} {outer : List PySem.Env}
theorem set1 {cn : Str} {cs : Scope} {a x dx : Addr} {ccd : Value} {f : Str} {val : PySem.Expr} {es : List DictEntry} {n : Nat} {pa pb pd : PySem.Pos} {t' : Led} {v : Value} {Q : Flow → Shared → Prop}
    (X : K.In h₀) (S : SetC K C) (hk : cs.kind = .function) (k1 : (envOf cn cs L a ccd).kindOf "self" = some .local) (hx : m "self" = some (.ref x))
    (ht : takerIn K C f = some none) (hl : freshIn f es = true) (hz : es.length ≤ 40) (o1 : ∀ q ∈ t', q.1 ≠ dx) (o2 : @Ne Nat x dx) (o3 : ∀ q ∈ news, q.1 ≠ dx)
    (sw : ∀ l, swapsWith val (some (.Attribute (.Name "self" pa) f pb)) l (envOf cn cs L a ccd) = pure false)
    (ev : ∀ R : Value → Shared → Prop, (∀ h' tk, Fr h₀ L h' m → News h₀ L h' (t' ++ (x, instObj C dx) :: (dx, dictOf es n) :: news) → R v { s with heap := h', toks := tk }) → wpAny (model prog w) A (eval val (envOf cn cs L a ccd)) R E s)
    (h : ∀ h' tk t, Fr h₀ L h' m → News h₀ L h' (t' ++ (x, instObj C dx) :: (dx, dictOf (es ++ [at_ w f t v]) (n + 1)) :: news) → Q .next { s with heap := h', toks := tk }) :
    wpAny (model prog w) A (exec (.Assign [.Attribute (.Name "self" pa) f pb] val pd) (envOf cn cs L a ccd)) Q E s := by
  obtain ⟨a1, a2, a3⟩ := fresh_get hl
  refine plainObj_wpAny_Assign_Attribute (ev _ fun h₁ tk F N => ?_) (sw _)
  refine nameX_L (cl := []) F hx ?_ hk k1 rfl
  refine set_dict F X N (InstAt.of_news N (List.mem_append_right _ (.head _)) (List.mem_append_right _ (.tail _ (.head _)))) rfl S.hs S.hp ht S.hh (by rw [a1]; rfl) (by rw [a2, a3]) (Upd_at o1 o2 o3) (by rw [List.length_append]; exact Nat.le_trans (Nat.add_le_add_right hz 1) (by decide)) fun h' F' N' => ?_
  exact h h' _ _ F' N'
theorem ev_name {cn : Str} {cs : Scope} {a : Addr} {ccd : Value} {pn : Str} {pc : PySem.Pos} {v : Value} {led : Led} (F : Fr h₀ L s.heap m) (N : News h₀ L s.heap led) (hk : cs.kind = .function) (k2 : (envOf cn cs L a ccd).kindOf pn = some .local) (hd : (pn == ("__debug__" : Str)) = false) (hv : m pn = some v) :
    ∀ R : Value → Shared → Prop, (∀ h' tk, Fr h₀ L h' m → News h₀ L h' led → R v { s with heap := h', toks := tk }) → wpAny (model prog w) A (eval (.Name pn pc) (envOf cn cs L a ccd)) R E s :=
  fun R k => nameX_L (cl := []) F hv (k _ _ F N) hk k2 hd
theorem setL {cn : Str} {cs : Scope} {a x dx : Addr} {ccd : Value} {f : Str} {es : List DictEntry} {n : Nat} {pa pb pc pd : PySem.Pos} {Q : Flow → Shared → Prop}
    (F : Fr h₀ L s.heap m) (X : K.In h₀) (N : News h₀ L s.heap ((x, instObj C dx) :: (dx, dictOf es n) :: news)) (S : SetC K C) (hk : cs.kind = .function) (k1 : (envOf cn cs L a ccd).kindOf "self" = some .local) (hx : m "self" = some (.ref x))
    (ht : takerIn K C f = some none) (hl : freshIn f es = true) (hz : es.length ≤ 40) (o2 : @LT.lt Nat _ dx x) (o3 : ∀ q ∈ news, q.1 ≠ dx)
    (sw : ∀ l, swapsWith (.List [] pc) (some (.Attribute (.Name "self" pa) f pb)) l (envOf cn cs L a ccd) = pure false)
    (h : ∀ h' tk t l, Fr h₀ L h' m → News h₀ L h' ((l, listO [] 0) :: (x, instObj C dx) :: (dx, dictOf (es ++ [at_ w f t (.ref l)]) (n + 1)) :: news) → @LT.lt Nat _ x l → Q .next { s with heap := h', toks := tk }) :
    wpAny (model prog w) A (exec (.Assign [.Attribute (.Name "self" pa) f pb] (.List [] pc) pd) (envOf cn cs L a ccd)) Q E s := by
  obtain ⟨a1, a2, a3⟩ := fresh_get hl
  refine plainObj_wpAny_Assign_Attribute (List_ (args_nil (newList_K F N (fun l h₁ F1 N1 lt => ?_) (by size_fits)))) (sw _)
  have l1 : @LT.lt Nat _ x l := lt _ (.head _)
  refine nameX_L (cl := []) F1 hx ?_ hk k1 rfl
  refine set_dict F1 X N1 (InstAt.of_news N1 (.tail _ (.head _)) (.tail _ (.tail _ (.head _)))) rfl S.hs S.hp ht S.hh (by rw [a1]; rfl) (by rw [a2, a3]) (Upd_at (t := [(l, listO [] 0)]) (fun q hq => by rw [List.mem_singleton.mp hq]; exact Nat.ne_of_gt (Nat.lt_trans o2 l1)) (Nat.ne_of_gt o2) o3) (by rw [List.length_append]; exact Nat.le_trans (Nat.add_le_add_right hz 1) (by decide)) fun h' F' N' => ?_
  exact h h' _ _ l F' N' l1
noncomputable def InitDone (h₀ : Heap) (L x C dx : Addr) (s : Shared) (news : Led) (P : Led → Obj → Prop) (fl : Flow) (s' : Shared) : Prop :=
  fl = .next ∧ ∃ h' tk m' t o, s' = { s with heap := h', toks := tk } ∧ Fr h₀ L h' m' ∧ News h₀ L h' (t ++ (x, instObj C dx) :: (dx, o) :: news) ∧ P t o
theorem call_init {pos : List Value} {fI : Addr} {name qual : Str} {params : Arguments} {body : List Stmt} {scope : Scope} {dV kV doc pm cdv ct oc : Value} {an od : Option Addr} {osl : Array (Option Value)} {binds : List (Str × Value)} {P : Addr → Led → Obj → Prop} {Q : Value → Shared → Prop}
    (B : Below A₀ base outer h₀) (F : Fr h₀ L s.heap m) (X : K.In h₀) (N : News h₀ L s.heap news) (T : Top p loose mean mg mb h₀) (hA : A.frames = some (env :: outer)) (hf : env.frame = some L) (hke : env.scope.kind = .function) (hroom : A.depth + 1 < recursionLimit)
    (hm : makesIn K C = true) (hi : findIn K (.ref C) "__init__" = some (some (.ref fI))) (hfn : isFn K (.ref fI) = true)
    (ho : K.lookup fI = some ⟨oc, od, .func (fnOf name qual params body scope dV kV doc pm an cdv ct), osl⟩) (hcd : codeIn K cdv qual = true)
    (hbind : ∀ (x : Addr) (s' : Shared), K.In s'.heap → BindsTo s' (fnOf name qual params body scope dV kV doc pm an cdv ct) ⟨.ref x :: pos, []⟩ ((("self" : Str), Value.ref x) :: binds))
    (hloc : ∀ x, ∀ y ∈ ((("self" : Str), Value.ref x) :: binds), scope.names.lookup y.1 = some .local)
    (hco : scope.isCoroutine = false) (hgen : scope.isGenerator = false) (hk : scope.kind = .function) (hcell : ∀ x ∈ scope.names, x.2 ≠ .cell)
    (hbody : ∀ (x dx : Addr) (g : Heap) (L' : Addr) (h₁ : Heap) (tk : Nat) (E' : Value → Shared → Prop), Fr g L' h₁ (fun y => ((("self" : Str), Value.ref x) :: binds).reverse.lookup y) → News g L' h₁ ((x, instObj C dx) :: (dx, dictOf [] 0) :: news) → K.In g → Below (A.under (.builtin "type.__call__" ⟨.ref C :: pos, []⟩)) base (env :: outer) g → Top p loose mean mg mb g →
      (∀ q ∈ news, @LT.lt Nat _ q.1 dx) → @LT.lt Nat _ dx x →
      wpAny (model prog w) ((A.under (.builtin "type.__call__" ⟨.ref C :: pos, []⟩)).deeper (envOf qual scope L' fI cdv)) (execs body (envOf qual scope L' fI cdv)) (InitDone g L' x C dx { s with heap := h₁, toks := tk } news (P x)) E' { s with heap := h₁, toks := tk })
    (ret : ∀ (x dx : Addr) (t : Led) (o : Obj) (h' : Heap) (tk : Nat), Fr h₀ L h' m → News h₀ L h' (t ++ (x, instObj C dx) :: (dx, o) :: news) → P x t o → (∀ q ∈ news, @LT.lt Nat _ q.1 dx) → @LT.lt Nat _ dx x → Q (.ref x) { s with heap := h', toks := tk }) :
    wpAny (model prog w) A (call (.ref C) pos []) Q E s := by
  refine call_cls F X N hm hi hfn fun x dx h' F' N' l1 l2 => ?_
  refine code_def (s := { s with heap := h' }) B F' X N' T hA hf hke ho hcd hroom (hbind x _ (X.keeps F'.keep)) (hloc x) (fun g L' h₁ FG F1 N1 B1 X1 T1 => ?_) hco hgen hk hcell
  refine wpAny_mono (hbody x dx g L' h₁ _ _ F1 N1 X1 B1 T1 l1 l2) (fun fl s' hd => ?_) fun _ _ e => e
  obtain ⟨rfl, h2, tk2, m2, t, o, rfl, F2, N2, hP⟩ := hd
  refine leaveK_ F2 N2 fun F3 N3 => ⟨rfl, ?_⟩
  exact ret x dx t o h2 tk2 F3 N3 hP l1 l2
end
end Mine
end
section
open PySem PySem.W PyProof.Rows PySem.Spec PySem.Calls
set_option maxHeartbeats 4000000
namespace Mine
section
variable {prog : Program} {w : World} {A A₀ : Around} {E : Value → Shared → Prop} {s : Shared} {L : Addr} {h₀ base : Heap} {m mg mb : Str → Option Value} {news : Led} {p : Program} {loose : List Str} {mean : ExcName → Option Value} {env : PySem.Env} {outer : List PySem.Env}
theorem node1 {cn : Str} {cs : Scope} {a x C dx : Addr} {ccd : Value} {pa pb pc pd pe pf : PySem.Pos} {v : Value} {Q : Flow → Shared → Prop}
    (B : Below A₀ base outer h₀) (F : Fr h₀ L s.heap m) (X : (Mine.H.KK w.params).In h₀) (N : News h₀ L s.heap ((x, instObj C dx) :: (dx, dictOf [] 0) :: news)) (T : Top p loose mean mg mb h₀) (hA : A.frames = some (envOf cn cs L a ccd :: outer)) (hroom : A.depth < recursionLimit)
    (S : SetC (Mine.H.KK w.params) C) (ht : takerIn (Mine.H.KK w.params) C "place" = some none) (o2 : @Ne Nat x dx) (o3 : ∀ q ∈ news, q.1 ≠ dx)
    (hk : cs.kind = .function) (k0 : (envOf cn cs L a ccd).kindOf "Node" = some .globalImplicit) (k1 : (envOf cn cs L a ccd).kindOf "self" = some .local) (k2 : (envOf cn cs L a ccd).kindOf "place" = some .local)
    (hx : m "self" = some (.ref x)) (hv : m "place" = some v) (hi : interactive (envOf cn cs L a ccd) = false)
    (sw : swapsWith (.Call (.Attribute (.Name "Node" pa) "__init__" pb) [.Name "self" pc, .Name "place" pd] [] pe) none pf.line (envOf cn cs L a ccd) = pure false)
    {pl : Sem Bool} (he : eval (.Call (.Attribute (.Name "Node" pa) "__init__" pb) [.Name "self" pc, .Name "place" pd] [] pe) (envOf cn cs L a ccd) = (do
      let ov ← eval (.Name "Node" pa) (envOf cn cs L a ccd)
      standAt pb.atName
      let (f, first) ← holding [ov] (getMethod ov "__init__" pl)
      callWith pe f first (backTo pe (starEach [.Name "self" pc, .Name "place" pd] (envOf cn cs L a ccd))) []))
    (h : ∀ h' tk t, Fr h₀ L h' m → News h₀ L h' ((x, instObj C dx) :: (dx, dictOf [at_ w "place" t v] 1) :: news) → Q .next { s with heap := h', toks := tk }) :
    wpAny (model prog w) A (exec (.Expr (.Call (.Attribute (.Name "Node" pa) "__init__" pb) [.Name "self" pc, .Name "place" pd] [] pe) pf) (envOf cn cs L a ccd)) Q E s := by
  refine wpAny_Expr ?_ hi sw
  refine MethodCall_ ?_ he
  refine name_K F X (topRead_of T) (by k_is) ?_ hk k0 rfl
  refine method_of_cls F X (by k_is) ?_
  refine cls_val F X (by k_is) (by k_is) (by k_is) rfl ?_
  refine callWith_K X (by k_is) ?_
  refine args_cons (nameX_L (cl := []) F hx ?_ hk k1 rfl)
  refine args_cons (nameX_L (cl := []) F hv ?_ hk k2 rfl)
  refine args_nil ⟨X.keeps F.keep, ?_⟩
  refine wpAny_call ?_
  refine' code_def (binds := [("self", .ref x), ("place", v)]) B F X N T hA rfl hk ?ho ?hcd hroom ?hb ?hl ?hbody ?c1 ?c2 ?c3 ?c4
  case ho => k_is
  case hcd => k_is
  case hb => exact BindsTo.of_eq rfl
  case hl => exact locs rfl
  case c1 => exact rfl
  case c2 => exact rfl
  case c3 => exact rfl
  case c4 => decide
  case hbody =>
    intro g L' h₁ FG F1 N1 B1 X1 T1
    refine wpAny_execs_cons (set1 (t' := []) X1 S rfl rfl rfl ht rfl (Nat.le_of_ble_eq_true rfl) (fun _ h => nomatch h) o2 o3 (fun _ => rfl) (ev_name F1 N1 rfl rfl rfl rfl) fun h2 tk2 t1 F2 N2 => ?_)
    refine wpAny_execs_nil (leaveK_ F2 N2 fun F3 N3 => ?_)
    exact h _ _ _ F3 N3
end
end Mine
end
section
open PySem PySem.W PyProof.Rows PySem.Spec PySem.Calls
namespace Mine
theorem room0 {x i j c : Nat} (h : x + j < c) (e : Nat.ble i j = true) : x + i < c := Nat.lt_of_le_of_lt (Nat.add_le_add_left (Nat.le_of_ble_eq_true e) x) h
theorem room00 {x j c : Nat} (h : x + j < c) : x < c := Nat.lt_of_le_of_lt (Nat.le_add_right x j) h
theorem room1 {x i j c : Nat} (h : x + j < c) (e : Nat.ble (i + 1) j = true) : x + 1 + i < c := by have := Nat.le_of_ble_eq_true e; omega
theorem room2 {x i j c : Nat} (h : x + j < c) (e : Nat.ble (i + 2) j = true) : x + 1 + 1 + i < c := by have := Nat.le_of_ble_eq_true e; omega
theorem room3 {x i j c : Nat} (h : x + j < c) (e : Nat.ble (i + 3) j = true) : x + 1 + 1 + 1 + i < c := by have := Nat.le_of_ble_eq_true e; omega
theorem allLt_mem {d : Addr} {q : Addr × Obj} {l : Led} (m : q ∈ l) : AllLt d l → @LT.lt Nat _ q.1 d := by
  induction m with
  | head => exact fun h => h.1
  | tail _ _ ih => exact fun h => ih h.2
theorem lt_mem {a b : Addr} {o : Obj} {l : Led} (h : AllLt b l) (m : (a, o) ∈ l) : @LT.lt Nat _ a b := allLt_mem m h
theorem lt_memT {a b x : Addr} {o : Obj} {l : Led} (h : @LT.lt Nat _ b x) (k : AllLt b l) (m : (a, o) ∈ l) : @LT.lt Nat _ a x := Nat.lt_trans (allLt_mem m k) h
theorem allLt_sub {d : Addr} {l r : Led} (h : AllLt d l) (k : ∀ q ∈ r, q ∈ l) : AllLt d r := by
  induction r with
  | nil => trivial
  | cons x r ih => exact ⟨allLt_mem (k _ (.head _)) h, ih fun q hq => k q (.tail _ hq)⟩
theorem ne_allsubT {d x : Addr} {R r : Led} (k : @LT.lt Nat _ d x) (h : AllLt d R) (s : ∀ q ∈ r, q ∈ R) : ∀ p ∈ r, p.1 ≠ x := fun p hp => Nat.ne_of_lt (Nat.lt_trans (lt_all h p (s p hp)) k)
theorem lt_allsubT {d x : Addr} {R r : Led} (k : @LT.lt Nat _ d x) (h : AllLt d R) (s : ∀ q ∈ r, q ∈ R) : ∀ p ∈ r, @LT.lt Nat _ p.1 x := fun p hp => Nat.lt_trans (lt_all h p (s p hp)) k
theorem ne_allsub1 {d : Addr} {R r : Led} (h : AllLt d R) (s : ∀ q ∈ r, q ∈ R) : ∀ p ∈ r, p.1 ≠ @HAdd.hAdd Nat Nat Nat _ d 1 := fun p hp => ne_all1 h p (s p hp)
theorem ne_allsub2 {d : Addr} {R r : Led} (h : AllLt d R) (s : ∀ q ∈ r, q ∈ R) : ∀ p ∈ r, p.1 ≠ @HAdd.hAdd Nat Nat Nat _ (@HAdd.hAdd Nat Nat Nat _ d 1) 1 := fun p hp => ne_all2 h p (s p hp)
theorem lt_mem1 {a b : Addr} {o : Obj} {l : Led} (h : AllLt b l) (m : (a, o) ∈ l) : @LT.lt Nat _ a (@HAdd.hAdd Nat Nat Nat _ b 1) := Nat.lt_succ_of_lt (allLt_mem m h)
theorem lt_mem2 {a b : Addr} {o : Obj} {l : Led} (h : AllLt b l) (m : (a, o) ∈ l) : @LT.lt Nat _ a (@HAdd.hAdd Nat Nat Nat _ (@HAdd.hAdd Nat Nat Nat _ b 1) 1) := Nat.lt_succ_of_lt (Nat.lt_succ_of_lt (allLt_mem m h))
theorem allLt_cons {d : Addr} {p : Addr × Obj} {r : Led} (h : @LT.lt Nat _ p.1 d) (k : AllLt d r) : AllLt d (p :: r) := ⟨h, k⟩
theorem allLt_app {d : Addr} {a b : Led} (h : AllLt d a) (k : AllLt d b) : AllLt d (a ++ b) := AllLt_app.mpr ⟨h, k⟩
theorem lt_succ9 {a b : Addr} (h : @LT.lt Nat _ a b) : @LT.lt Nat _ a (@HAdd.hAdd Nat Nat Nat _ b 1) := Nat.lt_succ_of_lt h
theorem allLt_succ {d : Addr} {l : Led} (h : AllLt d l) : AllLt (@HAdd.hAdd Nat Nat Nat _ d 1) l := allLt_of fun p hp => Nat.lt_succ_of_lt (lt_all h p hp)
theorem ne_allsucc {d : Addr} {l : Led} (h : AllLt d l) : ∀ p ∈ l, p.1 ≠ @HAdd.hAdd Nat Nat Nat _ d 1 := ne_all1 h
theorem lt_memK1 {a b : Addr} {o : Obj} {l : Led} (h : AllLt b l) (m : (a, o) ∈ l) : @LT.lt Nat _ a (@HAdd.hAdd Nat Nat Nat _ b 1) := Nat.lt_succ_of_lt (allLt_mem m h)
theorem ne_allK1 {d : Addr} {R r : Led} (h : AllLt d R) (s : ∀ q ∈ r, q ∈ R) : ∀ p ∈ r, p.1 ≠ (@HAdd.hAdd Nat Nat Nat _ d 1) := fun p hp => Nat.ne_of_lt (Nat.lt_succ_of_lt (lt_all h p (s p hp)))
theorem lt_memK2 {a b : Addr} {o : Obj} {l : Led} (h : AllLt b l) (m : (a, o) ∈ l) : @LT.lt Nat _ a (@HAdd.hAdd Nat Nat Nat _ (@HAdd.hAdd Nat Nat Nat _ b 1) 1) := Nat.lt_succ_of_lt (Nat.lt_succ_of_lt (allLt_mem m h))
theorem ne_allK2 {d : Addr} {R r : Led} (h : AllLt d R) (s : ∀ q ∈ r, q ∈ R) : ∀ p ∈ r, p.1 ≠ (@HAdd.hAdd Nat Nat Nat _ (@HAdd.hAdd Nat Nat Nat _ d 1) 1) := fun p hp => Nat.ne_of_lt (Nat.lt_succ_of_lt (Nat.lt_succ_of_lt (lt_all h p (s p hp))))
theorem lt_memK3 {a b : Addr} {o : Obj} {l : Led} (h : AllLt b l) (m : (a, o) ∈ l) : @LT.lt Nat _ a (@HAdd.hAdd Nat Nat Nat _ (@HAdd.hAdd Nat Nat Nat _ (@HAdd.hAdd Nat Nat Nat _ b 1) 1) 1) := Nat.lt_succ_of_lt (Nat.lt_succ_of_lt (Nat.lt_succ_of_lt (allLt_mem m h)))
theorem ne_allK3 {d : Addr} {R r : Led} (h : AllLt d R) (s : ∀ q ∈ r, q ∈ R) : ∀ p ∈ r, p.1 ≠ (@HAdd.hAdd Nat Nat Nat _ (@HAdd.hAdd Nat Nat Nat _ (@HAdd.hAdd Nat Nat Nat _ d 1) 1) 1) := fun p hp => Nat.ne_of_lt (Nat.lt_succ_of_lt (Nat.lt_succ_of_lt (Nat.lt_succ_of_lt (lt_all h p (s p hp)))))
theorem lt_memK4 {a b : Addr} {o : Obj} {l : Led} (h : AllLt b l) (m : (a, o) ∈ l) : @LT.lt Nat _ a (@HAdd.hAdd Nat Nat Nat _ (@HAdd.hAdd Nat Nat Nat _ (@HAdd.hAdd Nat Nat Nat _ (@HAdd.hAdd Nat Nat Nat _ b 1) 1) 1) 1) := Nat.lt_succ_of_lt (Nat.lt_succ_of_lt (Nat.lt_succ_of_lt (Nat.lt_succ_of_lt (allLt_mem m h))))
theorem ne_allK4 {d : Addr} {R r : Led} (h : AllLt d R) (s : ∀ q ∈ r, q ∈ R) : ∀ p ∈ r, p.1 ≠ (@HAdd.hAdd Nat Nat Nat _ (@HAdd.hAdd Nat Nat Nat _ (@HAdd.hAdd Nat Nat Nat _ (@HAdd.hAdd Nat Nat Nat _ d 1) 1) 1) 1) := fun p hp => Nat.ne_of_lt (Nat.lt_succ_of_lt (Nat.lt_succ_of_lt (Nat.lt_succ_of_lt (Nat.lt_succ_of_lt (lt_all h p (s p hp))))))
theorem lt_memK5 {a b : Addr} {o : Obj} {l : Led} (h : AllLt b l) (m : (a, o) ∈ l) : @LT.lt Nat _ a (@HAdd.hAdd Nat Nat Nat _ (@HAdd.hAdd Nat Nat Nat _ (@HAdd.hAdd Nat Nat Nat _ (@HAdd.hAdd Nat Nat Nat _ (@HAdd.hAdd Nat Nat Nat _ b 1) 1) 1) 1) 1) := Nat.lt_succ_of_lt (Nat.lt_succ_of_lt (Nat.lt_succ_of_lt (Nat.lt_succ_of_lt (Nat.lt_succ_of_lt (allLt_mem m h)))))
theorem ne_allK5 {d : Addr} {R r : Led} (h : AllLt d R) (s : ∀ q ∈ r, q ∈ R) : ∀ p ∈ r, p.1 ≠ (@HAdd.hAdd Nat Nat Nat _ (@HAdd.hAdd Nat Nat Nat _ (@HAdd.hAdd Nat Nat Nat _ (@HAdd.hAdd Nat Nat Nat _ (@HAdd.hAdd Nat Nat Nat _ d 1) 1) 1) 1) 1) := fun p hp => Nat.ne_of_lt (Nat.lt_succ_of_lt (Nat.lt_succ_of_lt (Nat.lt_succ_of_lt (Nat.lt_succ_of_lt (Nat.lt_succ_of_lt (lt_all h p (s p hp)))))))
theorem pre_sub {n tl base : Led} (h : Pre n tl base) : ∀ q ∈ base, q ∈ n := fun q hq => by rw [h.eq]; exact List.mem_append_right _ hq
end Mine
end
section
open PySem PySem.W PyProof.Rows PySem.Spec PySem.Calls
namespace Mine
noncomputable def CoreInv (w : World) (news : Led) (a : Addr) : Core → Prop
  | .lit k => ∀ G : Prop, (∀ d t1 t2 t3 t4, (a, instObj 122 d) ∈ news → (d, dictOf [at_ w "kind" t1 (.str "int" t2), at_ w "value" t3 (.int k t4)] 2) ∈ news → G) → G
  | .var x => ∀ G : Prop, (∀ d t1 t2, (a, instObj 80 d) ∈ news → (d, dictOf [at_ w "name" t1 (.str x t2)] 1) ∈ news → G) → G
  | .con0 nm => ∀ G : Prop, (∀ d l t1 t2 t3 n, (a, instObj 343 d) ∈ news → (d, dictOf [at_ w "name" t1 (.str nm t2), at_ w "args" t3 (.ref l)] 2) ∈ news → (l, listO [] n) ∈ news → G) → G
  | .con2 nm cx cy => ∀ G : Prop, (∀ d l t1 t2 t3 n x y, (a, instObj 343 d) ∈ news → (d, dictOf [at_ w "name" t1 (.str nm t2), at_ w "args" t3 (.ref l)] 2) ∈ news → (l, listO [.ref x, .ref y] n) ∈ news → CoreIn w news x cx → CoreIn w news y cy → G) → G
  | .lam x cb => ∀ G : Prop, (∀ d l t1 t2 t3 n b, (a, instObj 204 d) ∈ news → (d, dictOf [at_ w "params" t1 (.ref l), at_ w "body" t2 (.ref b)] 2) ∈ news → (l, listO [.str x t3] n) ∈ news → CoreIn w news b cb → G) → G
  | .letr x ce cb => ∀ G : Prop, (∀ d l p t1 t2 t3 t4 n n' e b, (a, instObj 242 d) ∈ news → (d, dictOf [at_ w "binds" t1 (.ref l), at_ w "body" t2 (.ref b), at_ w "is_rec" t3 (.bool true)] 3) ∈ news → (l, listO [.ref p] n) ∈ news → (p, tupO [.str x t4, .ref e] n') ∈ news → CoreIn w news e ce → CoreIn w news b cb → G) → G
  | .letn x ce cb => ∀ G : Prop, (∀ d l p t1 t2 t3 t4 n n' e b, (a, instObj 242 d) ∈ news → (d, dictOf [at_ w "binds" t1 (.ref l), at_ w "body" t2 (.ref b), at_ w "is_rec" t3 (.bool false)] 3) ∈ news → (l, listO [.ref p] n) ∈ news → (p, tupO [.str x t4, .ref e] n') ∈ news → CoreIn w news e ce → CoreIn w news b cb → G) → G
  | .add cx cy => ∀ G : Prop, (∀ d l t1 t2 t3 n x y, (a, instObj 383 d) ∈ news → (d, dictOf [at_ w "op" t1 (.str "intAdd" t2), at_ w "args" t3 (.ref l)] 2) ∈ news → (l, listO [.ref x, .ref y] n) ∈ news → CoreIn w news x cx → CoreIn w news y cy → G) → G
  | .lt cx cy => ∀ G : Prop, (∀ d l t1 t2 t3 n x y, (a, instObj 383 d) ∈ news → (d, dictOf [at_ w "op" t1 (.str "intLt" t2), at_ w "args" t3 (.ref l)] 2) ∈ news → (l, listO [.ref x, .ref y] n) ∈ news → CoreIn w news x cx → CoreIn w news y cy → G) → G
  | .app cf cx => ∀ G : Prop, (∀ d l t1 t2 n f x, (a, instObj 162 d) ∈ news → (d, dictOf [at_ w "fun" t1 (.ref f), at_ w "args" t2 (.ref l)] 2) ∈ news → (l, listO [.ref x] n) ∈ news → CoreIn w news f cf → CoreIn w news x cx → G) → G
  | .cLit cs kk ct co => ∀ G : Prop, (∀ d l k s e u ad ns o t1 t2 t3 t4 t5 t6 t7 t8 t9 t10 t11 n1 n2 n3, (a, instObj 303 d) ∈ news → (d, dictOf [at_ w "value" t1 (.ref s), at_ w "name" t2 (.str "w" t3), at_ w "alts" t4 (.ref l), at_ w "other" t5 (.ref o)] 4) ∈ news → (l, listO [.ref e] n1) ∈ news → (e, instObj 263 ad) ∈ news → (ad, dictOf [at_ w "key" t6 (.ref k), at_ w "names" t7 (.ref ns), at_ w "body" t8 (.ref u)] 3) ∈ news → (k, tupO [.str "lit" t9, .str "int" t10, .int kk t11] n2) ∈ news → (ns, listO [] n3) ∈ news → CoreIn w news s cs → CoreIn w news u ct → CoreIn w news o co → G) → G
  | .cPair cs x y ct co => ∀ G : Prop, (∀ d l k s e u ad ns o t1 t2 t3 t4 t5 t6 t7 t8 t9 t10 t11 t12 n1 n2 n3, (a, instObj 303 d) ∈ news → (d, dictOf [at_ w "value" t1 (.ref s), at_ w "name" t2 (.str "w" t3), at_ w "alts" t4 (.ref l), at_ w "other" t5 (.ref o)] 4) ∈ news → (l, listO [.ref e] n1) ∈ news → (e, instObj 263 ad) ∈ news → (ad, dictOf [at_ w "key" t6 (.ref k), at_ w "names" t7 (.ref ns), at_ w "body" t8 (.ref u)] 3) ∈ news → (k, tupO [.str "con" t9, .str "(,)" t10] n2) ∈ news → (ns, listO [.str x t11, .str y t12] n3) ∈ news → CoreIn w news s cs → CoreIn w news u ct → CoreIn w news o co → G) → G
  | .cTrue cs ct co => ∀ G : Prop, (∀ d l k s e u ad ns o nm t1 t2 t3 t4 t5 t6 t7 t8 t9 t10 n1 n2 n3, (a, instObj 303 d) ∈ news → (d, dictOf [at_ w "value" t1 (.ref s), at_ w "name" t2 (.str nm t3), at_ w "alts" t4 (.ref l), at_ w "other" t5 (.ref o)] 4) ∈ news → (l, listO [.ref e] n1) ∈ news → (e, instObj 263 ad) ∈ news → (ad, dictOf [at_ w "key" t6 (.ref k), at_ w "names" t7 (.ref ns), at_ w "body" t8 (.ref u)] 3) ∈ news → (k, tupO [.str "con" t9, .str "Prelude.True" t10] n2) ∈ news → (ns, listO [] n3) ∈ news → CoreIn w news s cs → CoreIn w news u ct → CoreIn w news o co → G) → G
  | .cList cs c1 h r c2 => ∀ G : Prop, (∀ d l k1 k2 s e1 e2 u1 u2 ad1 ad2 ns1 ns2 nm t1 t2 t3 t4 t5 t6 t7 t8 t9 t10 t11 t12 t13 t14 t15 t16 t17 n1 n2 n3 n4 n5, (a, instObj 303 d) ∈ news → (d, dictOf [at_ w "value" t1 (.ref s), at_ w "name" t2 (.str nm t3), at_ w "alts" t4 (.ref l), at_ w "other" t5 .none] 4) ∈ news → (l, listO [.ref e1, .ref e2] n1) ∈ news → (e1, instObj 263 ad1) ∈ news → (ad1, dictOf [at_ w "key" t6 (.ref k1), at_ w "names" t7 (.ref ns1), at_ w "body" t8 (.ref u1)] 3) ∈ news → (k1, tupO [.str "con" t9, .str "[]" t10] n2) ∈ news → (ns1, listO [] n3) ∈ news → (e2, instObj 263 ad2) ∈ news → (ad2, dictOf [at_ w "key" t11 (.ref k2), at_ w "names" t12 (.ref ns2), at_ w "body" t13 (.ref u2)] 3) ∈ news → (k2, tupO [.str "con" t14, .str ":" t15] n4) ∈ news → (ns2, listO [.str h t16, .str r t17] n5) ∈ news → CoreIn w news s cs → CoreIn w news u1 c1 → CoreIn w news u2 c2 → G) → G
theorem CoreIn.inv {w : World} {news : Led} {a : Addr} {c : Core} (h : CoreIn w news a c) : CoreInv w news a c := by
  induction h with
  | lit h1 h2 => exact fun _ k => k _ _ _ _ _ h1 h2
  | var h1 h2 => exact fun _ k => k _ _ _ h1 h2
  | con0 h1 h2 h3 => exact fun _ k => k _ _ _ _ _ _ h1 h2 h3
  | con2 h1 h2 h3 h4 h5 => exact fun _ k => k _ _ _ _ _ _ _ _ h1 h2 h3 h4 h5
  | lam h1 h2 h3 h4 => exact fun _ k => k _ _ _ _ _ _ _ h1 h2 h3 h4
  | letr h1 h2 h3 h4 h5 h6 => exact fun _ k => k _ _ _ _ _ _ _ _ _ _ _ h1 h2 h3 h4 h5 h6
  | letn h1 h2 h3 h4 h5 h6 => exact fun _ k => k _ _ _ _ _ _ _ _ _ _ _ h1 h2 h3 h4 h5 h6
  | add h1 h2 h3 h4 h5 => exact fun _ k => k _ _ _ _ _ _ _ _ h1 h2 h3 h4 h5
  | lt h1 h2 h3 h4 h5 => exact fun _ k => k _ _ _ _ _ _ _ _ h1 h2 h3 h4 h5
  | app h1 h2 h3 h4 h5 => exact fun _ k => k _ _ _ _ _ _ _ h1 h2 h3 h4 h5
  | cLit h1 h2 h3 h4 h5 h6 h7 h8 h9 h10 => exact fun _ k => k _ _ _ _ _ _ _ _ _ _ _ _ _ _ _ _ _ _ _ _ _ _ _ h1 h2 h3 h4 h5 h6 h7 h8 h9 h10
  | cPair h1 h2 h3 h4 h5 h6 h7 h8 h9 h10 => exact fun _ k => k _ _ _ _ _ _ _ _ _ _ _ _ _ _ _ _ _ _ _ _ _ _ _ _ h1 h2 h3 h4 h5 h6 h7 h8 h9 h10
  | cTrue h1 h2 h3 h4 h5 h6 h7 h8 h9 h10 => exact fun _ k => k _ _ _ _ _ _ _ _ _ _ _ _ _ _ _ _ _ _ _ _ _ _ _ h1 h2 h3 h4 h5 h6 h7 h8 h9 h10
  | cList h1 h2 h3 h4 h5 h6 h7 h8 h9 h10 h11 h12 h13 h14 => exact fun _ k => k _ _ _ _ _ _ _ _ _ _ _ _ _ _ _ _ _ _ _ _ _ _ _ _ _ _ _ _ _ _ _ _ _ _ _ _ h1 h2 h3 h4 h5 h6 h7 h8 h9 h10 h11 h12 h13 h14
end Mine
end
section
namespace Mine
theorem ex2 {α0 α1 : Type} {P : α0 → α1 → Prop} (x0 : α0) (x1 : α1) (h : P x0 x1) : ∃ x0 x1, P x0 x1 := ⟨x0, x1, h⟩
theorem exe2 {α0 α1 : Type} {P : α0 → α1 → Prop} {G : Prop} (h : ∃ x0 x1, P x0 x1) (k : ∀ x0 x1, P x0 x1 → G) : G := h.elim fun x0 h => h.elim (k x0)
theorem ex3 {α0 α1 α2 : Type} {P : α0 → α1 → α2 → Prop} (x0 : α0) (x1 : α1) (x2 : α2) (h : P x0 x1 x2) : ∃ x0 x1 x2, P x0 x1 x2 := ⟨x0, ex2 x1 x2 h⟩
theorem exe3 {α0 α1 α2 : Type} {P : α0 → α1 → α2 → Prop} {G : Prop} (h : ∃ x0 x1 x2, P x0 x1 x2) (k : ∀ x0 x1 x2, P x0 x1 x2 → G) : G := h.elim fun x0 h => exe2 h (k x0)
theorem ex4 {α0 α1 α2 α3 : Type} {P : α0 → α1 → α2 → α3 → Prop} (x0 : α0) (x1 : α1) (x2 : α2) (x3 : α3) (h : P x0 x1 x2 x3) : ∃ x0 x1 x2 x3, P x0 x1 x2 x3 := ⟨x0, ex3 x1 x2 x3 h⟩
theorem exe4 {α0 α1 α2 α3 : Type} {P : α0 → α1 → α2 → α3 → Prop} {G : Prop} (h : ∃ x0 x1 x2 x3, P x0 x1 x2 x3) (k : ∀ x0 x1 x2 x3, P x0 x1 x2 x3 → G) : G := h.elim fun x0 h => exe3 h (k x0)
theorem ex5 {α0 α1 α2 α3 α4 : Type} {P : α0 → α1 → α2 → α3 → α4 → Prop} (x0 : α0) (x1 : α1) (x2 : α2) (x3 : α3) (x4 : α4) (h : P x0 x1 x2 x3 x4) : ∃ x0 x1 x2 x3 x4, P x0 x1 x2 x3 x4 := ⟨x0, ex4 x1 x2 x3 x4 h⟩
theorem exe5 {α0 α1 α2 α3 α4 : Type} {P : α0 → α1 → α2 → α3 → α4 → Prop} {G : Prop} (h : ∃ x0 x1 x2 x3 x4, P x0 x1 x2 x3 x4) (k : ∀ x0 x1 x2 x3 x4, P x0 x1 x2 x3 x4 → G) : G := h.elim fun x0 h => exe4 h (k x0)
theorem ex6 {α0 α1 α2 α3 α4 α5 : Type} {P : α0 → α1 → α2 → α3 → α4 → α5 → Prop} (x0 : α0) (x1 : α1) (x2 : α2) (x3 : α3) (x4 : α4) (x5 : α5) (h : P x0 x1 x2 x3 x4 x5) : ∃ x0 x1 x2 x3 x4 x5, P x0 x1 x2 x3 x4 x5 := ⟨x0, ex5 x1 x2 x3 x4 x5 h⟩
theorem exe6 {α0 α1 α2 α3 α4 α5 : Type} {P : α0 → α1 → α2 → α3 → α4 → α5 → Prop} {G : Prop} (h : ∃ x0 x1 x2 x3 x4 x5, P x0 x1 x2 x3 x4 x5) (k : ∀ x0 x1 x2 x3 x4 x5, P x0 x1 x2 x3 x4 x5 → G) : G := h.elim fun x0 h => exe5 h (k x0)
theorem ex7 {α0 α1 α2 α3 α4 α5 α6 : Type} {P : α0 → α1 → α2 → α3 → α4 → α5 → α6 → Prop} (x0 : α0) (x1 : α1) (x2 : α2) (x3 : α3) (x4 : α4) (x5 : α5) (x6 : α6) (h : P x0 x1 x2 x3 x4 x5 x6) : ∃ x0 x1 x2 x3 x4 x5 x6, P x0 x1 x2 x3 x4 x5 x6 := ⟨x0, ex6 x1 x2 x3 x4 x5 x6 h⟩
theorem exe7 {α0 α1 α2 α3 α4 α5 α6 : Type} {P : α0 → α1 → α2 → α3 → α4 → α5 → α6 → Prop} {G : Prop} (h : ∃ x0 x1 x2 x3 x4 x5 x6, P x0 x1 x2 x3 x4 x5 x6) (k : ∀ x0 x1 x2 x3 x4 x5 x6, P x0 x1 x2 x3 x4 x5 x6 → G) : G := h.elim fun x0 h => exe6 h (k x0)
theorem ex8 {α0 α1 α2 α3 α4 α5 α6 α7 : Type} {P : α0 → α1 → α2 → α3 → α4 → α5 → α6 → α7 → Prop} (x0 : α0) (x1 : α1) (x2 : α2) (x3 : α3) (x4 : α4) (x5 : α5) (x6 : α6) (x7 : α7) (h : P x0 x1 x2 x3 x4 x5 x6 x7) : ∃ x0 x1 x2 x3 x4 x5 x6 x7, P x0 x1 x2 x3 x4 x5 x6 x7 := ⟨x0, ex7 x1 x2 x3 x4 x5 x6 x7 h⟩
theorem exe8 {α0 α1 α2 α3 α4 α5 α6 α7 : Type} {P : α0 → α1 → α2 → α3 → α4 → α5 → α6 → α7 → Prop} {G : Prop} (h : ∃ x0 x1 x2 x3 x4 x5 x6 x7, P x0 x1 x2 x3 x4 x5 x6 x7) (k : ∀ x0 x1 x2 x3 x4 x5 x6 x7, P x0 x1 x2 x3 x4 x5 x6 x7 → G) : G := h.elim fun x0 h => exe7 h (k x0)
theorem ex9 {α0 α1 α2 α3 α4 α5 α6 α7 α8 : Type} {P : α0 → α1 → α2 → α3 → α4 → α5 → α6 → α7 → α8 → Prop} (x0 : α0) (x1 : α1) (x2 : α2) (x3 : α3) (x4 : α4) (x5 : α5) (x6 : α6) (x7 : α7) (x8 : α8) (h : P x0 x1 x2 x3 x4 x5 x6 x7 x8) : ∃ x0 x1 x2 x3 x4 x5 x6 x7 x8, P x0 x1 x2 x3 x4 x5 x6 x7 x8 := ⟨x0, ex8 x1 x2 x3 x4 x5 x6 x7 x8 h⟩
theorem exe9 {α0 α1 α2 α3 α4 α5 α6 α7 α8 : Type} {P : α0 → α1 → α2 → α3 → α4 → α5 → α6 → α7 → α8 → Prop} {G : Prop} (h : ∃ x0 x1 x2 x3 x4 x5 x6 x7 x8, P x0 x1 x2 x3 x4 x5 x6 x7 x8) (k : ∀ x0 x1 x2 x3 x4 x5 x6 x7 x8, P x0 x1 x2 x3 x4 x5 x6 x7 x8 → G) : G := h.elim fun x0 h => exe8 h (k x0)
theorem ex10 {α0 α1 α2 α3 α4 α5 α6 α7 α8 α9 : Type} {P : α0 → α1 → α2 → α3 → α4 → α5 → α6 → α7 → α8 → α9 → Prop} (x0 : α0) (x1 : α1) (x2 : α2) (x3 : α3) (x4 : α4) (x5 : α5) (x6 : α6) (x7 : α7) (x8 : α8) (x9 : α9) (h : P x0 x1 x2 x3 x4 x5 x6 x7 x8 x9) : ∃ x0 x1 x2 x3 x4 x5 x6 x7 x8 x9, P x0 x1 x2 x3 x4 x5 x6 x7 x8 x9 := ⟨x0, ex9 x1 x2 x3 x4 x5 x6 x7 x8 x9 h⟩
theorem exe10 {α0 α1 α2 α3 α4 α5 α6 α7 α8 α9 : Type} {P : α0 → α1 → α2 → α3 → α4 → α5 → α6 → α7 → α8 → α9 → Prop} {G : Prop} (h : ∃ x0 x1 x2 x3 x4 x5 x6 x7 x8 x9, P x0 x1 x2 x3 x4 x5 x6 x7 x8 x9) (k : ∀ x0 x1 x2 x3 x4 x5 x6 x7 x8 x9, P x0 x1 x2 x3 x4 x5 x6 x7 x8 x9 → G) : G := h.elim fun x0 h => exe9 h (k x0)
theorem ex11 {α0 α1 α2 α3 α4 α5 α6 α7 α8 α9 α10 : Type} {P : α0 → α1 → α2 → α3 → α4 → α5 → α6 → α7 → α8 → α9 → α10 → Prop} (x0 : α0) (x1 : α1) (x2 : α2) (x3 : α3) (x4 : α4) (x5 : α5) (x6 : α6) (x7 : α7) (x8 : α8) (x9 : α9) (x10 : α10) (h : P x0 x1 x2 x3 x4 x5 x6 x7 x8 x9 x10) : ∃ x0 x1 x2 x3 x4 x5 x6 x7 x8 x9 x10, P x0 x1 x2 x3 x4 x5 x6 x7 x8 x9 x10 := ⟨x0, ex10 x1 x2 x3 x4 x5 x6 x7 x8 x9 x10 h⟩
theorem exe11 {α0 α1 α2 α3 α4 α5 α6 α7 α8 α9 α10 : Type} {P : α0 → α1 → α2 → α3 → α4 → α5 → α6 → α7 → α8 → α9 → α10 → Prop} {G : Prop} (h : ∃ x0 x1 x2 x3 x4 x5 x6 x7 x8 x9 x10, P x0 x1 x2 x3 x4 x5 x6 x7 x8 x9 x10) (k : ∀ x0 x1 x2 x3 x4 x5 x6 x7 x8 x9 x10, P x0 x1 x2 x3 x4 x5 x6 x7 x8 x9 x10 → G) : G := h.elim fun x0 h => exe10 h (k x0)
theorem ex12 {α0 α1 α2 α3 α4 α5 α6 α7 α8 α9 α10 α11 : Type} {P : α0 → α1 → α2 → α3 → α4 → α5 → α6 → α7 → α8 → α9 → α10 → α11 → Prop} (x0 : α0) (x1 : α1) (x2 : α2) (x3 : α3) (x4 : α4) (x5 : α5) (x6 : α6) (x7 : α7) (x8 : α8) (x9 : α9) (x10 : α10) (x11 : α11) (h : P x0 x1 x2 x3 x4 x5 x6 x7 x8 x9 x10 x11) : ∃ x0 x1 x2 x3 x4 x5 x6 x7 x8 x9 x10 x11, P x0 x1 x2 x3 x4 x5 x6 x7 x8 x9 x10 x11 := ⟨x0, ex11 x1 x2 x3 x4 x5 x6 x7 x8 x9 x10 x11 h⟩
theorem exe12 {α0 α1 α2 α3 α4 α5 α6 α7 α8 α9 α10 α11 : Type} {P : α0 → α1 → α2 → α3 → α4 → α5 → α6 → α7 → α8 → α9 → α10 → α11 → Prop} {G : Prop} (h : ∃ x0 x1 x2 x3 x4 x5 x6 x7 x8 x9 x10 x11, P x0 x1 x2 x3 x4 x5 x6 x7 x8 x9 x10 x11) (k : ∀ x0 x1 x2 x3 x4 x5 x6 x7 x8 x9 x10 x11, P x0 x1 x2 x3 x4 x5 x6 x7 x8 x9 x10 x11 → G) : G := h.elim fun x0 h => exe11 h (k x0)
theorem ex13 {α0 α1 α2 α3 α4 α5 α6 α7 α8 α9 α10 α11 α12 : Type} {P : α0 → α1 → α2 → α3 → α4 → α5 → α6 → α7 → α8 → α9 → α10 → α11 → α12 → Prop} (x0 : α0) (x1 : α1) (x2 : α2) (x3 : α3) (x4 : α4) (x5 : α5) (x6 : α6) (x7 : α7) (x8 : α8) (x9 : α9) (x10 : α10) (x11 : α11) (x12 : α12) (h : P x0 x1 x2 x3 x4 x5 x6 x7 x8 x9 x10 x11 x12) : ∃ x0 x1 x2 x3 x4 x5 x6 x7 x8 x9 x10 x11 x12, P x0 x1 x2 x3 x4 x5 x6 x7 x8 x9 x10 x11 x12 := ⟨x0, ex12 x1 x2 x3 x4 x5 x6 x7 x8 x9 x10 x11 x12 h⟩
theorem exe13 {α0 α1 α2 α3 α4 α5 α6 α7 α8 α9 α10 α11 α12 : Type} {P : α0 → α1 → α2 → α3 → α4 → α5 → α6 → α7 → α8 → α9 → α10 → α11 → α12 → Prop} {G : Prop} (h : ∃ x0 x1 x2 x3 x4 x5 x6 x7 x8 x9 x10 x11 x12, P x0 x1 x2 x3 x4 x5 x6 x7 x8 x9 x10 x11 x12) (k : ∀ x0 x1 x2 x3 x4 x5 x6 x7 x8 x9 x10 x11 x12, P x0 x1 x2 x3 x4 x5 x6 x7 x8 x9 x10 x11 x12 → G) : G := h.elim fun x0 h => exe12 h (k x0)
theorem ex14 {α0 α1 α2 α3 α4 α5 α6 α7 α8 α9 α10 α11 α12 α13 : Type} {P : α0 → α1 → α2 → α3 → α4 → α5 → α6 → α7 → α8 → α9 → α10 → α11 → α12 → α13 → Prop} (x0 : α0) (x1 : α1) (x2 : α2) (x3 : α3) (x4 : α4) (x5 : α5) (x6 : α6) (x7 : α7) (x8 : α8) (x9 : α9) (x10 : α10) (x11 : α11) (x12 : α12) (x13 : α13) (h : P x0 x1 x2 x3 x4 x5 x6 x7 x8 x9 x10 x11 x12 x13) : ∃ x0 x1 x2 x3 x4 x5 x6 x7 x8 x9 x10 x11 x12 x13, P x0 x1 x2 x3 x4 x5 x6 x7 x8 x9 x10 x11 x12 x13 := ⟨x0, ex13 x1 x2 x3 x4 x5 x6 x7 x8 x9 x10 x11 x12 x13 h⟩
theorem exe14 {α0 α1 α2 α3 α4 α5 α6 α7 α8 α9 α10 α11 α12 α13 : Type} {P : α0 → α1 → α2 → α3 → α4 → α5 → α6 → α7 → α8 → α9 → α10 → α11 → α12 → α13 → Prop} {G : Prop} (h : ∃ x0 x1 x2 x3 x4 x5 x6 x7 x8 x9 x10 x11 x12 x13, P x0 x1 x2 x3 x4 x5 x6 x7 x8 x9 x10 x11 x12 x13) (k : ∀ x0 x1 x2 x3 x4 x5 x6 x7 x8 x9 x10 x11 x12 x13, P x0 x1 x2 x3 x4 x5 x6 x7 x8 x9 x10 x11 x12 x13 → G) : G := h.elim fun x0 h => exe13 h (k x0)
theorem ex15 {α0 α1 α2 α3 α4 α5 α6 α7 α8 α9 α10 α11 α12 α13 α14 : Type} {P : α0 → α1 → α2 → α3 → α4 → α5 → α6 → α7 → α8 → α9 → α10 → α11 → α12 → α13 → α14 → Prop} (x0 : α0) (x1 : α1) (x2 : α2) (x3 : α3) (x4 : α4) (x5 : α5) (x6 : α6) (x7 : α7) (x8 : α8) (x9 : α9) (x10 : α10) (x11 : α11) (x12 : α12) (x13 : α13) (x14 : α14) (h : P x0 x1 x2 x3 x4 x5 x6 x7 x8 x9 x10 x11 x12 x13 x14) : ∃ x0 x1 x2 x3 x4 x5 x6 x7 x8 x9 x10 x11 x12 x13 x14, P x0 x1 x2 x3 x4 x5 x6 x7 x8 x9 x10 x11 x12 x13 x14 := ⟨x0, ex14 x1 x2 x3 x4 x5 x6 x7 x8 x9 x10 x11 x12 x13 x14 h⟩
theorem exe15 {α0 α1 α2 α3 α4 α5 α6 α7 α8 α9 α10 α11 α12 α13 α14 : Type} {P : α0 → α1 → α2 → α3 → α4 → α5 → α6 → α7 → α8 → α9 → α10 → α11 → α12 → α13 → α14 → Prop} {G : Prop} (h : ∃ x0 x1 x2 x3 x4 x5 x6 x7 x8 x9 x10 x11 x12 x13 x14, P x0 x1 x2 x3 x4 x5 x6 x7 x8 x9 x10 x11 x12 x13 x14) (k : ∀ x0 x1 x2 x3 x4 x5 x6 x7 x8 x9 x10 x11 x12 x13 x14, P x0 x1 x2 x3 x4 x5 x6 x7 x8 x9 x10 x11 x12 x13 x14 → G) : G := h.elim fun x0 h => exe14 h (k x0)
theorem ane2 {p0 p1 G : Prop} (h : p0 ∧ p1) (k : p0 → p1 → G) : G := k h.1 h.2
theorem ane3 {p0 p1 p2 G : Prop} (h : p0 ∧ p1 ∧ p2) (k : p0 → p1 → p2 → G) : G := ane2 h.2 (k h.1)
theorem ane4 {p0 p1 p2 p3 G : Prop} (h : p0 ∧ p1 ∧ p2 ∧ p3) (k : p0 → p1 → p2 → p3 → G) : G := ane3 h.2 (k h.1)
theorem ane5 {p0 p1 p2 p3 p4 G : Prop} (h : p0 ∧ p1 ∧ p2 ∧ p3 ∧ p4) (k : p0 → p1 → p2 → p3 → p4 → G) : G := ane4 h.2 (k h.1)
theorem ane6 {p0 p1 p2 p3 p4 p5 G : Prop} (h : p0 ∧ p1 ∧ p2 ∧ p3 ∧ p4 ∧ p5) (k : p0 → p1 → p2 → p3 → p4 → p5 → G) : G := ane5 h.2 (k h.1)
theorem ane7 {p0 p1 p2 p3 p4 p5 p6 G : Prop} (h : p0 ∧ p1 ∧ p2 ∧ p3 ∧ p4 ∧ p5 ∧ p6) (k : p0 → p1 → p2 → p3 → p4 → p5 → p6 → G) : G := ane6 h.2 (k h.1)
theorem ane8 {p0 p1 p2 p3 p4 p5 p6 p7 G : Prop} (h : p0 ∧ p1 ∧ p2 ∧ p3 ∧ p4 ∧ p5 ∧ p6 ∧ p7) (k : p0 → p1 → p2 → p3 → p4 → p5 → p6 → p7 → G) : G := ane7 h.2 (k h.1)
theorem ane9 {p0 p1 p2 p3 p4 p5 p6 p7 p8 G : Prop} (h : p0 ∧ p1 ∧ p2 ∧ p3 ∧ p4 ∧ p5 ∧ p6 ∧ p7 ∧ p8) (k : p0 → p1 → p2 → p3 → p4 → p5 → p6 → p7 → p8 → G) : G := ane8 h.2 (k h.1)
theorem ane10 {p0 p1 p2 p3 p4 p5 p6 p7 p8 p9 G : Prop} (h : p0 ∧ p1 ∧ p2 ∧ p3 ∧ p4 ∧ p5 ∧ p6 ∧ p7 ∧ p8 ∧ p9) (k : p0 → p1 → p2 → p3 → p4 → p5 → p6 → p7 → p8 → p9 → G) : G := ane9 h.2 (k h.1)
theorem ane11 {p0 p1 p2 p3 p4 p5 p6 p7 p8 p9 p10 G : Prop} (h : p0 ∧ p1 ∧ p2 ∧ p3 ∧ p4 ∧ p5 ∧ p6 ∧ p7 ∧ p8 ∧ p9 ∧ p10) (k : p0 → p1 → p2 → p3 → p4 → p5 → p6 → p7 → p8 → p9 → p10 → G) : G := ane10 h.2 (k h.1)
theorem ane12 {p0 p1 p2 p3 p4 p5 p6 p7 p8 p9 p10 p11 G : Prop} (h : p0 ∧ p1 ∧ p2 ∧ p3 ∧ p4 ∧ p5 ∧ p6 ∧ p7 ∧ p8 ∧ p9 ∧ p10 ∧ p11) (k : p0 → p1 → p2 → p3 → p4 → p5 → p6 → p7 → p8 → p9 → p10 → p11 → G) : G := ane11 h.2 (k h.1)
theorem ane13 {p0 p1 p2 p3 p4 p5 p6 p7 p8 p9 p10 p11 p12 G : Prop} (h : p0 ∧ p1 ∧ p2 ∧ p3 ∧ p4 ∧ p5 ∧ p6 ∧ p7 ∧ p8 ∧ p9 ∧ p10 ∧ p11 ∧ p12) (k : p0 → p1 → p2 → p3 → p4 → p5 → p6 → p7 → p8 → p9 → p10 → p11 → p12 → G) : G := ane12 h.2 (k h.1)
theorem ane14 {p0 p1 p2 p3 p4 p5 p6 p7 p8 p9 p10 p11 p12 p13 G : Prop} (h : p0 ∧ p1 ∧ p2 ∧ p3 ∧ p4 ∧ p5 ∧ p6 ∧ p7 ∧ p8 ∧ p9 ∧ p10 ∧ p11 ∧ p12 ∧ p13) (k : p0 → p1 → p2 → p3 → p4 → p5 → p6 → p7 → p8 → p9 → p10 → p11 → p12 → p13 → G) : G := ane13 h.2 (k h.1)
theorem ane15 {p0 p1 p2 p3 p4 p5 p6 p7 p8 p9 p10 p11 p12 p13 p14 G : Prop} (h : p0 ∧ p1 ∧ p2 ∧ p3 ∧ p4 ∧ p5 ∧ p6 ∧ p7 ∧ p8 ∧ p9 ∧ p10 ∧ p11 ∧ p12 ∧ p13 ∧ p14) (k : p0 → p1 → p2 → p3 → p4 → p5 → p6 → p7 → p8 → p9 → p10 → p11 → p12 → p13 → p14 → G) : G := ane14 h.2 (k h.1)
end Mine
end
section
open PySem PySem.W PyProof.Rows PySem.Spec PySem.Calls
namespace Mine
noncomputable def QRet (h₀ : Heap) (L : Addr) (m : Str → Option Value) (g : Heap) (L' : Addr) (Q : Value → Shared → Prop) (s : Shared) (gs : Array GenState) (d : Drawn) (o : OsState) (Q9 : Flow → Shared → Prop) : Prop :=
  ∀ fl h' tk m' news', Fr g L' h' m' → News g L' h' news' → (Fr h₀ L h' m → News h₀ L h' news' → Q (match fl with | .ret v => v | _ => .none) { s with heap := h', toks := tk }) → Q9 fl ⟨h', gs, d, tk, o⟩
theorem leave9 {h₀ g h' : Heap} {L L' : Addr} {m m' : Str → Option Value} {news' : Led} {Q : Value → Shared → Prop} {s : Shared} {Q9 : Flow → Shared → Prop} {v : Value} {gs : Array GenState} {d : Drawn} {tk : Nat} {o : OsState} (R : QRet h₀ L m g L' Q s gs d o Q9) (F' : Fr g L' h' m') (N' : News g L' h' news')
    (k : Fr h₀ L h' m → News h₀ L h' news' → Q v { s with heap := h', toks := tk }) : Q9 (.ret v) ⟨h', gs, d, tk, o⟩ := R _ _ _ _ _ F' N' k
theorem leave9n {h₀ g h' : Heap} {L L' : Addr} {m m' : Str → Option Value} {news' : Led} {Q : Value → Shared → Prop} {s : Shared} {Q9 : Flow → Shared → Prop} {gs : Array GenState} {d : Drawn} {tk : Nat} {o : OsState} (R : QRet h₀ L m g L' Q s gs d o Q9) (F' : Fr g L' h' m') (N' : News g L' h' news')
    (k : Fr h₀ L h' m → News h₀ L h' news' → Q .none { s with heap := h', toks := tk }) : Q9 .next ⟨h', gs, d, tk, o⟩ := R _ _ _ _ _ F' N' k
section
variable {prog : Program} {w : World} {p : Program} {loose : List Str} {mean : ExcName → Option Value} {mg mb : Str → Option Value} {dp un : Nat} {gd : Option (List Code)} {cn : Str} {cs : Scope} {ca : Addr} {ccd : Value} {cl : List (Str × Addr)} {outer : List PySem.Env} {A₀ : Around} {base h₀ : Heap} {L : Addr} {m : Str → Option Value} {news : Led} {s : Shared} {Q E : Value → Shared → Prop}
  {name qual : Str} {params : Arguments} {body : List Stmt} {scope : Scope} {dV kV doc pm cdv ct oc : Value} {an od : Option Addr} {osl : Array (Option Value)} {f : Addr} {args : List Value} {binds : List (Str × Value)}
theorem enter0 (B : Below A₀ base outer h₀) (F : Fr h₀ L s.heap m) (X₀ : (Mine.H.KK w.params).In h₀) (N : News h₀ L s.heap news) (T : Top p loose mean mg mb h₀) (hk : cs.kind = .function)
    (ho : (Mine.H.KK w.params).lookup f = some ⟨oc, od, .func (fnOf name qual params body scope dV kV doc pm an cdv ct), osl⟩) (hcd : codeIn (Mine.H.KK w.params) cdv qual = true) (hroom : dp < recursionLimit)
    (hbind : BindsTo s (fnOf name qual params body scope dV kV doc pm an cdv ct) ⟨args, []⟩ binds) (hloc : ∀ y ∈ binds, scope.names.lookup y.1 = some .local)
    (h : ∀ g L' h₁, Fr h₀ L g m → (let m9 := fun y => binds.reverse.lookup y; Fr g L' h₁ m9 → News g L' h₁ news → Below (ktrTop dp un gd cn cs L ca ccd cl outer) base (envX cn cs L ca ccd cl :: outer) g → (Mine.H.KK w.params).In g → Top p loose mean mg mb g →
      let e9 := envOf qual scope L' f cdv; let A9 := (ktrTop dp un gd cn cs L ca ccd cl outer).deeper e9;
      ∀ (gs : Array GenState) (d : Drawn) (o : OsState) (Q9 : Flow → Shared → Prop) (tk9 : Nat), QRet h₀ L m g L' Q s gs d o Q9 → wpAny (model prog w) A9 (execs body e9) Q9 (fun _ _ => False) ⟨h₁, gs, d, tk9, o⟩))
    (hco : scope.isCoroutine = false) (hgen : scope.isGenerator = false) (hkf : scope.kind = .function) (hcell : ∀ x ∈ scope.names, x.2 ≠ .cell) :
    wpAny (model prog w) (ktrTop dp un gd cn cs L ca ccd cl outer) (call (.ref f) args) Q E s :=
  wpAny_call (code_def B F X₀ N T rfl rfl hk ho hcd hroom hbind hloc (fun g L' h₁ FG F' N' B' X' T' => wpAny_mono (h g L' h₁ FG F' N' B' X' T' _ _ _ (fun fl s' => LeaveK h₀ L m g (fun r s' => match r with | .ok (.ret v) => Q v s' | .ok _ => False | .error e => E e s') (match fl with | .ret v => v | _ => .none) s') _ (fun _ _ _ _ _ F1 N1 k => ⟨_, _, _, F1, N1, k⟩)) (fun _ _ x => x) fun _ _ x => x.elim) hco hgen hkf hcell)
theorem enterC (B : Below A₀ base outer h₀) (F : Fr h₀ L s.heap m) (X₀ : (Mine.H.KK w.params).In h₀) (N : News h₀ L s.heap news) (T : Top p loose mean mg mb h₀) (hk : cs.kind = .function)
    (ho : (Mine.H.KK w.params).lookup f = some ⟨oc, od, .func (fnOf name qual params body scope dV kV doc pm an cdv ct), osl⟩) (hcd : codeIn (Mine.H.KK w.params) cdv qual = true) (hroom : dp < recursionLimit)
    (hbind : BindsTo s (fnOf name qual params body scope dV kV doc pm an cdv ct) ⟨args, []⟩ binds) (hkind : (binds.all fun y => scope.names.lookup y.1 == some .local || scope.names.lookup y.1 == some .cell) = true)
    (hnd : ((cellsFrom 0 scope.names []).map (·.1)).Nodup)
    (h : ∀ g L' h₁ cells, Fr h₀ L g m → (let m9 := bindL (envOfC qual scope L' f cdv).kindOf binds fun _ => none; Fr g L' h₁ m9 → News g L' h₁ (cells ++ news) →
      CellsAre (bindC (envOfC qual scope L' f cdv).kindOf binds fun _ => none) (cellsFrom (L' + 1) scope.names []) cells → Below (ktrTop dp un gd cn cs L ca ccd cl outer) base (envX cn cs L ca ccd cl :: outer) g → (Mine.H.KK w.params).In g → Top p loose mean mg mb g → AllLt L' news →
      let e9 := envOfC qual scope L' f cdv; let A9 := (ktrTop dp un gd cn cs L ca ccd cl outer).deeper e9;
      ∀ (gs : Array GenState) (d : Drawn) (o : OsState) (Q9 : Flow → Shared → Prop) (tk9 : Nat), QRet h₀ L m g L' Q s gs d o Q9 → wpAny (model prog w) A9 (execs body e9) Q9 (fun _ _ => False) ⟨h₁, gs, d, tk9, o⟩))
    (hco : scope.isCoroutine = false) (hgen : scope.isGenerator = false) (hkf : scope.kind = .function) :
    wpAny (model prog w) (ktrTop dp un gd cn cs L ca ccd cl outer) (call (.ref f) args) Q E s :=
  wpAny_call (code_defC B F X₀ N T rfl rfl hk ho hcd hroom hbind hkind hnd (fun g L' h₁ tk cells FG F' N' Y B' X' T' l => wpAny_mono (h g L' h₁ cells FG F' N' Y B' X' T' (allLt_of l) _ _ _ (fun fl s' => LeaveK h₀ L m g (fun r s' => match r with | .ok (.ret v) => Q v s' | .ok _ => False | .error e => E e s') (match fl with | .ret v => v | _ => .none) s') tk (fun _ _ _ _ _ F1 N1 k => ⟨_, _, _, F1, N1, k⟩)) (fun _ _ x => x) fun _ _ x => x.elim) hco hgen hkf)
end
noncomputable def QBox {α : Type} (s : Shared) (gs : Array GenState) (d : Drawn) (o : OsState) (Q Q9 : α → Shared → Prop) : Prop := ∀ a h' tk, Q a { s with heap := h', toks := tk } → Q9 a ⟨h', gs, d, tk, o⟩
theorem boxS {α : Type} {M : Model} {A : Around} {c : Sem α} {Q : α → Shared → Prop} {E : Value → Shared → Prop} {s : Shared} {h : Heap} {t : Nat}
    (k : ∀ gs d o tk (Q9 : α → Shared → Prop), QBox s gs d o Q Q9 → wpAny M A c Q9 (fun _ _ => False) ⟨h, gs, d, tk, o⟩) : wpAny M A c Q E { s with heap := h, toks := t } :=
  wpAny_mono (k _ _ _ _ Q fun _ _ _ q => q) (fun _ _ x => x) fun _ _ x => x.elim
theorem unbox {α : Type} {s : Shared} {gs : Array GenState} {d : Drawn} {o : OsState} {Q Q9 : α → Shared → Prop} {a : α} {h' : Heap} {tk : Nat} (R : QBox s gs d o Q Q9) (k : Q a { s with heap := h', toks := tk }) : Q9 a ⟨h', gs, d, tk, o⟩ := R _ _ _ k
theorem foldQ {α : Type} {M : Model} {A : Around} {c : Sem α} {Q : α → Shared → Prop} {E : Value → Shared → Prop} {s : Shared} (h : let q9 := Q; wpAny M A c q9 E s) : wpAny M A c Q E s := h
theorem normS {α : Type} {M : Model} {A : Around} {c : Sem α} {Q : α → Shared → Prop} {E : Value → Shared → Prop} {h h1 : Heap} {g : Array GenState} {d : Drawn} {t t1 : Nat} {o : OsState} (k : ∀ tk, wpAny M A c Q E ⟨h, g, d, tk, o⟩) :
    wpAny M A c Q E (Shared.mk h (Shared.gens (Shared.mk h1 g d t1 o)) (Shared.drawn (Shared.mk h1 g d t1 o)) t (Shared.os (Shared.mk h1 g d t1 o))) := k _
section
variable {M : Model} {A : Around} {E : Value → Shared → Prop} {h h₀ : Heap} {gs : Array GenState} {d : Drawn} {t : Nat} {os : OsState} {L a : Addr} {m : Str → Option Value} {cn : Str} {cs : Scope} {ccd : Value} {cl : List (Str × Addr)} {x : Str} {v : Value} {Q : Unit → Shared → Prop} {news : Led}
theorem storeL (F : Fr h₀ L h m) (N : News h₀ L h news)
    (k : ∀ h' tk, let m9 := fun y => if y = x then some v else m y; Fr h₀ L h' m9 → News h₀ L h' news → Q () ⟨h', gs, d, tk, os⟩)
    (hk : cs.kind = .function) (hx : (envX cn cs L a ccd cl).kindOf x = some .local) : wpAny M A (storeName (envX cn cs L a ccd cl) x v) Q E ⟨h, gs, d, t, os⟩ :=
  storeX_L F N (fun h' => k h' _) hk hx
end
theorem normH {α : Type} {M : Model} {A : Around} {c : Sem α} {Q : α → Shared → Prop} {E : Value → Shared → Prop} {h1 : Heap} {g : Array GenState} {d : Drawn} {t t1 : Nat} {o : OsState} (k : ∀ tk, wpAny M A c Q E ⟨h1, g, d, tk, o⟩) :
    wpAny M A c Q E (Shared.mk (Shared.heap (Shared.mk h1 g d t1 o)) (Shared.gens (Shared.mk h1 g d t1 o)) (Shared.drawn (Shared.mk h1 g d t1 o)) t (Shared.os (Shared.mk h1 g d t1 o))) := k _
theorem krv9 {prog : Program} {w : World} {A : Around} {E : Value → Shared → Prop} {h h₀ : Heap} {gs : Array GenState} {d : Drawn} {t : Nat} {o : OsState} {L l : Addr} {m : Str → Option Value} {news : Led} {value slice : PySem.Expr} {its : List Value} {vk : Value} {ops : List Value} {Q : Value → Shared → Prop} {n : Nat}
    (F : Fr h₀ L h m) (N : News h₀ L h news) (hl : (l, listO its n) ∈ news) (pk : IsPart vk (some (-1)))
    (k : ∀ D h', Fr h₀ L h' m → News h₀ L h' ((D, listOf (List.toArray its.reverse) 0) :: news) → AllLt D news → Q (.ref D) ⟨h', gs, d, t, o⟩)
    (hs : subscripted slice false (.ref l) (.ref h.objs.size) = operate ops (getItem (.ref l) (.ref h.objs.size))) (ht : ∀ r, letTemporaryGo value (.ref l) r = pure ()) (hz : its.length ≤ sizeLine) :
    wpAny (model prog w) A (subscriptTail value slice (.ref l) (.ref h.objs.size)) Q E ⟨h.push { cls := .type "slice", data := .fields #[.none, .none, vk] }, gs, d, t, o⟩ :=
  krv_lit (s := ⟨h, gs, d, t, o⟩) (its := List.toArray its) F N (isList_of N hl) pk rfl (fun D h' F' N' l1 => k D h' F' N' (allLt_of l1)) hs ht (by rw [List.size_toArray]; exact hz)
end Mine
end
section
open PySem PySem.W PyProof.Rows
namespace Mine
section
variable {x a b d f i j k m n y c : Nat}
theorem rb {J : Nat} (h : x + J < c) (e : y ≤ J) : x + y < c := Nat.lt_of_le_of_lt (Nat.add_le_add_left e x) h
theorem as3 : x + a + b + i = x + (a + b + i) := by rw [Nat.add_assoc x a b, Nat.add_assoc x (a + b) i]
theorem as4 : x + a + b + d + i = x + (a + b + d + i) := by rw [show x + a + b + d = x + (a + b + d) from as3, Nat.add_assoc x (a + b + d) i]
theorem as5 : x + a + b + d + f + i = x + (a + b + d + f + i) := by rw [show x + a + b + d + f = x + (a + b + d + f) from as4, Nat.add_assoc x (a + b + d + f) i]
theorem asy : a + (i + y) = a + i + y := (Nat.add_assoc a i y).symm
theorem bl (e : Nat.ble i j = true) : i ≤ j + y := Nat.le_trans (Nat.le_of_ble_eq_true e) (Nat.le_add_right j y)
theorem br (e : Nat.ble i j = true) : i + y ≤ j + y := Nat.add_le_add_right (Nat.le_of_ble_eq_true e) y
theorem bn (e : Nat.ble i j = true) : i ≤ y + j := Nat.le_trans (Nat.le_of_ble_eq_true e) (Nat.le_add_left j y)
theorem q2 (h : x + (a + i) < c) : x + a + i < c := Nat.lt_of_le_of_lt (Nat.le_of_eq (Nat.add_assoc x a i)) h
theorem q3 (h : x + (a + b + i) < c) : x + a + b + i < c := Nat.lt_of_le_of_lt (Nat.le_of_eq as3) h
theorem q4 (h : x + (a + b + d + i) < c) : x + a + b + d + i < c := Nat.lt_of_le_of_lt (Nat.le_of_eq as4) h
theorem q5 (h : x + (a + b + d + f + i) < c) : x + a + b + d + f + i < c := Nat.lt_of_le_of_lt (Nat.le_of_eq as5) h
theorem rq1 (h : x + (j + y) < c) (e : Nat.ble i j = true) : x + i < c := rb h (bl e)
theorem rq2 (h : x + (j + y) < c) (e : Nat.ble (a + i) j = true) : x + a + i < c := q2 (rb h (bl e))
theorem rq3 (h : x + (j + y) < c) (e : Nat.ble (a + b + i) j = true) : x + a + b + i < c := q3 (rb h (bl e))
theorem rs1 (h : x + (j + y) < c) (e : Nat.ble i j = true) : x + (i + y) < c := rb h (br e)
theorem rs2 (h : x + (j + y) < c) (e : Nat.ble (a + i) j = true) : x + a + (i + y) < c := q2 (rb h (Nat.le_trans (Nat.le_of_eq asy) (br e)))
theorem rs3 (h : x + (j + y) < c) (e : Nat.ble (a + b + i) j = true) : x + a + b + (i + y) < c := q3 (rb h (Nat.le_trans (Nat.le_of_eq asy) (br e)))
theorem rt1 (h : x + (j + k * (n + 1)) < c) (e : Nat.ble (a + i) (j + k) = true) : x + a + (i + k * n) < c := by
  have := Nat.le_of_ble_eq_true e; rw [Nat.mul_add] at h; omega
theorem rt2 (h : x + (j + k * (n + 1)) < c) (e : Nat.ble (a + i) j = true) : x + a + i < c := rq2 h e
theorem rk1 (h : x + j < c) (e : Nat.ble i j = true) : x + i < c := rb h (Nat.le_of_ble_eq_true e)
theorem rk2 (h : x + j < c) (e : Nat.ble (a + i) j = true) : x + a + i < c := q2 (rb h (Nat.le_of_ble_eq_true e))
theorem rk3 (h : x + j < c) (e : Nat.ble (a + b + i) j = true) : x + a + b + i < c := q3 (rb h (Nat.le_of_ble_eq_true e))
theorem rk4 (h : x + j < c) (e : Nat.ble (a + b + d + i) j = true) : x + a + b + d + i < c := q4 (rb h (Nat.le_of_ble_eq_true e))
theorem rk5 (h : x + j < c) (e : Nat.ble (a + b + d + f + i) j = true) : x + a + b + d + f + i < c := q5 (rb h (Nat.le_of_ble_eq_true e))
theorem ru1 (h : x + y + j < c) (e : Nat.ble (a + i) j = true) : x + a + i < c := q2 (rb (Nat.lt_of_le_of_lt (Nat.le_of_eq (Nat.add_assoc x y j).symm) h) (bn e))
theorem ru2 (h : x + y + j < c) (e : Nat.ble (a + b + i) j = true) : x + a + b + i < c := q3 (rb (Nat.lt_of_le_of_lt (Nat.le_of_eq (Nat.add_assoc x y j).symm) h) (bn e))
theorem ru3 (h : x + k * (n + m) + j < c) (e : Nat.ble a (k * m) = true) : x + a + k * n + j < c := by
  have := Nat.le_of_ble_eq_true e; rw [Nat.mul_add] at h; omega
theorem ru4 (h : x + k * (n + m) + j < c) (e : Nat.ble (a + b) (k * m) = true) : x + a + b + k * n + j < c := by
  have := Nat.le_of_ble_eq_true e; rw [Nat.mul_add] at h; omega
theorem rd3 (h : x + (n + m) + j < c) (e : Nat.ble a m = true) : x + a + n + j < c := by have := Nat.le_of_ble_eq_true e; omega
theorem rd4 (h : x + (n + m) + j < c) (e : Nat.ble (a + b) m = true) : x + a + b + n + j < c := by have := Nat.le_of_ble_eq_true e; omega
theorem nd1 (h : k < n) (e : Nat.ble a k = true) : a ≠ n := Nat.ne_of_lt (Nat.lt_of_le_of_lt (Nat.le_of_ble_eq_true e) h)
theorem nd2 (h : k < n) (e : Nat.ble a k = true) : n ≠ a := Nat.ne_of_gt (Nat.lt_of_le_of_lt (Nat.le_of_ble_eq_true e) h)
end
end Mine
end
section
open PySem PySem.W PyProof.Rows PySem.Spec PySem.Calls
set_option maxHeartbeats 4000000
namespace Mine
theorem K_isi (P : Params) : nsIn (Mine.H.KK P) mainGlobals (Str.ofString "isinstance") = some none := by k_is
noncomputable def isiOk (K : Frag) (ev : PySem.Env) (cs : Scope) (x c : Str) (D C : Addr) (b : Bool) : Bool :=
  (cs.kind == .function) && (ev.kindOf x == some .local) && (ev.kindOf c == some .globalImplicit) && (ev.kindOf (Str.ofString "isinstance") == some .globalImplicit) && (x == ("__debug__" : Str)) == false && (c == ("__debug__" : Str)) == false &&
  (b || (kin_not K D C && plainGet K D "__class__" && hasDictIn K D && findIn K (.ref D) "__class__" == some (some (.builtin "object.__class__")) &&
    specialIn K (.builtin "object.__class__") "__get__" == some (some (.builtin "getset_descriptor.__get__")) && takesIn K (.builtin "object.__class__") == some true && mroIn K D (.type "object") == some true))
section
variable {prog : Program} {w : World} {A : Around} {E : Value → Shared → Prop} {h h₀ : Heap} {g : Array GenState} {d : Drawn} {t : Nat} {os : OsState} {L a ca : Addr} {m mg mb : Str → Option Value} {cn : Str} {cs : Scope} {ccd : Value} {cl : List (Str × Addr)} {p : Program} {loose : List Str} {mean : ExcName → Option Value} {news : Led}
  {x c : Str} {p1 p2 p3 p4 p5 : Pos} {D C dd : Addr} {od : Obj} {b : Bool} {body orelse rest : List Stmt} {Q : Flow → Shared → Prop}
theorem isi_core {Q : Value → Shared → Prop} (F : Fr h₀ L h m) (N : News h₀ L h news) (X : (Mine.H.KK w.params).In h₀) (T : Top p loose mean mg mb h₀) (hv : m x = some (.ref a)) (h1 : (a, instObj D dd) ∈ news) (h2 : (dd, od) ∈ news)
    (e0 : nsIn (Mine.H.KK w.params) mainGlobals c = some (some (.ref C))) (e1 : isIn (Mine.H.KK w.params) (.ref D) C = b) (e2 : isiOk (Mine.H.KK w.params) (envX cn cs L ca ccd cl) cs x c D C b = true)
    (k : ∀ tk, Q (.bool b) ⟨h, g, d, tk, os⟩) : wpAny (model prog w) A (eval (.Call (.Name "isinstance" p1) [.Name x p2, .Name c p3] [] p4) (envX cn cs L ca ccd cl)) Q E ⟨h, g, d, t, os⟩ := by
  unfold isiOk at e2
  simp only [Bool.and_eq_true, beq_iff_eq, Bool.or_eq_true] at e2
  obtain ⟨⟨⟨⟨⟨⟨q1, q2⟩, q3⟩, q4⟩, q5⟩, q6⟩, q7⟩ := e2
  have T1 := topRead_of T
  have X1 : (Mine.H.KK w.params).In h := X.keeps F.keep
  refine Call_ ?_
  refine nameX_B (s := ⟨h, g, d, t, os⟩) F X T1 (K_isi w.params) (v := .builtin "isinstance") (by boot_fast) (by decide +kernel) ?_ q1 q4 (by decide +kernel)
  refine PyProof.Rows.callWith_builtin1 ?_ rfl rfl
  refine args_cons ?_
  refine nameX_L (s := ⟨h, g, d, t, os⟩) F hv ?_ q1 q2 q5
  refine args_cons ?_
  refine nameX_K (s := ⟨h, g, d, t, os⟩) F X T1 e0 ?_ q1 q3 q6
  refine args_nil ?_
  have I : InstAt h a (instObj D dd) D (some od) := InstAt.of_news N h1 h2
  cases b with
  | true => exact isi_call (s := ⟨h, g, d, t, os⟩) X1 (fun M => I.type) e1 (by intro e; cases e) (k t)
  | false =>
    rcases q7 with q7 | ⟨⟨⟨⟨⟨⟨r1, r2⟩, r3⟩, r4⟩, r5⟩, r6⟩, r7⟩
    · cases q7
    · exact kin_callC (s := ⟨h, g, d, t, os⟩) X1 I r1 r2 r3 r4 r5 r6 r7 (k (t + 1))
theorem ifIsiF (F : Fr h₀ L h m) (N : News h₀ L h news) (X : (Mine.H.KK w.params).In h₀) (T : Top p loose mean mg mb h₀) (hv : m x = some (.ref a)) (h1 : (a, instObj D dd) ∈ news) (h2 : (dd, od) ∈ news)
    (e0 : nsIn (Mine.H.KK w.params) mainGlobals c = some (some (.ref C))) (e1 : isIn (Mine.H.KK w.params) (.ref D) C = false) (e2 : isiOk (Mine.H.KK w.params) (envX cn cs L ca ccd cl) cs x c D C false = true)
    (k : ∀ tk, wpAny (model prog w) A (execs rest (envX cn cs L ca ccd cl)) Q E ⟨h, g, d, tk, os⟩) :
    wpAny (model prog w) A (execs (.If (.Call (.Name "isinstance" p1) [.Name x p2, .Name c p3] [] p4) body [] p5 :: rest) (envX cn cs L ca ccd cl)) Q E ⟨h, g, d, t, os⟩ := by
  refine wpAny_execs_cons (wpAny_If (isTrue_plain (isi_core F N X T hv h1 h2 e0 e1 e2 fun tk => wpAny_truthy_bool ?_)))
  rw [if_neg Bool.false_ne_true]
  exact wpAny_execs_nil (k tk)
theorem ifIsiT (F : Fr h₀ L h m) (N : News h₀ L h news) (X : (Mine.H.KK w.params).In h₀) (T : Top p loose mean mg mb h₀) (hv : m x = some (.ref a)) (h1 : (a, instObj D dd) ∈ news) (h2 : (dd, od) ∈ news)
    (e0 : nsIn (Mine.H.KK w.params) mainGlobals c = some (some (.ref C))) (e1 : isIn (Mine.H.KK w.params) (.ref D) C = true) (e2 : isiOk (Mine.H.KK w.params) (envX cn cs L ca ccd cl) cs x c D C true = true)
    (k : ∀ tk, wpAny (model prog w) A (execs body (envX cn cs L ca ccd cl)) (fun f s' => match f with | .next => wpAny (model prog w) A (execs rest (envX cn cs L ca ccd cl)) Q E s' | f => Q f s') E ⟨h, g, d, tk, os⟩) :
    wpAny (model prog w) A (execs (.If (.Call (.Name "isinstance" p1) [.Name x p2, .Name c p3] [] p4) body orelse p5 :: rest) (envX cn cs L ca ccd cl)) Q E ⟨h, g, d, t, os⟩ := by
  refine wpAny_execs_cons (wpAny_If (isTrue_plain (isi_core F N X T hv h1 h2 e0 e1 e2 fun tk => wpAny_truthy_bool ?_)))
  rw [if_pos rfl]
  exact k tk
variable {Qv : Value → Shared → Prop} {v v1 v2 v3 v4 : Value} {fa : Addr} {f x1 x2 x3 x4 : Str} {pa pb pc pd pe pf : Pos} {attr : Str} {s : Shared} {es : List DictEntry} {nn : Nat} {at' : Option Value}
noncomputable def okN (cs : Scope) (ev : PySem.Env) (x : Str) (k : NameKind) : Bool := (cs.kind == .function) && (ev.kindOf x == some k) && (x == ("__debug__" : Str)) == false
theorem okN_of {k : NameKind} {ev : PySem.Env} (o : okN cs ev x k = true) : cs.kind = .function ∧ ev.kindOf x = some k ∧ (x == ("__debug__" : Str)) = false := by
  unfold okN at o; simp only [Bool.and_eq_true, beq_iff_eq] at o; exact ⟨o.1.1, o.1.2, o.2⟩
theorem nmL (F : Fr h₀ L s.heap m) (hv : m x = some v) (o : okN cs (envX cn cs L ca ccd cl) x .local = true) (k : Qv v s) : wpAny (model prog w) A (eval (.Name x pa) (envX cn cs L ca ccd cl)) Qv E s :=
  nameX_L F hv k (okN_of o).1 (okN_of o).2.1 (okN_of o).2.2
theorem nmK (F : Fr h₀ L s.heap m) (X : (Mine.H.KK w.params).In h₀) (T : Top p loose mean mg mb h₀) (e : nsIn (Mine.H.KK w.params) mainGlobals x = some (some v)) (o : okN cs (envX cn cs L ca ccd cl) x .globalImplicit = true) (k : Qv v s) : wpAny (model prog w) A (eval (.Name x pa) (envX cn cs L ca ccd cl)) Qv E s :=
  nameX_K F X (topRead_of T) e k (okN_of o).1 (okN_of o).2.1 (okN_of o).2.2
theorem nmB (F : Fr h₀ L s.heap m) (X : (Mine.H.KK w.params).In h₀) (T : Top p loose mean mg mb h₀) (e : nsIn (Mine.H.KK w.params) mainGlobals x = some none) (hv : bootBuiltins x = some v) (o : (okN cs (envX cn cs L ca ccd cl) x .globalImplicit && !(x == ("__name__" : Str))) = true) (k : Qv v s) : wpAny (model prog w) A (eval (.Name x pa) (envX cn cs L ca ccd cl)) Qv E s := by
  obtain ⟨o, n⟩ := Bool.and_eq_true_iff.mp o
  exact nameX_B F X (topRead_of T) e hv (fun q => by rw [q] at n; exact absurd n (by decide)) k (okN_of o).1 (okN_of o).2.1 (okN_of o).2.2
theorem attrL (F : Fr h₀ L h m) (N : News h₀ L h news) (X : (Mine.H.KK w.params).In h₀) (hv : m x = some (.ref a)) (h1 : (a, instObj D dd) ∈ news) (h2 : (dd, dictOf es nn) ∈ news) (o : okN cs (envX cn cs L ca ccd cl) x .local = true)
    (hg : plainGet (Mine.H.KK w.params) D attr = true) (hh : hasDictIn (Mine.H.KK w.params) D = true) (ha : findIn (Mine.H.KK w.params) (.ref D) attr = some at') (hn : noGet (Mine.H.KK w.params) at' = true) (hl : getL attr es = some (some v)) (hd9 : handedIn v = true)
    (k : ∀ tk, Qv v ⟨h, g, d, tk, os⟩) : wpAny (model prog w) A (eval (.Attribute (.Name x pa) attr pb) (envX cn cs L ca ccd cl)) Qv E ⟨h, g, d, t, os⟩ :=
  Attribute_Name_ (nmL (s := ⟨h, g, d, t, os⟩) F hv o (get_own (s := ⟨h, g, d, t, os⟩) F X (InstAt.of_news N h1 h2) hg hh ha hn hl hd9 (k (t + 1))))
theorem callL1 (F : Fr h₀ L s.heap m) (X : (Mine.H.KK w.params).In h₀) (T : Top p loose mean mg mb h₀) (e : nsIn (Mine.H.KK w.params) mainGlobals f = some (some (.ref fa))) (hk : keepIn (Mine.H.KK w.params) (.ref fa) = true)
    (e1 : m x1 = some v1) (o : (okN cs (envX cn cs L ca ccd cl) f .globalImplicit && okN cs (envX cn cs L ca ccd cl) x1 .local) = true)
    (k : wpAny (model prog w) A (call (.ref fa) [v1]) Qv E s) : wpAny (model prog w) A (eval (.Call (.Name f pa) [.Name x1 pb] [] pf) (envX cn cs L ca ccd cl)) Qv E s := by
  obtain ⟨o0, o1⟩ := Bool.and_eq_true_iff.mp o
  refine Call_ (nmK F X T e o0 (callWith_K (h₀ := h₀) X hk (args_cons (nmL F e1 o1 (args_nil ⟨X.keeps F.keep, k⟩)) rfl) rfl rfl)) rfl
theorem callL2 (F : Fr h₀ L s.heap m) (X : (Mine.H.KK w.params).In h₀) (T : Top p loose mean mg mb h₀) (e : nsIn (Mine.H.KK w.params) mainGlobals f = some (some (.ref fa))) (hk : keepIn (Mine.H.KK w.params) (.ref fa) = true)
    (e1 : m x1 = some v1) (e2 : m x2 = some v2) (o : (okN cs (envX cn cs L ca ccd cl) f .globalImplicit && okN cs (envX cn cs L ca ccd cl) x1 .local && okN cs (envX cn cs L ca ccd cl) x2 .local) = true)
    (k : wpAny (model prog w) A (call (.ref fa) [v1, v2]) Qv E s) : wpAny (model prog w) A (eval (.Call (.Name f pa) [.Name x1 pb, .Name x2 pc] [] pf) (envX cn cs L ca ccd cl)) Qv E s := by
  obtain ⟨o, o2⟩ := Bool.and_eq_true_iff.mp o
  obtain ⟨o0, o1⟩ := Bool.and_eq_true_iff.mp o
  refine Call_ (nmK F X T e o0 (callWith_K (h₀ := h₀) X hk (args_cons (nmL F e1 o1 (args_cons (nmL F e2 o2 (args_nil ⟨X.keeps F.keep, k⟩)) rfl)) rfl) rfl rfl)) rfl
theorem callL3 (F : Fr h₀ L s.heap m) (X : (Mine.H.KK w.params).In h₀) (T : Top p loose mean mg mb h₀) (e : nsIn (Mine.H.KK w.params) mainGlobals f = some (some (.ref fa))) (hk : keepIn (Mine.H.KK w.params) (.ref fa) = true)
    (e1 : m x1 = some v1) (e2 : m x2 = some v2) (e3 : m x3 = some v3) (o : (okN cs (envX cn cs L ca ccd cl) f .globalImplicit && okN cs (envX cn cs L ca ccd cl) x1 .local && okN cs (envX cn cs L ca ccd cl) x2 .local && okN cs (envX cn cs L ca ccd cl) x3 .local) = true)
    (k : wpAny (model prog w) A (call (.ref fa) [v1, v2, v3]) Qv E s) : wpAny (model prog w) A (eval (.Call (.Name f pa) [.Name x1 pb, .Name x2 pc, .Name x3 pd] [] pf) (envX cn cs L ca ccd cl)) Qv E s := by
  obtain ⟨o, o3⟩ := Bool.and_eq_true_iff.mp o
  obtain ⟨o, o2⟩ := Bool.and_eq_true_iff.mp o
  obtain ⟨o0, o1⟩ := Bool.and_eq_true_iff.mp o
  refine Call_ (nmK F X T e o0 (callWith_K (h₀ := h₀) X hk (args_cons (nmL F e1 o1 (args_cons (nmL F e2 o2 (args_cons (nmL F e3 o3 (args_nil ⟨X.keeps F.keep, k⟩)) rfl)) rfl)) rfl) rfl rfl)) rfl
end
end Mine
end
section
open PySem PySem.W PyProof.Rows PySem.Spec PySem.Calls
set_option maxHeartbeats 4000000
namespace Mine
section
theorem boxI {M : Model} {A : Around} {env : PySem.Env} {body : List Stmt} {Q : Flow → Shared → Prop} {E : Value → Shared → Prop} {s : Shared} (h : let M9 := M; let e9 := env; let A9 := A; let q9 := Q; let E9 := E; wpAny M9 A9 (execs body e9) q9 E9 s) : wpAny M A (execs body env) Q E s := h
theorem hA9 {A : Around} {env e : PySem.Env} {outer : List PySem.Env} {i : String} {ar : Args} (h : A.frames = some (env :: outer)) : ((A.under (.builtin i ar)).deeper e).frames = some (e :: env :: outer) := by
  simp [Around.deeper, Around.under, h]; rfl
variable {prog : Program} {w : World} {A A₀ : Around} {E : Value → Shared → Prop} {h : Heap} {gs : Array GenState} {dr : Drawn} {tk0 : Nat} {os : OsState} {L : Addr} {h₀ base : Heap} {m mg mb : Str → Option Value} {news : Led} {p : Program} {loose : List Str} {mean : ExcName → Option Value} {env : PySem.Env} {outer : List PySem.Env} {Q : Value → Shared → Prop}
theorem mk_38 {v1 v2 v3 : Value} (B : Below A₀ base outer h₀) (F : Fr h₀ L h m) (X : (Mine.H.KK w.params).In h₀) (N : News h₀ L h news) (T : Top p loose mean mg mb h₀) (hA : A.frames = some (env :: outer)) (hf : env.frame = some L) (hke : env.scope.kind = .function) (hroom : A.depth + 1 < recursionLimit)
    (ret : ∀ (x dx l : Addr) (t0 t1 t2 t3 t4 t5 : Tok) (h' : Heap) (tk : Nat), let led9 := (x, instObj 38 dx) :: (dx, dictOf [at_ w "patterns" t1 v1, at_ w "body" t2 v2, at_ w "can_fail" t3 v3] 3) :: news; Fr h₀ L h' m → News h₀ L h' led9 → AllLt dx news → @LT.lt Nat _ dx x → Q (.ref x) ⟨h', gs, dr, tk, os⟩) :
    wpAny (model prog w) A (call (.ref 38) [v1, v2, v3] []) Q E ⟨h, gs, dr, tk0, os⟩ := by
  refine' call_init (s := ⟨h, gs, dr, tk0, os⟩) (K := Mine.H.KK w.params) (binds := [("patterns", v1), ("body", v2), ("can_fail", v3)]) (P := fun _ t o => t = [] ∧ ∃ t1 t2 t3, o = dictOf [at_ w "patterns" t1 v1, at_ w "body" t2 v2, at_ w "can_fail" t3 v3] 3) B F X N T hA hf hke hroom ?hm ?hi ?hfn ?ho ?hcd ?hbind ?hloc ?c1 ?c2 ?c3 ?c4 ?hbody ?hret
  case hm => k_is
  case hi => k_is
  case hfn => k_is
  case ho => k_is
  case hcd => k_is
  case hbind => exact fun x s' _ => BindsTo.of_eq rfl
  case hloc => exact fun x => locs rfl
  case c1 => exact rfl
  case c2 => exact rfl
  case c3 => exact rfl
  case c4 => decide
  case hbody =>
    intro x dx g L' h₁ tk E' F1 N1 X1 B1 T1 l1 l2
    refine boxI ?_
    intro M9 e9 A9 q9 E9
    have S : SetC (Mine.H.KK w.params) 38 := ⟨by k_is, by k_is, by k_is⟩
    refine wpAny_execs_cons (set1 (t' := []) X1 S rfl rfl rfl (by k_is) rfl (Nat.le_of_ble_eq_true rfl) (fun _ h => nomatch h) (Nat.ne_of_gt l2) (fun q hq => Nat.ne_of_lt (l1 q hq)) (fun _ => rfl) (ev_name F1 N1 rfl rfl rfl rfl) fun h2 tk2 t1 F2 N2 => ?_)
    refine wpAny_execs_cons (set1 (t' := []) X1 S rfl rfl rfl (by k_is) rfl (Nat.le_of_ble_eq_true rfl) (fun _ h => nomatch h) (Nat.ne_of_gt l2) (fun q hq => Nat.ne_of_lt (l1 q hq)) (fun _ => rfl) (ev_name F2 N2 rfl rfl rfl rfl) fun h3 tk3 t2 F3 N3 => ?_)
    refine wpAny_execs_cons (set1 (t' := []) X1 S rfl rfl rfl (by k_is) rfl (Nat.le_of_ble_eq_true rfl) (fun _ h => nomatch h) (Nat.ne_of_gt l2) (fun q hq => Nat.ne_of_lt (l1 q hq)) (fun _ => rfl) (ev_name F3 N3 rfl rfl rfl rfl) fun h4 tk4 t3 F4 N4 => ?_)
    exact wpAny_execs_nil ⟨rfl, ex5 _ _ _ [] _ ⟨rfl, F4, N4, rfl, ex3 t1 t2 t3 rfl⟩⟩
  case hret =>
    intro x dx t o h' tk F' N' P' l1 l2
    obtain ⟨rfl, t1, t2, t3, rfl⟩ := P'
    exact ret x dx 0 t1 t1 t2 t3 t1 t1 h' tk F' N' (allLt_of l1) l2
theorem mk_80 {v1 : Value} (B : Below A₀ base outer h₀) (F : Fr h₀ L h m) (X : (Mine.H.KK w.params).In h₀) (N : News h₀ L h news) (T : Top p loose mean mg mb h₀) (hA : A.frames = some (env :: outer)) (hf : env.frame = some L) (hke : env.scope.kind = .function) (hroom : A.depth + 1 < recursionLimit)
    (ret : ∀ (x dx l : Addr) (t0 t1 t2 t3 t4 t5 : Tok) (h' : Heap) (tk : Nat), let led9 := (x, instObj 80 dx) :: (dx, dictOf [at_ w "name" t1 v1] 1) :: news; Fr h₀ L h' m → News h₀ L h' led9 → AllLt dx news → @LT.lt Nat _ dx x → Q (.ref x) ⟨h', gs, dr, tk, os⟩) :
    wpAny (model prog w) A (call (.ref 80) [v1] []) Q E ⟨h, gs, dr, tk0, os⟩ := by
  refine' call_init (s := ⟨h, gs, dr, tk0, os⟩) (K := Mine.H.KK w.params) (binds := [("name", v1)]) (P := fun _ t o => t = [] ∧ ∃ t1, o = dictOf [at_ w "name" t1 v1] 1) B F X N T hA hf hke hroom ?hm ?hi ?hfn ?ho ?hcd ?hbind ?hloc ?c1 ?c2 ?c3 ?c4 ?hbody ?hret
  case hm => k_is
  case hi => k_is
  case hfn => k_is
  case ho => k_is
  case hcd => k_is
  case hbind => exact fun x s' _ => BindsTo.of_eq rfl
  case hloc => exact fun x => locs rfl
  case c1 => exact rfl
  case c2 => exact rfl
  case c3 => exact rfl
  case c4 => decide
  case hbody =>
    intro x dx g L' h₁ tk E' F1 N1 X1 B1 T1 l1 l2
    refine boxI ?_
    intro M9 e9 A9 q9 E9
    have S : SetC (Mine.H.KK w.params) 80 := ⟨by k_is, by k_is, by k_is⟩
    refine wpAny_execs_cons (set1 (t' := []) X1 S rfl rfl rfl (by k_is) rfl (Nat.le_of_ble_eq_true rfl) (fun _ h => nomatch h) (Nat.ne_of_gt l2) (fun q hq => Nat.ne_of_lt (l1 q hq)) (fun _ => rfl) (ev_name F1 N1 rfl rfl rfl rfl) fun h2 tk2 t1 F2 N2 => ?_)
    exact wpAny_execs_nil ⟨rfl, ex5 _ _ _ [] _ ⟨rfl, F2, N2, rfl, ⟨t1, rfl⟩⟩⟩
  case hret =>
    intro x dx t o h' tk F' N' P' l1 l2
    obtain ⟨rfl, t1, rfl⟩ := P'
    exact ret x dx 0 t1 t1 t1 t1 t1 t1 h' tk F' N' (allLt_of l1) l2
theorem mk_122 {v1 v2 : Value} (B : Below A₀ base outer h₀) (F : Fr h₀ L h m) (X : (Mine.H.KK w.params).In h₀) (N : News h₀ L h news) (T : Top p loose mean mg mb h₀) (hA : A.frames = some (env :: outer)) (hf : env.frame = some L) (hke : env.scope.kind = .function) (hroom : A.depth + 1 < recursionLimit)
    (ret : ∀ (x dx l : Addr) (t0 t1 t2 t3 t4 t5 : Tok) (h' : Heap) (tk : Nat), let led9 := (x, instObj 122 dx) :: (dx, dictOf [at_ w "kind" t1 v1, at_ w "value" t2 v2] 2) :: news; Fr h₀ L h' m → News h₀ L h' led9 → AllLt dx news → @LT.lt Nat _ dx x → Q (.ref x) ⟨h', gs, dr, tk, os⟩) :
    wpAny (model prog w) A (call (.ref 122) [v1, v2] []) Q E ⟨h, gs, dr, tk0, os⟩ := by
  refine' call_init (s := ⟨h, gs, dr, tk0, os⟩) (K := Mine.H.KK w.params) (binds := [("kind", v1), ("value", v2)]) (P := fun _ t o => t = [] ∧ ∃ t1 t2, o = dictOf [at_ w "kind" t1 v1, at_ w "value" t2 v2] 2) B F X N T hA hf hke hroom ?hm ?hi ?hfn ?ho ?hcd ?hbind ?hloc ?c1 ?c2 ?c3 ?c4 ?hbody ?hret
  case hm => k_is
  case hi => k_is
  case hfn => k_is
  case ho => k_is
  case hcd => k_is
  case hbind => exact fun x s' _ => BindsTo.of_eq rfl
  case hloc => exact fun x => locs rfl
  case c1 => exact rfl
  case c2 => exact rfl
  case c3 => exact rfl
  case c4 => decide
  case hbody =>
    intro x dx g L' h₁ tk E' F1 N1 X1 B1 T1 l1 l2
    refine boxI ?_
    intro M9 e9 A9 q9 E9
    have S : SetC (Mine.H.KK w.params) 122 := ⟨by k_is, by k_is, by k_is⟩
    refine wpAny_execs_cons (set1 (t' := []) X1 S rfl rfl rfl (by k_is) rfl (Nat.le_of_ble_eq_true rfl) (fun _ h => nomatch h) (Nat.ne_of_gt l2) (fun q hq => Nat.ne_of_lt (l1 q hq)) (fun _ => rfl) (ev_name F1 N1 rfl rfl rfl rfl) fun h2 tk2 t1 F2 N2 => ?_)
    refine wpAny_execs_cons (set1 (t' := []) X1 S rfl rfl rfl (by k_is) rfl (Nat.le_of_ble_eq_true rfl) (fun _ h => nomatch h) (Nat.ne_of_gt l2) (fun q hq => Nat.ne_of_lt (l1 q hq)) (fun _ => rfl) (ev_name F2 N2 rfl rfl rfl rfl) fun h3 tk3 t2 F3 N3 => ?_)
    exact wpAny_execs_nil ⟨rfl, ex5 _ _ _ [] _ ⟨rfl, F3, N3, rfl, ex2 t1 t2 rfl⟩⟩
  case hret =>
    intro x dx t o h' tk F' N' P' l1 l2
    obtain ⟨rfl, t1, t2, rfl⟩ := P'
    exact ret x dx 0 t1 t1 t2 t1 t1 t1 h' tk F' N' (allLt_of l1) l2
theorem mk_162 {v1 v2 : Value} (B : Below A₀ base outer h₀) (F : Fr h₀ L h m) (X : (Mine.H.KK w.params).In h₀) (N : News h₀ L h news) (T : Top p loose mean mg mb h₀) (hA : A.frames = some (env :: outer)) (hf : env.frame = some L) (hke : env.scope.kind = .function) (hroom : A.depth + 1 < recursionLimit)
    (ret : ∀ (x dx l : Addr) (t0 t1 t2 t3 t4 t5 : Tok) (h' : Heap) (tk : Nat), let led9 := (x, instObj 162 dx) :: (dx, dictOf [at_ w "fun" t1 v1, at_ w "args" t2 v2] 2) :: news; Fr h₀ L h' m → News h₀ L h' led9 → AllLt dx news → @LT.lt Nat _ dx x → Q (.ref x) ⟨h', gs, dr, tk, os⟩) :
    wpAny (model prog w) A (call (.ref 162) [v1, v2] []) Q E ⟨h, gs, dr, tk0, os⟩ := by
  refine' call_init (s := ⟨h, gs, dr, tk0, os⟩) (K := Mine.H.KK w.params) (binds := [("fun", v1), ("args", v2)]) (P := fun _ t o => t = [] ∧ ∃ t1 t2, o = dictOf [at_ w "fun" t1 v1, at_ w "args" t2 v2] 2) B F X N T hA hf hke hroom ?hm ?hi ?hfn ?ho ?hcd ?hbind ?hloc ?c1 ?c2 ?c3 ?c4 ?hbody ?hret
  case hm => k_is
  case hi => k_is
  case hfn => k_is
  case ho => k_is
  case hcd => k_is
  case hbind => exact fun x s' _ => BindsTo.of_eq rfl
  case hloc => exact fun x => locs rfl
  case c1 => exact rfl
  case c2 => exact rfl
  case c3 => exact rfl
  case c4 => decide
  case hbody =>
    intro x dx g L' h₁ tk E' F1 N1 X1 B1 T1 l1 l2
    refine boxI ?_
    intro M9 e9 A9 q9 E9
    have S : SetC (Mine.H.KK w.params) 162 := ⟨by k_is, by k_is, by k_is⟩
    refine wpAny_execs_cons (set1 (t' := []) X1 S rfl rfl rfl (by k_is) rfl (Nat.le_of_ble_eq_true rfl) (fun _ h => nomatch h) (Nat.ne_of_gt l2) (fun q hq => Nat.ne_of_lt (l1 q hq)) (fun _ => rfl) (ev_name F1 N1 rfl rfl rfl rfl) fun h2 tk2 t1 F2 N2 => ?_)
    refine wpAny_execs_cons (set1 (t' := []) X1 S rfl rfl rfl (by k_is) rfl (Nat.le_of_ble_eq_true rfl) (fun _ h => nomatch h) (Nat.ne_of_gt l2) (fun q hq => Nat.ne_of_lt (l1 q hq)) (fun _ => rfl) (ev_name F2 N2 rfl rfl rfl rfl) fun h3 tk3 t2 F3 N3 => ?_)
    exact wpAny_execs_nil ⟨rfl, ex5 _ _ _ [] _ ⟨rfl, F3, N3, rfl, ex2 t1 t2 rfl⟩⟩
  case hret =>
    intro x dx t o h' tk F' N' P' l1 l2
    obtain ⟨rfl, t1, t2, rfl⟩ := P'
    exact ret x dx 0 t1 t1 t2 t1 t1 t1 h' tk F' N' (allLt_of l1) l2
theorem mk_204 {v1 v2 : Value} (B : Below A₀ base outer h₀) (F : Fr h₀ L h m) (X : (Mine.H.KK w.params).In h₀) (N : News h₀ L h news) (T : Top p loose mean mg mb h₀) (hA : A.frames = some (env :: outer)) (hf : env.frame = some L) (hke : env.scope.kind = .function) (hroom : A.depth + 1 < recursionLimit)
    (ret : ∀ (x dx l : Addr) (t0 t1 t2 t3 t4 t5 : Tok) (h' : Heap) (tk : Nat), let led9 := (x, instObj 204 dx) :: (dx, dictOf [at_ w "params" t1 v1, at_ w "body" t2 v2] 2) :: news; Fr h₀ L h' m → News h₀ L h' led9 → AllLt dx news → @LT.lt Nat _ dx x → Q (.ref x) ⟨h', gs, dr, tk, os⟩) :
    wpAny (model prog w) A (call (.ref 204) [v1, v2] []) Q E ⟨h, gs, dr, tk0, os⟩ := by
  refine' call_init (s := ⟨h, gs, dr, tk0, os⟩) (K := Mine.H.KK w.params) (binds := [("params", v1), ("body", v2)]) (P := fun _ t o => t = [] ∧ ∃ t1 t2, o = dictOf [at_ w "params" t1 v1, at_ w "body" t2 v2] 2) B F X N T hA hf hke hroom ?hm ?hi ?hfn ?ho ?hcd ?hbind ?hloc ?c1 ?c2 ?c3 ?c4 ?hbody ?hret
  case hm => k_is
  case hi => k_is
  case hfn => k_is
  case ho => k_is
  case hcd => k_is
  case hbind => exact fun x s' _ => BindsTo.of_eq rfl
  case hloc => exact fun x => locs rfl
  case c1 => exact rfl
  case c2 => exact rfl
  case c3 => exact rfl
  case c4 => decide
  case hbody =>
    intro x dx g L' h₁ tk E' F1 N1 X1 B1 T1 l1 l2
    refine boxI ?_
    intro M9 e9 A9 q9 E9
    have S : SetC (Mine.H.KK w.params) 204 := ⟨by k_is, by k_is, by k_is⟩
    refine wpAny_execs_cons (set1 (t' := []) X1 S rfl rfl rfl (by k_is) rfl (Nat.le_of_ble_eq_true rfl) (fun _ h => nomatch h) (Nat.ne_of_gt l2) (fun q hq => Nat.ne_of_lt (l1 q hq)) (fun _ => rfl) (ev_name F1 N1 rfl rfl rfl rfl) fun h2 tk2 t1 F2 N2 => ?_)
    refine wpAny_execs_cons (set1 (t' := []) X1 S rfl rfl rfl (by k_is) rfl (Nat.le_of_ble_eq_true rfl) (fun _ h => nomatch h) (Nat.ne_of_gt l2) (fun q hq => Nat.ne_of_lt (l1 q hq)) (fun _ => rfl) (ev_name F2 N2 rfl rfl rfl rfl) fun h3 tk3 t2 F3 N3 => ?_)
    exact wpAny_execs_nil ⟨rfl, ex5 _ _ _ [] _ ⟨rfl, F3, N3, rfl, ex2 t1 t2 rfl⟩⟩
  case hret =>
    intro x dx t o h' tk F' N' P' l1 l2
    obtain ⟨rfl, t1, t2, rfl⟩ := P'
    exact ret x dx 0 t1 t1 t2 t1 t1 t1 h' tk F' N' (allLt_of l1) l2
theorem mk_242 {v1 v2 v3 : Value} (B : Below A₀ base outer h₀) (F : Fr h₀ L h m) (X : (Mine.H.KK w.params).In h₀) (N : News h₀ L h news) (T : Top p loose mean mg mb h₀) (hA : A.frames = some (env :: outer)) (hf : env.frame = some L) (hke : env.scope.kind = .function) (hroom : A.depth + 1 < recursionLimit)
    (ret : ∀ (x dx l : Addr) (t0 t1 t2 t3 t4 t5 : Tok) (h' : Heap) (tk : Nat), let led9 := (x, instObj 242 dx) :: (dx, dictOf [at_ w "binds" t1 v1, at_ w "body" t2 v2, at_ w "is_rec" t3 v3] 3) :: news; Fr h₀ L h' m → News h₀ L h' led9 → AllLt dx news → @LT.lt Nat _ dx x → Q (.ref x) ⟨h', gs, dr, tk, os⟩) :
    wpAny (model prog w) A (call (.ref 242) [v1, v2, v3] []) Q E ⟨h, gs, dr, tk0, os⟩ := by
  refine' call_init (s := ⟨h, gs, dr, tk0, os⟩) (K := Mine.H.KK w.params) (binds := [("binds", v1), ("body", v2), ("is_rec", v3)]) (P := fun _ t o => t = [] ∧ ∃ t1 t2 t3, o = dictOf [at_ w "binds" t1 v1, at_ w "body" t2 v2, at_ w "is_rec" t3 v3] 3) B F X N T hA hf hke hroom ?hm ?hi ?hfn ?ho ?hcd ?hbind ?hloc ?c1 ?c2 ?c3 ?c4 ?hbody ?hret
  case hm => k_is
  case hi => k_is
  case hfn => k_is
  case ho => k_is
  case hcd => k_is
  case hbind => exact fun x s' _ => BindsTo.of_eq rfl
  case hloc => exact fun x => locs rfl
  case c1 => exact rfl
  case c2 => exact rfl
  case c3 => exact rfl
  case c4 => decide
  case hbody =>
    intro x dx g L' h₁ tk E' F1 N1 X1 B1 T1 l1 l2
    refine boxI ?_
    intro M9 e9 A9 q9 E9
    have S : SetC (Mine.H.KK w.params) 242 := ⟨by k_is, by k_is, by k_is⟩
    refine wpAny_execs_cons (set1 (t' := []) X1 S rfl rfl rfl (by k_is) rfl (Nat.le_of_ble_eq_true rfl) (fun _ h => nomatch h) (Nat.ne_of_gt l2) (fun q hq => Nat.ne_of_lt (l1 q hq)) (fun _ => rfl) (ev_name F1 N1 rfl rfl rfl rfl) fun h2 tk2 t1 F2 N2 => ?_)
    refine wpAny_execs_cons (set1 (t' := []) X1 S rfl rfl rfl (by k_is) rfl (Nat.le_of_ble_eq_true rfl) (fun _ h => nomatch h) (Nat.ne_of_gt l2) (fun q hq => Nat.ne_of_lt (l1 q hq)) (fun _ => rfl) (ev_name F2 N2 rfl rfl rfl rfl) fun h3 tk3 t2 F3 N3 => ?_)
    refine wpAny_execs_cons (set1 (t' := []) X1 S rfl rfl rfl (by k_is) rfl (Nat.le_of_ble_eq_true rfl) (fun _ h => nomatch h) (Nat.ne_of_gt l2) (fun q hq => Nat.ne_of_lt (l1 q hq)) (fun _ => rfl) (ev_name F3 N3 rfl rfl rfl rfl) fun h4 tk4 t3 F4 N4 => ?_)
    exact wpAny_execs_nil ⟨rfl, ex5 _ _ _ [] _ ⟨rfl, F4, N4, rfl, ex3 t1 t2 t3 rfl⟩⟩
  case hret =>
    intro x dx t o h' tk F' N' P' l1 l2
    obtain ⟨rfl, t1, t2, t3, rfl⟩ := P'
    exact ret x dx 0 t1 t1 t2 t3 t1 t1 h' tk F' N' (allLt_of l1) l2
theorem mk_263 {v1 v2 v3 : Value} (B : Below A₀ base outer h₀) (F : Fr h₀ L h m) (X : (Mine.H.KK w.params).In h₀) (N : News h₀ L h news) (T : Top p loose mean mg mb h₀) (hA : A.frames = some (env :: outer)) (hf : env.frame = some L) (hke : env.scope.kind = .function) (hroom : A.depth + 1 < recursionLimit)
    (ret : ∀ (x dx l : Addr) (t0 t1 t2 t3 t4 t5 : Tok) (h' : Heap) (tk : Nat), let led9 := (x, instObj 263 dx) :: (dx, dictOf [at_ w "key" t1 v1, at_ w "names" t2 v2, at_ w "body" t3 v3] 3) :: news; Fr h₀ L h' m → News h₀ L h' led9 → AllLt dx news → @LT.lt Nat _ dx x → Q (.ref x) ⟨h', gs, dr, tk, os⟩) :
    wpAny (model prog w) A (call (.ref 263) [v1, v2, v3] []) Q E ⟨h, gs, dr, tk0, os⟩ := by
  refine' call_init (s := ⟨h, gs, dr, tk0, os⟩) (K := Mine.H.KK w.params) (binds := [("key", v1), ("names", v2), ("body", v3)]) (P := fun _ t o => t = [] ∧ ∃ t1 t2 t3, o = dictOf [at_ w "key" t1 v1, at_ w "names" t2 v2, at_ w "body" t3 v3] 3) B F X N T hA hf hke hroom ?hm ?hi ?hfn ?ho ?hcd ?hbind ?hloc ?c1 ?c2 ?c3 ?c4 ?hbody ?hret
  case hm => k_is
  case hi => k_is
  case hfn => k_is
  case ho => k_is
  case hcd => k_is
  case hbind => exact fun x s' _ => BindsTo.of_eq rfl
  case hloc => exact fun x => locs rfl
  case c1 => exact rfl
  case c2 => exact rfl
  case c3 => exact rfl
  case c4 => decide
  case hbody =>
    intro x dx g L' h₁ tk E' F1 N1 X1 B1 T1 l1 l2
    refine boxI ?_
    intro M9 e9 A9 q9 E9
    have S : SetC (Mine.H.KK w.params) 263 := ⟨by k_is, by k_is, by k_is⟩
    refine wpAny_execs_cons (set1 (t' := []) X1 S rfl rfl rfl (by k_is) rfl (Nat.le_of_ble_eq_true rfl) (fun _ h => nomatch h) (Nat.ne_of_gt l2) (fun q hq => Nat.ne_of_lt (l1 q hq)) (fun _ => rfl) (ev_name F1 N1 rfl rfl rfl rfl) fun h2 tk2 t1 F2 N2 => ?_)
    refine wpAny_execs_cons (set1 (t' := []) X1 S rfl rfl rfl (by k_is) rfl (Nat.le_of_ble_eq_true rfl) (fun _ h => nomatch h) (Nat.ne_of_gt l2) (fun q hq => Nat.ne_of_lt (l1 q hq)) (fun _ => rfl) (ev_name F2 N2 rfl rfl rfl rfl) fun h3 tk3 t2 F3 N3 => ?_)
    refine wpAny_execs_cons (set1 (t' := []) X1 S rfl rfl rfl (by k_is) rfl (Nat.le_of_ble_eq_true rfl) (fun _ h => nomatch h) (Nat.ne_of_gt l2) (fun q hq => Nat.ne_of_lt (l1 q hq)) (fun _ => rfl) (ev_name F3 N3 rfl rfl rfl rfl) fun h4 tk4 t3 F4 N4 => ?_)
    exact wpAny_execs_nil ⟨rfl, ex5 _ _ _ [] _ ⟨rfl, F4, N4, rfl, ex3 t1 t2 t3 rfl⟩⟩
  case hret =>
    intro x dx t o h' tk F' N' P' l1 l2
    obtain ⟨rfl, t1, t2, t3, rfl⟩ := P'
    exact ret x dx 0 t1 t1 t2 t3 t1 t1 h' tk F' N' (allLt_of l1) l2
theorem mk_303 {v1 v2 v3 v4 : Value} (B : Below A₀ base outer h₀) (F : Fr h₀ L h m) (X : (Mine.H.KK w.params).In h₀) (N : News h₀ L h news) (T : Top p loose mean mg mb h₀) (hA : A.frames = some (env :: outer)) (hf : env.frame = some L) (hke : env.scope.kind = .function) (hroom : A.depth + 1 < recursionLimit)
    (ret : ∀ (x dx l : Addr) (t0 t1 t2 t3 t4 t5 : Tok) (h' : Heap) (tk : Nat), let led9 := (x, instObj 303 dx) :: (dx, dictOf [at_ w "value" t1 v1, at_ w "name" t2 v2, at_ w "alts" t3 v3, at_ w "other" t4 v4] 4) :: news; Fr h₀ L h' m → News h₀ L h' led9 → AllLt dx news → @LT.lt Nat _ dx x → Q (.ref x) ⟨h', gs, dr, tk, os⟩) :
    wpAny (model prog w) A (call (.ref 303) [v1, v2, v3, v4] []) Q E ⟨h, gs, dr, tk0, os⟩ := by
  refine' call_init (s := ⟨h, gs, dr, tk0, os⟩) (K := Mine.H.KK w.params) (binds := [("value", v1), ("name", v2), ("alts", v3), ("other", v4)]) (P := fun _ t o => t = [] ∧ ∃ t1 t2 t3 t4, o = dictOf [at_ w "value" t1 v1, at_ w "name" t2 v2, at_ w "alts" t3 v3, at_ w "other" t4 v4] 4) B F X N T hA hf hke hroom ?hm ?hi ?hfn ?ho ?hcd ?hbind ?hloc ?c1 ?c2 ?c3 ?c4 ?hbody ?hret
  case hm => k_is
  case hi => k_is
  case hfn => k_is
  case ho => k_is
  case hcd => k_is
  case hbind => exact fun x s' _ => BindsTo.of_eq rfl
  case hloc => exact fun x => locs rfl
  case c1 => exact rfl
  case c2 => exact rfl
  case c3 => exact rfl
  case c4 => decide
  case hbody =>
    intro x dx g L' h₁ tk E' F1 N1 X1 B1 T1 l1 l2
    refine boxI ?_
    intro M9 e9 A9 q9 E9
    have S : SetC (Mine.H.KK w.params) 303 := ⟨by k_is, by k_is, by k_is⟩
    refine wpAny_execs_cons (set1 (t' := []) X1 S rfl rfl rfl (by k_is) rfl (Nat.le_of_ble_eq_true rfl) (fun _ h => nomatch h) (Nat.ne_of_gt l2) (fun q hq => Nat.ne_of_lt (l1 q hq)) (fun _ => rfl) (ev_name F1 N1 rfl rfl rfl rfl) fun h2 tk2 t1 F2 N2 => ?_)
    refine wpAny_execs_cons (set1 (t' := []) X1 S rfl rfl rfl (by k_is) rfl (Nat.le_of_ble_eq_true rfl) (fun _ h => nomatch h) (Nat.ne_of_gt l2) (fun q hq => Nat.ne_of_lt (l1 q hq)) (fun _ => rfl) (ev_name F2 N2 rfl rfl rfl rfl) fun h3 tk3 t2 F3 N3 => ?_)
    refine wpAny_execs_cons (set1 (t' := []) X1 S rfl rfl rfl (by k_is) rfl (Nat.le_of_ble_eq_true rfl) (fun _ h => nomatch h) (Nat.ne_of_gt l2) (fun q hq => Nat.ne_of_lt (l1 q hq)) (fun _ => rfl) (ev_name F3 N3 rfl rfl rfl rfl) fun h4 tk4 t3 F4 N4 => ?_)
    refine wpAny_execs_cons (set1 (t' := []) X1 S rfl rfl rfl (by k_is) rfl (Nat.le_of_ble_eq_true rfl) (fun _ h => nomatch h) (Nat.ne_of_gt l2) (fun q hq => Nat.ne_of_lt (l1 q hq)) (fun _ => rfl) (ev_name F4 N4 rfl rfl rfl rfl) fun h5 tk5 t4 F5 N5 => ?_)
    exact wpAny_execs_nil ⟨rfl, ex5 _ _ _ [] _ ⟨rfl, F5, N5, rfl, ex4 t1 t2 t3 t4 rfl⟩⟩
  case hret =>
    intro x dx t o h' tk F' N' P' l1 l2
    obtain ⟨rfl, t1, t2, t3, t4, rfl⟩ := P'
    exact ret x dx 0 t1 t1 t2 t3 t4 t1 h' tk F' N' (allLt_of l1) l2
theorem mk_343 {v1 v2 : Value} (B : Below A₀ base outer h₀) (F : Fr h₀ L h m) (X : (Mine.H.KK w.params).In h₀) (N : News h₀ L h news) (T : Top p loose mean mg mb h₀) (hA : A.frames = some (env :: outer)) (hf : env.frame = some L) (hke : env.scope.kind = .function) (hroom : A.depth + 1 < recursionLimit)
    (ret : ∀ (x dx l : Addr) (t0 t1 t2 t3 t4 t5 : Tok) (h' : Heap) (tk : Nat), let led9 := (x, instObj 343 dx) :: (dx, dictOf [at_ w "name" t1 v1, at_ w "args" t2 v2] 2) :: news; Fr h₀ L h' m → News h₀ L h' led9 → AllLt dx news → @LT.lt Nat _ dx x → Q (.ref x) ⟨h', gs, dr, tk, os⟩) :
    wpAny (model prog w) A (call (.ref 343) [v1, v2] []) Q E ⟨h, gs, dr, tk0, os⟩ := by
  refine' call_init (s := ⟨h, gs, dr, tk0, os⟩) (K := Mine.H.KK w.params) (binds := [("name", v1), ("args", v2)]) (P := fun _ t o => t = [] ∧ ∃ t1 t2, o = dictOf [at_ w "name" t1 v1, at_ w "args" t2 v2] 2) B F X N T hA hf hke hroom ?hm ?hi ?hfn ?ho ?hcd ?hbind ?hloc ?c1 ?c2 ?c3 ?c4 ?hbody ?hret
  case hm => k_is
  case hi => k_is
  case hfn => k_is
  case ho => k_is
  case hcd => k_is
  case hbind => exact fun x s' _ => BindsTo.of_eq rfl
  case hloc => exact fun x => locs rfl
  case c1 => exact rfl
  case c2 => exact rfl
  case c3 => exact rfl
  case c4 => decide
  case hbody =>
    intro x dx g L' h₁ tk E' F1 N1 X1 B1 T1 l1 l2
    refine boxI ?_
    intro M9 e9 A9 q9 E9
    have S : SetC (Mine.H.KK w.params) 343 := ⟨by k_is, by k_is, by k_is⟩
    refine wpAny_execs_cons (set1 (t' := []) X1 S rfl rfl rfl (by k_is) rfl (Nat.le_of_ble_eq_true rfl) (fun _ h => nomatch h) (Nat.ne_of_gt l2) (fun q hq => Nat.ne_of_lt (l1 q hq)) (fun _ => rfl) (ev_name F1 N1 rfl rfl rfl rfl) fun h2 tk2 t1 F2 N2 => ?_)
    refine wpAny_execs_cons (set1 (t' := []) X1 S rfl rfl rfl (by k_is) rfl (Nat.le_of_ble_eq_true rfl) (fun _ h => nomatch h) (Nat.ne_of_gt l2) (fun q hq => Nat.ne_of_lt (l1 q hq)) (fun _ => rfl) (ev_name F2 N2 rfl rfl rfl rfl) fun h3 tk3 t2 F3 N3 => ?_)
    exact wpAny_execs_nil ⟨rfl, ex5 _ _ _ [] _ ⟨rfl, F3, N3, rfl, ex2 t1 t2 rfl⟩⟩
  case hret =>
    intro x dx t o h' tk F' N' P' l1 l2
    obtain ⟨rfl, t1, t2, rfl⟩ := P'
    exact ret x dx 0 t1 t1 t2 t1 t1 t1 h' tk F' N' (allLt_of l1) l2
theorem mk_383 {v1 v2 : Value} (B : Below A₀ base outer h₀) (F : Fr h₀ L h m) (X : (Mine.H.KK w.params).In h₀) (N : News h₀ L h news) (T : Top p loose mean mg mb h₀) (hA : A.frames = some (env :: outer)) (hf : env.frame = some L) (hke : env.scope.kind = .function) (hroom : A.depth + 1 < recursionLimit)
    (ret : ∀ (x dx l : Addr) (t0 t1 t2 t3 t4 t5 : Tok) (h' : Heap) (tk : Nat), let led9 := (x, instObj 383 dx) :: (dx, dictOf [at_ w "op" t1 v1, at_ w "args" t2 v2] 2) :: news; Fr h₀ L h' m → News h₀ L h' led9 → AllLt dx news → @LT.lt Nat _ dx x → Q (.ref x) ⟨h', gs, dr, tk, os⟩) :
    wpAny (model prog w) A (call (.ref 383) [v1, v2] []) Q E ⟨h, gs, dr, tk0, os⟩ := by
  refine' call_init (s := ⟨h, gs, dr, tk0, os⟩) (K := Mine.H.KK w.params) (binds := [("op", v1), ("args", v2)]) (P := fun _ t o => t = [] ∧ ∃ t1 t2, o = dictOf [at_ w "op" t1 v1, at_ w "args" t2 v2] 2) B F X N T hA hf hke hroom ?hm ?hi ?hfn ?ho ?hcd ?hbind ?hloc ?c1 ?c2 ?c3 ?c4 ?hbody ?hret
  case hm => k_is
  case hi => k_is
  case hfn => k_is
  case ho => k_is
  case hcd => k_is
  case hbind => exact fun x s' _ => BindsTo.of_eq rfl
  case hloc => exact fun x => locs rfl
  case c1 => exact rfl
  case c2 => exact rfl
  case c3 => exact rfl
  case c4 => decide
  case hbody =>
    intro x dx g L' h₁ tk E' F1 N1 X1 B1 T1 l1 l2
    refine boxI ?_
    intro M9 e9 A9 q9 E9
    have S : SetC (Mine.H.KK w.params) 383 := ⟨by k_is, by k_is, by k_is⟩
    refine wpAny_execs_cons (set1 (t' := []) X1 S rfl rfl rfl (by k_is) rfl (Nat.le_of_ble_eq_true rfl) (fun _ h => nomatch h) (Nat.ne_of_gt l2) (fun q hq => Nat.ne_of_lt (l1 q hq)) (fun _ => rfl) (ev_name F1 N1 rfl rfl rfl rfl) fun h2 tk2 t1 F2 N2 => ?_)
    refine wpAny_execs_cons (set1 (t' := []) X1 S rfl rfl rfl (by k_is) rfl (Nat.le_of_ble_eq_true rfl) (fun _ h => nomatch h) (Nat.ne_of_gt l2) (fun q hq => Nat.ne_of_lt (l1 q hq)) (fun _ => rfl) (ev_name F2 N2 rfl rfl rfl rfl) fun h3 tk3 t2 F3 N3 => ?_)
    exact wpAny_execs_nil ⟨rfl, ex5 _ _ _ [] _ ⟨rfl, F3, N3, rfl, ex2 t1 t2 rfl⟩⟩
  case hret =>
    intro x dx t o h' tk F' N' P' l1 l2
    obtain ⟨rfl, t1, t2, rfl⟩ := P'
    exact ret x dx 0 t1 t1 t2 t1 t1 t1 h' tk F' N' (allLt_of l1) l2
theorem mk_1009 {v1 : Value} (B : Below A₀ base outer h₀) (F : Fr h₀ L h m) (X : (Mine.H.KK w.params).In h₀) (N : News h₀ L h news) (T : Top p loose mean mg mb h₀) (hA : A.frames = some (env :: outer)) (hf : env.frame = some L) (hke : env.scope.kind = .function) (hroom : A.depth + 1 < recursionLimit)
    (ret : ∀ (x dx l : Addr) (t0 t1 t2 t3 t4 t5 : Tok) (h' : Heap) (tk : Nat), let led9 := (x, instObj 1009 dx) :: (dx, dictOf [at_ w "cons" t1 v1] 1) :: news; Fr h₀ L h' m → News h₀ L h' led9 → AllLt dx news → @LT.lt Nat _ dx x → Q (.ref x) ⟨h', gs, dr, tk, os⟩) :
    wpAny (model prog w) A (call (.ref 1009) [v1] []) Q E ⟨h, gs, dr, tk0, os⟩ := by
  refine' call_init (s := ⟨h, gs, dr, tk0, os⟩) (K := Mine.H.KK w.params) (binds := [("cons", v1)]) (P := fun _ t o => t = [] ∧ ∃ t1, o = dictOf [at_ w "cons" t1 v1] 1) B F X N T hA hf hke hroom ?hm ?hi ?hfn ?ho ?hcd ?hbind ?hloc ?c1 ?c2 ?c3 ?c4 ?hbody ?hret
  case hm => k_is
  case hi => k_is
  case hfn => k_is
  case ho => k_is
  case hcd => k_is
  case hbind => exact fun x s' _ => BindsTo.of_eq rfl
  case hloc => exact fun x => locs rfl
  case c1 => exact rfl
  case c2 => exact rfl
  case c3 => exact rfl
  case c4 => decide
  case hbody =>
    intro x dx g L' h₁ tk E' F1 N1 X1 B1 T1 l1 l2
    refine boxI ?_
    intro M9 e9 A9 q9 E9
    have S : SetC (Mine.H.KK w.params) 1009 := ⟨by k_is, by k_is, by k_is⟩
    refine wpAny_execs_cons (set1 (t' := []) X1 S rfl rfl rfl (by k_is) rfl (Nat.le_of_ble_eq_true rfl) (fun _ h => nomatch h) (Nat.ne_of_gt l2) (fun q hq => Nat.ne_of_lt (l1 q hq)) (fun _ => rfl) (ev_name F1 N1 rfl rfl rfl rfl) fun h2 tk2 t1 F2 N2 => ?_)
    exact wpAny_execs_nil ⟨rfl, ex5 _ _ _ [] _ ⟨rfl, F2, N2, rfl, ⟨t1, rfl⟩⟩⟩
  case hret =>
    intro x dx t o h' tk F' N' P' l1 l2
    obtain ⟨rfl, t1, rfl⟩ := P'
    exact ret x dx 0 t1 t1 t1 t1 t1 t1 h' tk F' N' (allLt_of l1) l2
theorem mk_1176 {v1 v2 v3 v4 v5 v6 : Value} (B : Below A₀ base outer h₀) (F : Fr h₀ L h m) (X : (Mine.H.KK w.params).In h₀) (N : News h₀ L h news) (T : Top p loose mean mg mb h₀) (hA : A.frames = some (env :: outer)) (hf : env.frame = some L) (hke : env.scope.kind = .function) (hroom : A.depth + 1 < recursionLimit)
    (ret : ∀ (x dx l : Addr) (t0 t1 t2 t3 t4 t5 : Tok) (h' : Heap) (tk : Nat), let led9 := (x, instObj 1176 dx) :: (dx, dictOf [at_ w "types" t0 v1, at_ w "classes" t1 v2, at_ w "fresh" t2 v3, at_ w "matcher" t3 v4, at_ w "unmatched" t4 v5, at_ w "desugar" t5 v6] 6) :: news; Fr h₀ L h' m → News h₀ L h' led9 → AllLt dx news → @LT.lt Nat _ dx x → Q (.ref x) ⟨h', gs, dr, tk, os⟩) :
    wpAny (model prog w) A (call (.ref 1176) [v1, v2, v3, v4, v5, v6] []) Q E ⟨h, gs, dr, tk0, os⟩ := by
  refine' call_init (s := ⟨h, gs, dr, tk0, os⟩) (K := Mine.H.KK w.params) (binds := [("types", v1), ("classes", v2), ("fresh", v3), ("matcher", v4), ("unmatched", v5), ("desugar", v6)]) (P := fun _ t o => t = [] ∧ ∃ t0 t1 t2 t3 t4 t5, o = dictOf [at_ w "types" t0 v1, at_ w "classes" t1 v2, at_ w "fresh" t2 v3, at_ w "matcher" t3 v4, at_ w "unmatched" t4 v5, at_ w "desugar" t5 v6] 6) B F X N T hA hf hke hroom ?hm ?hi ?hfn ?ho ?hcd ?hbind ?hloc ?c1 ?c2 ?c3 ?c4 ?hbody ?hret
  case hm => k_is
  case hi => k_is
  case hfn => k_is
  case ho => k_is
  case hcd => k_is
  case hbind => exact fun x s' _ => BindsTo.of_eq rfl
  case hloc => exact fun x => locs rfl
  case c1 => exact rfl
  case c2 => exact rfl
  case c3 => exact rfl
  case c4 => decide
  case hbody =>
    intro x dx g L' h₁ tk E' F1 N1 X1 B1 T1 l1 l2
    refine boxI ?_
    intro M9 e9 A9 q9 E9
    have S : SetC (Mine.H.KK w.params) 1176 := ⟨by k_is, by k_is, by k_is⟩
    refine wpAny_execs_cons (set1 (t' := []) X1 S rfl rfl rfl (by k_is) rfl (Nat.le_of_ble_eq_true rfl) (fun _ h => nomatch h) (Nat.ne_of_gt l2) (fun q hq => Nat.ne_of_lt (l1 q hq)) (fun _ => rfl) (ev_name F1 N1 rfl rfl rfl rfl) fun h2 tk2 t0 F2 N2 => ?_)
    refine wpAny_execs_cons (set1 (t' := []) X1 S rfl rfl rfl (by k_is) rfl (Nat.le_of_ble_eq_true rfl) (fun _ h => nomatch h) (Nat.ne_of_gt l2) (fun q hq => Nat.ne_of_lt (l1 q hq)) (fun _ => rfl) (ev_name F2 N2 rfl rfl rfl rfl) fun h3 tk3 t1 F3 N3 => ?_)
    refine wpAny_execs_cons (set1 (t' := []) X1 S rfl rfl rfl (by k_is) rfl (Nat.le_of_ble_eq_true rfl) (fun _ h => nomatch h) (Nat.ne_of_gt l2) (fun q hq => Nat.ne_of_lt (l1 q hq)) (fun _ => rfl) (ev_name F3 N3 rfl rfl rfl rfl) fun h4 tk4 t2 F4 N4 => ?_)
    refine wpAny_execs_cons (set1 (t' := []) X1 S rfl rfl rfl (by k_is) rfl (Nat.le_of_ble_eq_true rfl) (fun _ h => nomatch h) (Nat.ne_of_gt l2) (fun q hq => Nat.ne_of_lt (l1 q hq)) (fun _ => rfl) (ev_name F4 N4 rfl rfl rfl rfl) fun h5 tk5 t3 F5 N5 => ?_)
    refine wpAny_execs_cons (set1 (t' := []) X1 S rfl rfl rfl (by k_is) rfl (Nat.le_of_ble_eq_true rfl) (fun _ h => nomatch h) (Nat.ne_of_gt l2) (fun q hq => Nat.ne_of_lt (l1 q hq)) (fun _ => rfl) (ev_name F5 N5 rfl rfl rfl rfl) fun h6 tk6 t4 F6 N6 => ?_)
    refine wpAny_execs_cons (set1 (t' := []) X1 S rfl rfl rfl (by k_is) rfl (Nat.le_of_ble_eq_true rfl) (fun _ h => nomatch h) (Nat.ne_of_gt l2) (fun q hq => Nat.ne_of_lt (l1 q hq)) (fun _ => rfl) (ev_name F6 N6 rfl rfl rfl rfl) fun h7 tk7 t5 F7 N7 => ?_)
    exact wpAny_execs_nil ⟨rfl, ex5 _ _ _ [] _ ⟨rfl, F7, N7, rfl, ex6 t0 t1 t2 t3 t4 t5 rfl⟩⟩
  case hret =>
    intro x dx t o h' tk F' N' P' l1 l2
    obtain ⟨rfl, t0, t1, t2, t3, t4, t5, rfl⟩ := P'
    exact ret x dx 0 t0 t1 t2 t3 t4 t5 h' tk F' N' (allLt_of l1) l2
theorem mk_466 {v1 v2 : Value} (B : Below A₀ base outer h₀) (F : Fr h₀ L h m) (X : (Mine.H.KK w.params).In h₀) (N : News h₀ L h news) (T : Top p loose mean mg mb h₀) (hA : A.frames = some (env :: outer)) (hf : env.frame = some L) (hke : env.scope.kind = .function) (hroom : A.depth + 2 < recursionLimit)
    (ret : ∀ (x dx l : Addr) (t0 t1 t2 t3 t4 t5 : Tok) (h' : Heap) (tk : Nat), let led9 := (l, listO [] 0) :: (x, instObj 466 dx) :: (dx, dictOf [at_ w "place" t0 .none, at_ w "name" t1 v1, at_ w "clauses" t2 v2, at_ w "given" t3 (.ref l)] 4) :: news; Fr h₀ L h' m → News h₀ L h' led9 → AllLt dx news → @LT.lt Nat _ dx x → @LT.lt Nat _ x l → Q (.ref x) ⟨h', gs, dr, tk, os⟩) :
    wpAny (model prog w) A (call (.ref 466) [v1, v2] []) Q E ⟨h, gs, dr, tk0, os⟩ := by
  refine' call_init (s := ⟨h, gs, dr, tk0, os⟩) (K := Mine.H.KK w.params) (binds := [("name", v1), ("clauses", v2), ("place", .none)]) (P := fun x t o => ∃ l t0 t1 t2 t3, t = [(l, listO [] 0)] ∧ @LT.lt Nat _ x l ∧ o = dictOf [at_ w "place" t0 .none, at_ w "name" t1 v1, at_ w "clauses" t2 v2, at_ w "given" t3 (.ref l)] 4) B F X N T hA hf hke (Nat.lt_of_succ_lt hroom) ?hm ?hi ?hfn ?ho ?hcd ?hbind ?hloc ?c1 ?c2 ?c3 ?c4 ?hbody ?hret
  case hm => k_is
  case hi => k_is
  case hfn => k_is
  case ho => k_is
  case hcd => k_is
  case hbind => exact fun x s' X' => binds_K X' rfl (by k_is) rfl rfl rfl
  case hloc => exact fun x => locs rfl
  case c1 => exact rfl
  case c2 => exact rfl
  case c3 => exact rfl
  case c4 => decide
  case hbody =>
    intro x dx g L' h₁ tk E' F1 N1 X1 B1 T1 l1 l2
    refine boxI ?_
    intro M9 e9 A9 q9 E9
    have S : SetC (Mine.H.KK w.params) 466 := ⟨by k_is, by k_is, by k_is⟩
    refine wpAny_execs_cons (node1 (outer := env :: outer) B1 F1 X1 N1 T1 (hA9 hA) hroom S (by k_is) (Nat.ne_of_gt l2) (fun q hq => Nat.ne_of_lt (l1 q hq)) rfl rfl rfl rfl rfl rfl rfl rfl rfl fun h2 tk2 t0 F2 N2 => ?_)
    refine wpAny_execs_cons (set1 (t' := []) X1 S rfl rfl rfl (by k_is) rfl (Nat.le_of_ble_eq_true rfl) (fun _ h => nomatch h) (Nat.ne_of_gt l2) (fun q hq => Nat.ne_of_lt (l1 q hq)) (fun _ => rfl) (ev_name F2 N2 rfl rfl rfl rfl) fun h3 tk3 t1 F3 N3 => ?_)
    refine wpAny_execs_cons (set1 (t' := []) X1 S rfl rfl rfl (by k_is) rfl (Nat.le_of_ble_eq_true rfl) (fun _ h => nomatch h) (Nat.ne_of_gt l2) (fun q hq => Nat.ne_of_lt (l1 q hq)) (fun _ => rfl) (ev_name F3 N3 rfl rfl rfl rfl) fun h4 tk4 t2 F4 N4 => ?_)
    refine wpAny_execs_cons (setL F4 X1 N4 S rfl rfl rfl (by k_is) rfl (Nat.le_of_ble_eq_true rfl) l2 (fun q hq => Nat.ne_of_lt (l1 q hq)) (fun _ => rfl) fun h9 tk9 t3 l F9 N9 l3 => ?_)
    exact wpAny_execs_nil ⟨rfl, ex5 _ _ _ [(l, listO [] 0)] _ ⟨rfl, F9, N9, ex5 l t0 t1 t2 t3 ⟨rfl, l3, rfl⟩⟩⟩
  case hret =>
    intro x dx t o h' tk F' N' P' l1 l2
    obtain ⟨l, t0, t1, t2, t3, rfl, l3, rfl⟩ := P'
    exact ret x dx l t0 t1 t2 t3 t0 t0 h' tk F' N' (allLt_of l1) l2 l3
theorem mk_493 {v1 v2 : Value} (B : Below A₀ base outer h₀) (F : Fr h₀ L h m) (X : (Mine.H.KK w.params).In h₀) (N : News h₀ L h news) (T : Top p loose mean mg mb h₀) (hA : A.frames = some (env :: outer)) (hf : env.frame = some L) (hke : env.scope.kind = .function) (hroom : A.depth + 2 < recursionLimit)
    (ret : ∀ (x dx l : Addr) (t0 t1 t2 t3 t4 t5 : Tok) (h' : Heap) (tk : Nat), let led9 := (x, instObj 493 dx) :: (dx, dictOf [at_ w "place" t0 .none, at_ w "patterns" t1 v1, at_ w "rhs" t2 v2] 3) :: news; Fr h₀ L h' m → News h₀ L h' led9 → AllLt dx news → @LT.lt Nat _ dx x → Q (.ref x) ⟨h', gs, dr, tk, os⟩) :
    wpAny (model prog w) A (call (.ref 493) [v1, v2] []) Q E ⟨h, gs, dr, tk0, os⟩ := by
  refine' call_init (s := ⟨h, gs, dr, tk0, os⟩) (K := Mine.H.KK w.params) (binds := [("patterns", v1), ("rhs", v2), ("place", .none)]) (P := fun x t o => ∃ t0 t1 t2, t = [] ∧ o = dictOf [at_ w "place" t0 .none, at_ w "patterns" t1 v1, at_ w "rhs" t2 v2] 3) B F X N T hA hf hke (Nat.lt_of_succ_lt hroom) ?hm ?hi ?hfn ?ho ?hcd ?hbind ?hloc ?c1 ?c2 ?c3 ?c4 ?hbody ?hret
  case hm => k_is
  case hi => k_is
  case hfn => k_is
  case ho => k_is
  case hcd => k_is
  case hbind => exact fun x s' X' => binds_K X' rfl (by k_is) rfl rfl rfl
  case hloc => exact fun x => locs rfl
  case c1 => exact rfl
  case c2 => exact rfl
  case c3 => exact rfl
  case c4 => decide
  case hbody =>
    intro x dx g L' h₁ tk E' F1 N1 X1 B1 T1 l1 l2
    refine boxI ?_
    intro M9 e9 A9 q9 E9
    have S : SetC (Mine.H.KK w.params) 493 := ⟨by k_is, by k_is, by k_is⟩
    refine wpAny_execs_cons (node1 (outer := env :: outer) B1 F1 X1 N1 T1 (hA9 hA) hroom S (by k_is) (Nat.ne_of_gt l2) (fun q hq => Nat.ne_of_lt (l1 q hq)) rfl rfl rfl rfl rfl rfl rfl rfl rfl fun h2 tk2 t0 F2 N2 => ?_)
    refine wpAny_execs_cons (set1 (t' := []) X1 S rfl rfl rfl (by k_is) rfl (Nat.le_of_ble_eq_true rfl) (fun _ h => nomatch h) (Nat.ne_of_gt l2) (fun q hq => Nat.ne_of_lt (l1 q hq)) (fun _ => rfl) (ev_name F2 N2 rfl rfl rfl rfl) fun h3 tk3 t1 F3 N3 => ?_)
    refine wpAny_execs_cons (set1 (t' := []) X1 S rfl rfl rfl (by k_is) rfl (Nat.le_of_ble_eq_true rfl) (fun _ h => nomatch h) (Nat.ne_of_gt l2) (fun q hq => Nat.ne_of_lt (l1 q hq)) (fun _ => rfl) (ev_name F3 N3 rfl rfl rfl rfl) fun h4 tk4 t2 F4 N4 => ?_)
    exact wpAny_execs_nil ⟨rfl, ex5 _ _ _ [] _ ⟨rfl, F4, N4, ex3 t0 t1 t2 ⟨rfl, rfl⟩⟩⟩
  case hret =>
    intro x dx t o h' tk F' N' P' l1 l2
    obtain ⟨t0, t1, t2, rfl, rfl⟩ := P'
    exact ret x dx 0 t0 t1 t2 t0 t0 t0 h' tk F' N' (allLt_of l1) l2
theorem mk_518 {v1 v2 : Value} (B : Below A₀ base outer h₀) (F : Fr h₀ L h m) (X : (Mine.H.KK w.params).In h₀) (N : News h₀ L h news) (T : Top p loose mean mg mb h₀) (hA : A.frames = some (env :: outer)) (hf : env.frame = some L) (hke : env.scope.kind = .function) (hroom : A.depth + 2 < recursionLimit)
    (ret : ∀ (x dx l : Addr) (t0 t1 t2 t3 t4 t5 : Tok) (h' : Heap) (tk : Nat), let led9 := (x, instObj 518 dx) :: (dx, dictOf [at_ w "place" t0 .none, at_ w "guarded" t1 v1, at_ w "where" t2 v2] 3) :: news; Fr h₀ L h' m → News h₀ L h' led9 → AllLt dx news → @LT.lt Nat _ dx x → Q (.ref x) ⟨h', gs, dr, tk, os⟩) :
    wpAny (model prog w) A (call (.ref 518) [v1, v2] []) Q E ⟨h, gs, dr, tk0, os⟩ := by
  refine' call_init (s := ⟨h, gs, dr, tk0, os⟩) (K := Mine.H.KK w.params) (binds := [("guarded", v1), ("where", v2), ("place", .none)]) (P := fun x t o => ∃ t0 t1 t2, t = [] ∧ o = dictOf [at_ w "place" t0 .none, at_ w "guarded" t1 v1, at_ w "where" t2 v2] 3) B F X N T hA hf hke (Nat.lt_of_succ_lt hroom) ?hm ?hi ?hfn ?ho ?hcd ?hbind ?hloc ?c1 ?c2 ?c3 ?c4 ?hbody ?hret
  case hm => k_is
  case hi => k_is
  case hfn => k_is
  case ho => k_is
  case hcd => k_is
  case hbind => exact fun x s' X' => binds_K X' rfl (by k_is) rfl rfl rfl
  case hloc => exact fun x => locs rfl
  case c1 => exact rfl
  case c2 => exact rfl
  case c3 => exact rfl
  case c4 => decide
  case hbody =>
    intro x dx g L' h₁ tk E' F1 N1 X1 B1 T1 l1 l2
    refine boxI ?_
    intro M9 e9 A9 q9 E9
    have S : SetC (Mine.H.KK w.params) 518 := ⟨by k_is, by k_is, by k_is⟩
    refine wpAny_execs_cons (node1 (outer := env :: outer) B1 F1 X1 N1 T1 (hA9 hA) hroom S (by k_is) (Nat.ne_of_gt l2) (fun q hq => Nat.ne_of_lt (l1 q hq)) rfl rfl rfl rfl rfl rfl rfl rfl rfl fun h2 tk2 t0 F2 N2 => ?_)
    refine wpAny_execs_cons (set1 (t' := []) X1 S rfl rfl rfl (by k_is) rfl (Nat.le_of_ble_eq_true rfl) (fun _ h => nomatch h) (Nat.ne_of_gt l2) (fun q hq => Nat.ne_of_lt (l1 q hq)) (fun _ => rfl) (ev_name F2 N2 rfl rfl rfl rfl) fun h3 tk3 t1 F3 N3 => ?_)
    refine wpAny_execs_cons (set1 (t' := []) X1 S rfl rfl rfl (by k_is) rfl (Nat.le_of_ble_eq_true rfl) (fun _ h => nomatch h) (Nat.ne_of_gt l2) (fun q hq => Nat.ne_of_lt (l1 q hq)) (fun _ => rfl) (ev_name F3 N3 rfl rfl rfl rfl) fun h4 tk4 t2 F4 N4 => ?_)
    exact wpAny_execs_nil ⟨rfl, ex5 _ _ _ [] _ ⟨rfl, F4, N4, ex3 t0 t1 t2 ⟨rfl, rfl⟩⟩⟩
  case hret =>
    intro x dx t o h' tk F' N' P' l1 l2
    obtain ⟨t0, t1, t2, rfl, rfl⟩ := P'
    exact ret x dx 0 t0 t1 t2 t0 t0 t0 h' tk F' N' (allLt_of l1) l2
theorem mk_545 {v1 v2 : Value} (B : Below A₀ base outer h₀) (F : Fr h₀ L h m) (X : (Mine.H.KK w.params).In h₀) (N : News h₀ L h news) (T : Top p loose mean mg mb h₀) (hA : A.frames = some (env :: outer)) (hf : env.frame = some L) (hke : env.scope.kind = .function) (hroom : A.depth + 2 < recursionLimit)
    (ret : ∀ (x dx l : Addr) (t0 t1 t2 t3 t4 t5 : Tok) (h' : Heap) (tk : Nat), let led9 := (l, listO [] 0) :: (x, instObj 545 dx) :: (dx, dictOf [at_ w "place" t0 .none, at_ w "sigs" t1 v1, at_ w "binds" t2 v2, at_ w "groups" t3 (.ref l)] 4) :: news; Fr h₀ L h' m → News h₀ L h' led9 → AllLt dx news → @LT.lt Nat _ dx x → @LT.lt Nat _ x l → Q (.ref x) ⟨h', gs, dr, tk, os⟩) :
    wpAny (model prog w) A (call (.ref 545) [v1, v2] []) Q E ⟨h, gs, dr, tk0, os⟩ := by
  refine' call_init (s := ⟨h, gs, dr, tk0, os⟩) (K := Mine.H.KK w.params) (binds := [("sigs", v1), ("binds", v2), ("place", .none)]) (P := fun x t o => ∃ l t0 t1 t2 t3, t = [(l, listO [] 0)] ∧ @LT.lt Nat _ x l ∧ o = dictOf [at_ w "place" t0 .none, at_ w "sigs" t1 v1, at_ w "binds" t2 v2, at_ w "groups" t3 (.ref l)] 4) B F X N T hA hf hke (Nat.lt_of_succ_lt hroom) ?hm ?hi ?hfn ?ho ?hcd ?hbind ?hloc ?c1 ?c2 ?c3 ?c4 ?hbody ?hret
  case hm => k_is
  case hi => k_is
  case hfn => k_is
  case ho => k_is
  case hcd => k_is
  case hbind => exact fun x s' X' => binds_K X' rfl (by k_is) rfl rfl rfl
  case hloc => exact fun x => locs rfl
  case c1 => exact rfl
  case c2 => exact rfl
  case c3 => exact rfl
  case c4 => decide
  case hbody =>
    intro x dx g L' h₁ tk E' F1 N1 X1 B1 T1 l1 l2
    refine boxI ?_
    intro M9 e9 A9 q9 E9
    have S : SetC (Mine.H.KK w.params) 545 := ⟨by k_is, by k_is, by k_is⟩
    refine wpAny_execs_cons (node1 (outer := env :: outer) B1 F1 X1 N1 T1 (hA9 hA) hroom S (by k_is) (Nat.ne_of_gt l2) (fun q hq => Nat.ne_of_lt (l1 q hq)) rfl rfl rfl rfl rfl rfl rfl rfl rfl fun h2 tk2 t0 F2 N2 => ?_)
    refine wpAny_execs_cons (set1 (t' := []) X1 S rfl rfl rfl (by k_is) rfl (Nat.le_of_ble_eq_true rfl) (fun _ h => nomatch h) (Nat.ne_of_gt l2) (fun q hq => Nat.ne_of_lt (l1 q hq)) (fun _ => rfl) (ev_name F2 N2 rfl rfl rfl rfl) fun h3 tk3 t1 F3 N3 => ?_)
    refine wpAny_execs_cons (set1 (t' := []) X1 S rfl rfl rfl (by k_is) rfl (Nat.le_of_ble_eq_true rfl) (fun _ h => nomatch h) (Nat.ne_of_gt l2) (fun q hq => Nat.ne_of_lt (l1 q hq)) (fun _ => rfl) (ev_name F3 N3 rfl rfl rfl rfl) fun h4 tk4 t2 F4 N4 => ?_)
    refine wpAny_execs_cons (setL F4 X1 N4 S rfl rfl rfl (by k_is) rfl (Nat.le_of_ble_eq_true rfl) l2 (fun q hq => Nat.ne_of_lt (l1 q hq)) (fun _ => rfl) fun h9 tk9 t3 l F9 N9 l3 => ?_)
    exact wpAny_execs_nil ⟨rfl, ex5 _ _ _ [(l, listO [] 0)] _ ⟨rfl, F9, N9, ex5 l t0 t1 t2 t3 ⟨rfl, l3, rfl⟩⟩⟩
  case hret =>
    intro x dx t o h' tk F' N' P' l1 l2
    obtain ⟨l, t0, t1, t2, t3, rfl, l3, rfl⟩ := P'
    exact ret x dx l t0 t1 t2 t3 t0 t0 h' tk F' N' (allLt_of l1) l2 l3
theorem mk_626 {v1 v2 : Value} (B : Below A₀ base outer h₀) (F : Fr h₀ L h m) (X : (Mine.H.KK w.params).In h₀) (N : News h₀ L h news) (T : Top p loose mean mg mb h₀) (hA : A.frames = some (env :: outer)) (hf : env.frame = some L) (hke : env.scope.kind = .function) (hroom : A.depth + 2 < recursionLimit)
    (ret : ∀ (x dx l : Addr) (t0 t1 t2 t3 t4 t5 : Tok) (h' : Heap) (tk : Nat), let led9 := (x, instObj 626 dx) :: (dx, dictOf [at_ w "place" t0 .none, at_ w "expr" t1 v1, at_ w "statements" t2 v2] 3) :: news; Fr h₀ L h' m → News h₀ L h' led9 → AllLt dx news → @LT.lt Nat _ dx x → Q (.ref x) ⟨h', gs, dr, tk, os⟩) :
    wpAny (model prog w) A (call (.ref 626) [v1, v2] []) Q E ⟨h, gs, dr, tk0, os⟩ := by
  refine' call_init (s := ⟨h, gs, dr, tk0, os⟩) (K := Mine.H.KK w.params) (binds := [("expr", v1), ("statements", v2), ("place", .none)]) (P := fun x t o => ∃ t0 t1 t2, t = [] ∧ o = dictOf [at_ w "place" t0 .none, at_ w "expr" t1 v1, at_ w "statements" t2 v2] 3) B F X N T hA hf hke (Nat.lt_of_succ_lt hroom) ?hm ?hi ?hfn ?ho ?hcd ?hbind ?hloc ?c1 ?c2 ?c3 ?c4 ?hbody ?hret
  case hm => k_is
  case hi => k_is
  case hfn => k_is
  case ho => k_is
  case hcd => k_is
  case hbind => exact fun x s' X' => binds_K X' rfl (by k_is) rfl rfl rfl
  case hloc => exact fun x => locs rfl
  case c1 => exact rfl
  case c2 => exact rfl
  case c3 => exact rfl
  case c4 => decide
  case hbody =>
    intro x dx g L' h₁ tk E' F1 N1 X1 B1 T1 l1 l2
    refine boxI ?_
    intro M9 e9 A9 q9 E9
    have S : SetC (Mine.H.KK w.params) 626 := ⟨by k_is, by k_is, by k_is⟩
    refine wpAny_execs_cons (node1 (outer := env :: outer) B1 F1 X1 N1 T1 (hA9 hA) hroom S (by k_is) (Nat.ne_of_gt l2) (fun q hq => Nat.ne_of_lt (l1 q hq)) rfl rfl rfl rfl rfl rfl rfl rfl rfl fun h2 tk2 t0 F2 N2 => ?_)
    refine wpAny_execs_cons (set1 (t' := []) X1 S rfl rfl rfl (by k_is) rfl (Nat.le_of_ble_eq_true rfl) (fun _ h => nomatch h) (Nat.ne_of_gt l2) (fun q hq => Nat.ne_of_lt (l1 q hq)) (fun _ => rfl) (ev_name F2 N2 rfl rfl rfl rfl) fun h3 tk3 t1 F3 N3 => ?_)
    refine wpAny_execs_cons (set1 (t' := []) X1 S rfl rfl rfl (by k_is) rfl (Nat.le_of_ble_eq_true rfl) (fun _ h => nomatch h) (Nat.ne_of_gt l2) (fun q hq => Nat.ne_of_lt (l1 q hq)) (fun _ => rfl) (ev_name F3 N3 rfl rfl rfl rfl) fun h4 tk4 t2 F4 N4 => ?_)
    exact wpAny_execs_nil ⟨rfl, ex5 _ _ _ [] _ ⟨rfl, F4, N4, ex3 t0 t1 t2 ⟨rfl, rfl⟩⟩⟩
  case hret =>
    intro x dx t o h' tk F' N' P' l1 l2
    obtain ⟨t0, t1, t2, rfl, rfl⟩ := P'
    exact ret x dx 0 t0 t1 t2 t0 t0 t0 h' tk F' N' (allLt_of l1) l2
theorem mk_653 {v1 v2 : Value} (B : Below A₀ base outer h₀) (F : Fr h₀ L h m) (X : (Mine.H.KK w.params).In h₀) (N : News h₀ L h news) (T : Top p loose mean mg mb h₀) (hA : A.frames = some (env :: outer)) (hf : env.frame = some L) (hke : env.scope.kind = .function) (hroom : A.depth + 2 < recursionLimit)
    (ret : ∀ (x dx l : Addr) (t0 t1 t2 t3 t4 t5 : Tok) (h' : Heap) (tk : Nat), let led9 := (x, instObj 653 dx) :: (dx, dictOf [at_ w "place" t0 .none, at_ w "pattern" t1 v1, at_ w "expr" t2 v2] 3) :: news; Fr h₀ L h' m → News h₀ L h' led9 → AllLt dx news → @LT.lt Nat _ dx x → Q (.ref x) ⟨h', gs, dr, tk, os⟩) :
    wpAny (model prog w) A (call (.ref 653) [v1, v2] []) Q E ⟨h, gs, dr, tk0, os⟩ := by
  refine' call_init (s := ⟨h, gs, dr, tk0, os⟩) (K := Mine.H.KK w.params) (binds := [("pattern", v1), ("expr", v2), ("place", .none)]) (P := fun x t o => ∃ t0 t1 t2, t = [] ∧ o = dictOf [at_ w "place" t0 .none, at_ w "pattern" t1 v1, at_ w "expr" t2 v2] 3) B F X N T hA hf hke (Nat.lt_of_succ_lt hroom) ?hm ?hi ?hfn ?ho ?hcd ?hbind ?hloc ?c1 ?c2 ?c3 ?c4 ?hbody ?hret
  case hm => k_is
  case hi => k_is
  case hfn => k_is
  case ho => k_is
  case hcd => k_is
  case hbind => exact fun x s' X' => binds_K X' rfl (by k_is) rfl rfl rfl
  case hloc => exact fun x => locs rfl
  case c1 => exact rfl
  case c2 => exact rfl
  case c3 => exact rfl
  case c4 => decide
  case hbody =>
    intro x dx g L' h₁ tk E' F1 N1 X1 B1 T1 l1 l2
    refine boxI ?_
    intro M9 e9 A9 q9 E9
    have S : SetC (Mine.H.KK w.params) 653 := ⟨by k_is, by k_is, by k_is⟩
    refine wpAny_execs_cons (node1 (outer := env :: outer) B1 F1 X1 N1 T1 (hA9 hA) hroom S (by k_is) (Nat.ne_of_gt l2) (fun q hq => Nat.ne_of_lt (l1 q hq)) rfl rfl rfl rfl rfl rfl rfl rfl rfl fun h2 tk2 t0 F2 N2 => ?_)
    refine wpAny_execs_cons (set1 (t' := []) X1 S rfl rfl rfl (by k_is) rfl (Nat.le_of_ble_eq_true rfl) (fun _ h => nomatch h) (Nat.ne_of_gt l2) (fun q hq => Nat.ne_of_lt (l1 q hq)) (fun _ => rfl) (ev_name F2 N2 rfl rfl rfl rfl) fun h3 tk3 t1 F3 N3 => ?_)
    refine wpAny_execs_cons (set1 (t' := []) X1 S rfl rfl rfl (by k_is) rfl (Nat.le_of_ble_eq_true rfl) (fun _ h => nomatch h) (Nat.ne_of_gt l2) (fun q hq => Nat.ne_of_lt (l1 q hq)) (fun _ => rfl) (ev_name F3 N3 rfl rfl rfl rfl) fun h4 tk4 t2 F4 N4 => ?_)
    exact wpAny_execs_nil ⟨rfl, ex5 _ _ _ [] _ ⟨rfl, F4, N4, ex3 t0 t1 t2 ⟨rfl, rfl⟩⟩⟩
  case hret =>
    intro x dx t o h' tk F' N' P' l1 l2
    obtain ⟨t0, t1, t2, rfl, rfl⟩ := P'
    exact ret x dx 0 t0 t1 t2 t0 t0 t0 h' tk F' N' (allLt_of l1) l2
theorem mk_680 {v1 : Value} (B : Below A₀ base outer h₀) (F : Fr h₀ L h m) (X : (Mine.H.KK w.params).In h₀) (N : News h₀ L h news) (T : Top p loose mean mg mb h₀) (hA : A.frames = some (env :: outer)) (hf : env.frame = some L) (hke : env.scope.kind = .function) (hroom : A.depth + 2 < recursionLimit)
    (ret : ∀ (x dx l : Addr) (t0 t1 t2 t3 t4 t5 : Tok) (h' : Heap) (tk : Nat), let led9 := (x, instObj 680 dx) :: (dx, dictOf [at_ w "place" t0 .none, at_ w "expr" t1 v1] 2) :: news; Fr h₀ L h' m → News h₀ L h' led9 → AllLt dx news → @LT.lt Nat _ dx x → Q (.ref x) ⟨h', gs, dr, tk, os⟩) :
    wpAny (model prog w) A (call (.ref 680) [v1] []) Q E ⟨h, gs, dr, tk0, os⟩ := by
  refine' call_init (s := ⟨h, gs, dr, tk0, os⟩) (K := Mine.H.KK w.params) (binds := [("expr", v1), ("place", .none)]) (P := fun x t o => ∃ t0 t1, t = [] ∧ o = dictOf [at_ w "place" t0 .none, at_ w "expr" t1 v1] 2) B F X N T hA hf hke (Nat.lt_of_succ_lt hroom) ?hm ?hi ?hfn ?ho ?hcd ?hbind ?hloc ?c1 ?c2 ?c3 ?c4 ?hbody ?hret
  case hm => k_is
  case hi => k_is
  case hfn => k_is
  case ho => k_is
  case hcd => k_is
  case hbind => exact fun x s' X' => binds_K X' rfl (by k_is) rfl rfl rfl
  case hloc => exact fun x => locs rfl
  case c1 => exact rfl
  case c2 => exact rfl
  case c3 => exact rfl
  case c4 => decide
  case hbody =>
    intro x dx g L' h₁ tk E' F1 N1 X1 B1 T1 l1 l2
    refine boxI ?_
    intro M9 e9 A9 q9 E9
    have S : SetC (Mine.H.KK w.params) 680 := ⟨by k_is, by k_is, by k_is⟩
    refine wpAny_execs_cons (node1 (outer := env :: outer) B1 F1 X1 N1 T1 (hA9 hA) hroom S (by k_is) (Nat.ne_of_gt l2) (fun q hq => Nat.ne_of_lt (l1 q hq)) rfl rfl rfl rfl rfl rfl rfl rfl rfl fun h2 tk2 t0 F2 N2 => ?_)
    refine wpAny_execs_cons (set1 (t' := []) X1 S rfl rfl rfl (by k_is) rfl (Nat.le_of_ble_eq_true rfl) (fun _ h => nomatch h) (Nat.ne_of_gt l2) (fun q hq => Nat.ne_of_lt (l1 q hq)) (fun _ => rfl) (ev_name F2 N2 rfl rfl rfl rfl) fun h3 tk3 t1 F3 N3 => ?_)
    exact wpAny_execs_nil ⟨rfl, ex5 _ _ _ [] _ ⟨rfl, F3, N3, ex2 t0 t1 ⟨rfl, rfl⟩⟩⟩
  case hret =>
    intro x dx t o h' tk F' N' P' l1 l2
    obtain ⟨t0, t1, rfl, rfl⟩ := P'
    exact ret x dx 0 t0 t1 t0 t0 t0 t0 h' tk F' N' (allLt_of l1) l2
theorem mk_707 {v1 : Value} (B : Below A₀ base outer h₀) (F : Fr h₀ L h m) (X : (Mine.H.KK w.params).In h₀) (N : News h₀ L h news) (T : Top p loose mean mg mb h₀) (hA : A.frames = some (env :: outer)) (hf : env.frame = some L) (hke : env.scope.kind = .function) (hroom : A.depth + 2 < recursionLimit)
    (ret : ∀ (x dx l : Addr) (t0 t1 t2 t3 t4 t5 : Tok) (h' : Heap) (tk : Nat), let led9 := (x, instObj 707 dx) :: (dx, dictOf [at_ w "place" t0 .none, at_ w "binds" t1 v1] 2) :: news; Fr h₀ L h' m → News h₀ L h' led9 → AllLt dx news → @LT.lt Nat _ dx x → Q (.ref x) ⟨h', gs, dr, tk, os⟩) :
    wpAny (model prog w) A (call (.ref 707) [v1] []) Q E ⟨h, gs, dr, tk0, os⟩ := by
  refine' call_init (s := ⟨h, gs, dr, tk0, os⟩) (K := Mine.H.KK w.params) (binds := [("binds", v1), ("place", .none)]) (P := fun x t o => ∃ t0 t1, t = [] ∧ o = dictOf [at_ w "place" t0 .none, at_ w "binds" t1 v1] 2) B F X N T hA hf hke (Nat.lt_of_succ_lt hroom) ?hm ?hi ?hfn ?ho ?hcd ?hbind ?hloc ?c1 ?c2 ?c3 ?c4 ?hbody ?hret
  case hm => k_is
  case hi => k_is
  case hfn => k_is
  case ho => k_is
  case hcd => k_is
  case hbind => exact fun x s' X' => binds_K X' rfl (by k_is) rfl rfl rfl
  case hloc => exact fun x => locs rfl
  case c1 => exact rfl
  case c2 => exact rfl
  case c3 => exact rfl
  case c4 => decide
  case hbody =>
    intro x dx g L' h₁ tk E' F1 N1 X1 B1 T1 l1 l2
    refine boxI ?_
    intro M9 e9 A9 q9 E9
    have S : SetC (Mine.H.KK w.params) 707 := ⟨by k_is, by k_is, by k_is⟩
    refine wpAny_execs_cons (node1 (outer := env :: outer) B1 F1 X1 N1 T1 (hA9 hA) hroom S (by k_is) (Nat.ne_of_gt l2) (fun q hq => Nat.ne_of_lt (l1 q hq)) rfl rfl rfl rfl rfl rfl rfl rfl rfl fun h2 tk2 t0 F2 N2 => ?_)
    refine wpAny_execs_cons (set1 (t' := []) X1 S rfl rfl rfl (by k_is) rfl (Nat.le_of_ble_eq_true rfl) (fun _ h => nomatch h) (Nat.ne_of_gt l2) (fun q hq => Nat.ne_of_lt (l1 q hq)) (fun _ => rfl) (ev_name F2 N2 rfl rfl rfl rfl) fun h3 tk3 t1 F3 N3 => ?_)
    exact wpAny_execs_nil ⟨rfl, ex5 _ _ _ [] _ ⟨rfl, F3, N3, ex2 t0 t1 ⟨rfl, rfl⟩⟩⟩
  case hret =>
    intro x dx t o h' tk F' N' P' l1 l2
    obtain ⟨t0, t1, rfl, rfl⟩ := P'
    exact ret x dx 0 t0 t1 t0 t0 t0 t0 h' tk F' N' (allLt_of l1) l2
theorem mk_734 {v1 : Value} (B : Below A₀ base outer h₀) (F : Fr h₀ L h m) (X : (Mine.H.KK w.params).In h₀) (N : News h₀ L h news) (T : Top p loose mean mg mb h₀) (hA : A.frames = some (env :: outer)) (hf : env.frame = some L) (hke : env.scope.kind = .function) (hroom : A.depth + 2 < recursionLimit)
    (ret : ∀ (x dx l : Addr) (t0 t1 t2 t3 t4 t5 : Tok) (h' : Heap) (tk : Nat), let led9 := (x, instObj 734 dx) :: (dx, dictOf [at_ w "place" t0 .none, at_ w "name" t1 v1] 2) :: news; Fr h₀ L h' m → News h₀ L h' led9 → AllLt dx news → @LT.lt Nat _ dx x → Q (.ref x) ⟨h', gs, dr, tk, os⟩) :
    wpAny (model prog w) A (call (.ref 734) [v1] []) Q E ⟨h, gs, dr, tk0, os⟩ := by
  refine' call_init (s := ⟨h, gs, dr, tk0, os⟩) (K := Mine.H.KK w.params) (binds := [("name", v1), ("place", .none)]) (P := fun x t o => ∃ t0 t1, t = [] ∧ o = dictOf [at_ w "place" t0 .none, at_ w "name" t1 v1] 2) B F X N T hA hf hke (Nat.lt_of_succ_lt hroom) ?hm ?hi ?hfn ?ho ?hcd ?hbind ?hloc ?c1 ?c2 ?c3 ?c4 ?hbody ?hret
  case hm => k_is
  case hi => k_is
  case hfn => k_is
  case ho => k_is
  case hcd => k_is
  case hbind => exact fun x s' X' => binds_K X' rfl (by k_is) rfl rfl rfl
  case hloc => exact fun x => locs rfl
  case c1 => exact rfl
  case c2 => exact rfl
  case c3 => exact rfl
  case c4 => decide
  case hbody =>
    intro x dx g L' h₁ tk E' F1 N1 X1 B1 T1 l1 l2
    refine boxI ?_
    intro M9 e9 A9 q9 E9
    have S : SetC (Mine.H.KK w.params) 734 := ⟨by k_is, by k_is, by k_is⟩
    refine wpAny_execs_cons (node1 (outer := env :: outer) B1 F1 X1 N1 T1 (hA9 hA) hroom S (by k_is) (Nat.ne_of_gt l2) (fun q hq => Nat.ne_of_lt (l1 q hq)) rfl rfl rfl rfl rfl rfl rfl rfl rfl fun h2 tk2 t0 F2 N2 => ?_)
    refine wpAny_execs_cons (set1 (t' := []) X1 S rfl rfl rfl (by k_is) rfl (Nat.le_of_ble_eq_true rfl) (fun _ h => nomatch h) (Nat.ne_of_gt l2) (fun q hq => Nat.ne_of_lt (l1 q hq)) (fun _ => rfl) (ev_name F2 N2 rfl rfl rfl rfl) fun h3 tk3 t1 F3 N3 => ?_)
    exact wpAny_execs_nil ⟨rfl, ex5 _ _ _ [] _ ⟨rfl, F3, N3, ex2 t0 t1 ⟨rfl, rfl⟩⟩⟩
  case hret =>
    intro x dx t o h' tk F' N' P' l1 l2
    obtain ⟨t0, t1, rfl, rfl⟩ := P'
    exact ret x dx 0 t0 t1 t0 t0 t0 t0 h' tk F' N' (allLt_of l1) l2
theorem mk_761 (B : Below A₀ base outer h₀) (F : Fr h₀ L h m) (X : (Mine.H.KK w.params).In h₀) (N : News h₀ L h news) (T : Top p loose mean mg mb h₀) (hA : A.frames = some (env :: outer)) (hf : env.frame = some L) (hke : env.scope.kind = .function) (hroom : A.depth + 2 < recursionLimit)
    (ret : ∀ (x dx l : Addr) (t0 t1 t2 t3 t4 t5 : Tok) (h' : Heap) (tk : Nat), let led9 := (x, instObj 761 dx) :: (dx, dictOf [at_ w "place" t0 .none] 1) :: news; Fr h₀ L h' m → News h₀ L h' led9 → AllLt dx news → @LT.lt Nat _ dx x → Q (.ref x) ⟨h', gs, dr, tk, os⟩) :
    wpAny (model prog w) A (call (.ref 761) [] []) Q E ⟨h, gs, dr, tk0, os⟩ := by
  refine' call_init (s := ⟨h, gs, dr, tk0, os⟩) (K := Mine.H.KK w.params) (binds := [("place", .none)]) (P := fun x t o => ∃ t0, t = [] ∧ o = dictOf [at_ w "place" t0 .none] 1) B F X N T hA hf hke (Nat.lt_of_succ_lt hroom) ?hm ?hi ?hfn ?ho ?hcd ?hbind ?hloc ?c1 ?c2 ?c3 ?c4 ?hbody ?hret
  case hm => k_is
  case hi => k_is
  case hfn => k_is
  case ho => k_is
  case hcd => k_is
  case hbind => exact fun x s' X' => binds_K X' rfl (by k_is) rfl rfl rfl
  case hloc => exact fun x => locs rfl
  case c1 => exact rfl
  case c2 => exact rfl
  case c3 => exact rfl
  case c4 => decide
  case hbody =>
    intro x dx g L' h₁ tk E' F1 N1 X1 B1 T1 l1 l2
    refine boxI ?_
    intro M9 e9 A9 q9 E9
    have S : SetC (Mine.H.KK w.params) 761 := ⟨by k_is, by k_is, by k_is⟩
    refine wpAny_execs_cons (node1 (outer := env :: outer) B1 F1 X1 N1 T1 (hA9 hA) hroom S (by k_is) (Nat.ne_of_gt l2) (fun q hq => Nat.ne_of_lt (l1 q hq)) rfl rfl rfl rfl rfl rfl rfl rfl rfl fun h2 tk2 t0 F2 N2 => ?_)
    exact wpAny_execs_nil ⟨rfl, ex5 _ _ _ [] _ ⟨rfl, F2, N2, ⟨t0, ⟨rfl, rfl⟩⟩⟩⟩
  case hret =>
    intro x dx t o h' tk F' N' P' l1 l2
    obtain ⟨t0, rfl, rfl⟩ := P'
    exact ret x dx 0 t0 t0 t0 t0 t0 t0 h' tk F' N' (allLt_of l1) l2
theorem mk_788 {v1 v2 : Value} (B : Below A₀ base outer h₀) (F : Fr h₀ L h m) (X : (Mine.H.KK w.params).In h₀) (N : News h₀ L h news) (T : Top p loose mean mg mb h₀) (hA : A.frames = some (env :: outer)) (hf : env.frame = some L) (hke : env.scope.kind = .function) (hroom : A.depth + 2 < recursionLimit)
    (ret : ∀ (x dx l : Addr) (t0 t1 t2 t3 t4 t5 : Tok) (h' : Heap) (tk : Nat), let led9 := (x, instObj 788 dx) :: (dx, dictOf [at_ w "place" t0 .none, at_ w "kind" t1 v1, at_ w "value" t2 v2] 3) :: news; Fr h₀ L h' m → News h₀ L h' led9 → AllLt dx news → @LT.lt Nat _ dx x → Q (.ref x) ⟨h', gs, dr, tk, os⟩) :
    wpAny (model prog w) A (call (.ref 788) [v1, v2] []) Q E ⟨h, gs, dr, tk0, os⟩ := by
  refine' call_init (s := ⟨h, gs, dr, tk0, os⟩) (K := Mine.H.KK w.params) (binds := [("kind", v1), ("value", v2), ("place", .none)]) (P := fun x t o => ∃ t0 t1 t2, t = [] ∧ o = dictOf [at_ w "place" t0 .none, at_ w "kind" t1 v1, at_ w "value" t2 v2] 3) B F X N T hA hf hke (Nat.lt_of_succ_lt hroom) ?hm ?hi ?hfn ?ho ?hcd ?hbind ?hloc ?c1 ?c2 ?c3 ?c4 ?hbody ?hret
  case hm => k_is
  case hi => k_is
  case hfn => k_is
  case ho => k_is
  case hcd => k_is
  case hbind => exact fun x s' X' => binds_K X' rfl (by k_is) rfl rfl rfl
  case hloc => exact fun x => locs rfl
  case c1 => exact rfl
  case c2 => exact rfl
  case c3 => exact rfl
  case c4 => decide
  case hbody =>
    intro x dx g L' h₁ tk E' F1 N1 X1 B1 T1 l1 l2
    refine boxI ?_
    intro M9 e9 A9 q9 E9
    have S : SetC (Mine.H.KK w.params) 788 := ⟨by k_is, by k_is, by k_is⟩
    refine wpAny_execs_cons (node1 (outer := env :: outer) B1 F1 X1 N1 T1 (hA9 hA) hroom S (by k_is) (Nat.ne_of_gt l2) (fun q hq => Nat.ne_of_lt (l1 q hq)) rfl rfl rfl rfl rfl rfl rfl rfl rfl fun h2 tk2 t0 F2 N2 => ?_)
    refine wpAny_execs_cons (set1 (t' := []) X1 S rfl rfl rfl (by k_is) rfl (Nat.le_of_ble_eq_true rfl) (fun _ h => nomatch h) (Nat.ne_of_gt l2) (fun q hq => Nat.ne_of_lt (l1 q hq)) (fun _ => rfl) (ev_name F2 N2 rfl rfl rfl rfl) fun h3 tk3 t1 F3 N3 => ?_)
    refine wpAny_execs_cons (set1 (t' := []) X1 S rfl rfl rfl (by k_is) rfl (Nat.le_of_ble_eq_true rfl) (fun _ h => nomatch h) (Nat.ne_of_gt l2) (fun q hq => Nat.ne_of_lt (l1 q hq)) (fun _ => rfl) (ev_name F3 N3 rfl rfl rfl rfl) fun h4 tk4 t2 F4 N4 => ?_)
    exact wpAny_execs_nil ⟨rfl, ex5 _ _ _ [] _ ⟨rfl, F4, N4, ex3 t0 t1 t2 ⟨rfl, rfl⟩⟩⟩
  case hret =>
    intro x dx t o h' tk F' N' P' l1 l2
    obtain ⟨t0, t1, t2, rfl, rfl⟩ := P'
    exact ret x dx 0 t0 t1 t2 t0 t0 t0 h' tk F' N' (allLt_of l1) l2
theorem mk_842 {v1 : Value} (B : Below A₀ base outer h₀) (F : Fr h₀ L h m) (X : (Mine.H.KK w.params).In h₀) (N : News h₀ L h news) (T : Top p loose mean mg mb h₀) (hA : A.frames = some (env :: outer)) (hf : env.frame = some L) (hke : env.scope.kind = .function) (hroom : A.depth + 2 < recursionLimit)
    (ret : ∀ (x dx l : Addr) (t0 t1 t2 t3 t4 t5 : Tok) (h' : Heap) (tk : Nat), let led9 := (x, instObj 842 dx) :: (dx, dictOf [at_ w "place" t0 .none, at_ w "items" t1 v1] 2) :: news; Fr h₀ L h' m → News h₀ L h' led9 → AllLt dx news → @LT.lt Nat _ dx x → Q (.ref x) ⟨h', gs, dr, tk, os⟩) :
    wpAny (model prog w) A (call (.ref 842) [v1] []) Q E ⟨h, gs, dr, tk0, os⟩ := by
  refine' call_init (s := ⟨h, gs, dr, tk0, os⟩) (K := Mine.H.KK w.params) (binds := [("items", v1), ("place", .none)]) (P := fun x t o => ∃ t0 t1, t = [] ∧ o = dictOf [at_ w "place" t0 .none, at_ w "items" t1 v1] 2) B F X N T hA hf hke (Nat.lt_of_succ_lt hroom) ?hm ?hi ?hfn ?ho ?hcd ?hbind ?hloc ?c1 ?c2 ?c3 ?c4 ?hbody ?hret
  case hm => k_is
  case hi => k_is
  case hfn => k_is
  case ho => k_is
  case hcd => k_is
  case hbind => exact fun x s' X' => binds_K X' rfl (by k_is) rfl rfl rfl
  case hloc => exact fun x => locs rfl
  case c1 => exact rfl
  case c2 => exact rfl
  case c3 => exact rfl
  case c4 => decide
  case hbody =>
    intro x dx g L' h₁ tk E' F1 N1 X1 B1 T1 l1 l2
    refine boxI ?_
    intro M9 e9 A9 q9 E9
    have S : SetC (Mine.H.KK w.params) 842 := ⟨by k_is, by k_is, by k_is⟩
    refine wpAny_execs_cons (node1 (outer := env :: outer) B1 F1 X1 N1 T1 (hA9 hA) hroom S (by k_is) (Nat.ne_of_gt l2) (fun q hq => Nat.ne_of_lt (l1 q hq)) rfl rfl rfl rfl rfl rfl rfl rfl rfl fun h2 tk2 t0 F2 N2 => ?_)
    refine wpAny_execs_cons (set1 (t' := []) X1 S rfl rfl rfl (by k_is) rfl (Nat.le_of_ble_eq_true rfl) (fun _ h => nomatch h) (Nat.ne_of_gt l2) (fun q hq => Nat.ne_of_lt (l1 q hq)) (fun _ => rfl) (ev_name F2 N2 rfl rfl rfl rfl) fun h3 tk3 t1 F3 N3 => ?_)
    exact wpAny_execs_nil ⟨rfl, ex5 _ _ _ [] _ ⟨rfl, F3, N3, ex2 t0 t1 ⟨rfl, rfl⟩⟩⟩
  case hret =>
    intro x dx t o h' tk F' N' P' l1 l2
    obtain ⟨t0, t1, rfl, rfl⟩ := P'
    exact ret x dx 0 t0 t1 t0 t0 t0 t0 h' tk F' N' (allLt_of l1) l2
end
end Mine
end
section
open PySem PySem.W PyProof.Rows PySem.Spec PySem.Calls
namespace Mine
section
variable {M : Model} {A : Around} {E : Value → Shared → Prop} {h h₀ : Heap} {gs : Array GenState} {d : Drawn} {t : Nat} {o : OsState} {L : Addr} {m : Str → Option Value} {news : Led} {vs : List Value} {Q : Value → Shared → Prop}
theorem newList9 (F : Fr h₀ L h m) (N : News h₀ L h news)
    (k : ∀ l h', let led9 := (l, listOf vs.toArray 0) :: news; Fr h₀ L h' m → News h₀ L h' led9 → AllLt l news → Q (.ref l) ⟨h', gs, d, t, o⟩) (hz : vs.length ≤ sizeLine) : wpAny M A (newList vs) Q E ⟨h, gs, d, t, o⟩ :=
  newList_K (s := ⟨h, gs, d, t, o⟩) F N (fun l h' F' N' l1 => k l h' F' N' (allLt_of l1)) hz
theorem newTuple9 (F : Fr h₀ L h m) (N : News h₀ L h news)
    (k : ∀ l h', let led9 := (l, ({ cls := .type "tuple", data := .seq vs.toArray } : Obj)) :: news; Fr h₀ L h' m → News h₀ L h' led9 → AllLt l news → Q (.ref l) ⟨h', gs, d, t, o⟩) (hz : vs.length ≤ sizeLine) : wpAny M A (newTuple vs) Q E ⟨h, gs, d, t, o⟩ :=
  kup_newTuple (s := ⟨h, gs, d, t, o⟩) F N (fun l h' F' N' l1 => k l h' F' N' (allLt_of l1)) hz
end
end Mine
end
section
open PySem PySem.W PyProof.Rows PySem.Spec PySem.Calls
namespace Mine
theorem inKeep {K : Frag} {h₀ h : Heap} {L : Addr} {m : Str → Option Value} (F : Fr h₀ L h m) (X : K.In h₀) : K.In h := X.keeps F.keep
theorem updF_mem {d : Addr} {o : Obj} {r : Led} {g : Obj → Led} (u : UpdF d o r g) : (d, o) ∈ r := by
  induction u with
  | head _ => exact .head _
  | tail _ _ ih => exact .tail _ ih
theorem upd_mem {d : Addr} {o o' : Obj} {r r' : Led} (u : Upd d o o' r r') : (d, o) ∈ r := by
  induction u with
  | head _ => exact .head _
  | tail _ _ ih => exact .tail _ ih
theorem updF_tail {p : Addr × Obj} {d : Addr} {o : Obj} {r : Led} {g : Obj → Led} (h : AllLt p.1 r) (u : UpdF d o r g) : UpdF d o (p :: r) (fun o' => p :: g o') := .tail (Nat.ne_of_gt (allLt_mem (updF_mem u) h)) u
theorem upd_tail {p : Addr × Obj} {d : Addr} {o o' : Obj} {r r' : Led} (h : AllLt p.1 r) (u : Upd d o o' r r') : Upd d o o' (p :: r) (p :: r') := .tail (Nat.ne_of_gt (allLt_mem (upd_mem u) h)) u
theorem updF_mk {x dx : Addr} {ox od : Obj} {d : Addr} {o : Obj} {r : Led} {g : Obj → Led} (l2 : @LT.lt Nat _ dx x) (l1 : AllLt dx r) (u : UpdF d o r g) : UpdF d o ((x, ox) :: (dx, od) :: r) (fun o' => (x, ox) :: (dx, od) :: g o') :=
  have q := allLt_mem (updF_mem u) l1
  .tail (Nat.ne_of_gt (Nat.lt_trans q l2)) (.tail (Nat.ne_of_gt q) u)
theorem updF_mk3 {x dx lx : Addr} {ox od ol : Obj} {d : Addr} {o : Obj} {r : Led} {g : Obj → Led} (l3 : @LT.lt Nat _ dx x) (l2 : @LT.lt Nat _ lx dx) (l1 : AllLt lx r) (u : UpdF d o r g) : UpdF d o ((x, ox) :: (dx, od) :: (lx, ol) :: r) (fun o' => (x, ox) :: (dx, od) :: (lx, ol) :: g o') :=
  have q := allLt_mem (updF_mem u) l1
  .tail (Nat.ne_of_gt (Nat.lt_trans (Nat.lt_trans q l2) l3)) (.tail (Nat.ne_of_gt (Nat.lt_trans q l2)) (.tail (Nat.ne_of_gt q) u))
theorem upd_mk {x dx : Addr} {ox od : Obj} {d : Addr} {o o' : Obj} {r r' : Led} (l2 : @LT.lt Nat _ dx x) (l1 : AllLt dx r) (u : Upd d o o' r r') : Upd d o o' ((x, ox) :: (dx, od) :: r) ((x, ox) :: (dx, od) :: r') :=
  have q := allLt_mem (upd_mem u) l1
  .tail (Nat.ne_of_gt (Nat.lt_trans q l2)) (.tail (Nat.ne_of_gt q) u)
theorem iteT {b : Bool} {p q : Prop} (e : b = true) (k : p) : if b = true then p else q := by rw [if_pos e]; exact k
theorem iteF {b : Bool} {p q : Prop} (e : b = false) (k : q) : if b = true then p else q := by rw [e, if_neg Bool.false_ne_true]; exact k
theorem sp_mem {B R : Led} {p : Addr × Obj} (k : p ∈ R) (h : ∀ q ∈ R, q ∈ B) : p ∈ B := h p k
theorem sp_mem2 {B R : Led} {p : Addr × Obj} (h : ∀ q ∈ R, q ∈ B) (k : p ∈ R) : p ∈ B := h p k
theorem sp_via {A B R : Led} (h : ∀ q ∈ R, q ∈ B) (k : ∀ q ∈ A, q ∈ R) : ∀ q ∈ A, q ∈ B := fun q hq => h q (k q hq)
section
variable {prog : Program} {w : World} {A : Around} {E : Value → Shared → Prop} {h h₀ : Heap} {g : Array GenState} {d : Drawn} {t : Nat} {os : OsState} {L a ca : Addr} {m mg mb : Str → Option Value} {cn : Str} {cs : Scope} {ccd : Value} {cl : List (Str × Addr)} {p : Program} {loose : List Str} {mean : ExcName → Option Value} {news : Led}
  {x c : Str} {p1 p2 p3 p4 p5 : Pos} {D C dd : Addr} {od : Obj} {b : Bool} {body orelse rest : List Stmt} {Q : Flow → Shared → Prop} {ev : PySem.Env}
  {Qv : Value → Shared → Prop} {v v1 v2 v3 v4 : Value} {fa : Addr} {f x1 x2 x3 x4 : Str} {pa pb pc pd pe pf : Pos} {attr : Str} {s : Shared} {es : List DictEntry} {nn : Nat} {at' : Option Value}
theorem ifIsiF' (hE : ev = envX cn cs L ca ccd cl) (F : Fr h₀ L h m) (N : News h₀ L h news) (X : (Mine.H.KK w.params).In h₀) (T : Top p loose mean mg mb h₀) (hv : m x = some (.ref a)) (h1 : (a, instObj D dd) ∈ news) (h2 : (dd, od) ∈ news)
    (e0 : nsIn (Mine.H.KK w.params) mainGlobals c = some (some (.ref C))) (e1 : isIn (Mine.H.KK w.params) (.ref D) C = false) (e2 : isiOk (Mine.H.KK w.params) ev cs x c D C false = true)
    (k : ∀ tk, wpAny (model prog w) A (execs rest ev) Q E ⟨h, g, d, tk, os⟩) :
    wpAny (model prog w) A (execs (.If (.Call (.Name "isinstance" p1) [.Name x p2, .Name c p3] [] p4) body [] p5 :: rest) ev) Q E ⟨h, g, d, t, os⟩ := by
  subst hE; exact ifIsiF F N X T hv h1 h2 e0 e1 e2 k
theorem ifIsiT' (hE : ev = envX cn cs L ca ccd cl) (F : Fr h₀ L h m) (N : News h₀ L h news) (X : (Mine.H.KK w.params).In h₀) (T : Top p loose mean mg mb h₀) (hv : m x = some (.ref a)) (h1 : (a, instObj D dd) ∈ news) (h2 : (dd, od) ∈ news)
    (e0 : nsIn (Mine.H.KK w.params) mainGlobals c = some (some (.ref C))) (e1 : isIn (Mine.H.KK w.params) (.ref D) C = true) (e2 : isiOk (Mine.H.KK w.params) ev cs x c D C true = true)
    (k : ∀ tk, wpAny (model prog w) A (execs body ev) (fun f s' => match f with | .next => wpAny (model prog w) A (execs rest ev) Q E s' | f => Q f s') E ⟨h, g, d, tk, os⟩) :
    wpAny (model prog w) A (execs (.If (.Call (.Name "isinstance" p1) [.Name x p2, .Name c p3] [] p4) body orelse p5 :: rest) ev) Q E ⟨h, g, d, t, os⟩ := by
  subst hE; exact ifIsiT F N X T hv h1 h2 e0 e1 e2 k
theorem nmL' (hE : ev = envX cn cs L ca ccd cl) (F : Fr h₀ L s.heap m) (hv : m x = some v) (o : okN cs ev x .local = true) (k : Qv v s) : wpAny (model prog w) A (eval (.Name x pa) ev) Qv E s := by
  subst hE; exact nmL F hv o k
theorem nmK' (hE : ev = envX cn cs L ca ccd cl) (F : Fr h₀ L s.heap m) (X : (Mine.H.KK w.params).In h₀) (T : Top p loose mean mg mb h₀) (e : nsIn (Mine.H.KK w.params) mainGlobals x = some (some v)) (o : okN cs ev x .globalImplicit = true) (k : Qv v s) : wpAny (model prog w) A (eval (.Name x pa) ev) Qv E s := by
  subst hE; exact nmK F X T e o k
theorem nmB' (hE : ev = envX cn cs L ca ccd cl) (F : Fr h₀ L s.heap m) (X : (Mine.H.KK w.params).In h₀) (T : Top p loose mean mg mb h₀) (e : nsIn (Mine.H.KK w.params) mainGlobals x = some none) (hv : bootBuiltins x = some v) (o : (okN cs ev x .globalImplicit && !(x == ("__name__" : Str))) = true) (k : Qv v s) : wpAny (model prog w) A (eval (.Name x pa) ev) Qv E s := by
  subst hE; exact nmB F X T e hv o k
theorem attrL' (hE : ev = envX cn cs L ca ccd cl) (F : Fr h₀ L h m) (N : News h₀ L h news) (X : (Mine.H.KK w.params).In h₀) (hv : m x = some (.ref a)) (h1 : (a, instObj D dd) ∈ news) (h2 : (dd, dictOf es nn) ∈ news) (o : okN cs ev x .local = true)
    (hg : plainGet (Mine.H.KK w.params) D attr = true) (hh : hasDictIn (Mine.H.KK w.params) D = true) (ha : findIn (Mine.H.KK w.params) (.ref D) attr = some at') (hn : noGet (Mine.H.KK w.params) at' = true) (hl : getL attr es = some (some v)) (hd9 : handedIn v = true)
    (k : ∀ tk, Qv v ⟨h, g, d, tk, os⟩) : wpAny (model prog w) A (eval (.Attribute (.Name x pa) attr pb) ev) Qv E ⟨h, g, d, t, os⟩ := by
  subst hE; exact attrL F N X hv h1 h2 o hg hh ha hn hl hd9 k
theorem callL1' (hE : ev = envX cn cs L ca ccd cl) (F : Fr h₀ L s.heap m) (X : (Mine.H.KK w.params).In h₀) (T : Top p loose mean mg mb h₀) (e : nsIn (Mine.H.KK w.params) mainGlobals f = some (some (.ref fa))) (hk : keepIn (Mine.H.KK w.params) (.ref fa) = true)
    (e1 : m x1 = some v1) (o : (okN cs ev f .globalImplicit && okN cs ev x1 .local) = true)
    (k : wpAny (model prog w) A (call (.ref fa) [v1]) Qv E s) : wpAny (model prog w) A (eval (.Call (.Name f pa) [.Name x1 pb] [] pf) ev) Qv E s := by
  subst hE; exact callL1 F X T e hk e1 o k
theorem callL2' (hE : ev = envX cn cs L ca ccd cl) (F : Fr h₀ L s.heap m) (X : (Mine.H.KK w.params).In h₀) (T : Top p loose mean mg mb h₀) (e : nsIn (Mine.H.KK w.params) mainGlobals f = some (some (.ref fa))) (hk : keepIn (Mine.H.KK w.params) (.ref fa) = true)
    (e1 : m x1 = some v1) (e2 : m x2 = some v2) (o : (okN cs ev f .globalImplicit && okN cs ev x1 .local && okN cs ev x2 .local) = true)
    (k : wpAny (model prog w) A (call (.ref fa) [v1, v2]) Qv E s) : wpAny (model prog w) A (eval (.Call (.Name f pa) [.Name x1 pb, .Name x2 pc] [] pf) ev) Qv E s := by
  subst hE; exact callL2 F X T e hk e1 e2 o k
theorem callL3' (hE : ev = envX cn cs L ca ccd cl) (F : Fr h₀ L s.heap m) (X : (Mine.H.KK w.params).In h₀) (T : Top p loose mean mg mb h₀) (e : nsIn (Mine.H.KK w.params) mainGlobals f = some (some (.ref fa))) (hk : keepIn (Mine.H.KK w.params) (.ref fa) = true)
    (e1 : m x1 = some v1) (e2 : m x2 = some v2) (e3 : m x3 = some v3) (o : (okN cs ev f .globalImplicit && okN cs ev x1 .local && okN cs ev x2 .local && okN cs ev x3 .local) = true)
    (k : wpAny (model prog w) A (call (.ref fa) [v1, v2, v3]) Qv E s) : wpAny (model prog w) A (eval (.Call (.Name f pa) [.Name x1 pb, .Name x2 pc, .Name x3 pd] [] pf) ev) Qv E s := by
  subst hE; exact callL3 F X T e hk e1 e2 e3 o k
end
section
variable {M : Model} {A : Around} {E : Value → Shared → Prop} {h h₀ : Heap} {gs : Array GenState} {d : Drawn} {t : Nat} {os : OsState} {L a : Addr} {m : Str → Option Value} {cn : Str} {cs : Scope} {ccd : Value} {cl : List (Str × Addr)} {x : Str} {v : Value} {Q : Unit → Shared → Prop} {news : Led} {ev : PySem.Env}
theorem storeL' (hE : ev = envX cn cs L a ccd cl) (F : Fr h₀ L h m) (N : News h₀ L h news)
    (k : ∀ h' tk, let m9 := fun y => if y = x then some v else m y; Fr h₀ L h' m9 → News h₀ L h' news → Q () ⟨h', gs, d, tk, os⟩)
    (hk : cs.kind = .function) (hx : ev.kindOf x = some .local) : wpAny M A (storeName ev x v) Q E ⟨h, gs, d, t, os⟩ := by
  subst hE; exact storeL F N k hk hx
end
theorem allLt_up {a : Addr} {o : Obj} {r : Led} (h : AllLt a r) : AllLt (@HAdd.hAdd Nat Nat Nat _ a 1) ((a, o) :: r) := ⟨Nat.lt_succ_self a, allLt_succ h⟩
theorem ne_up {a : Addr} {r : Led} (h : AllLt a r) : ∀ p ∈ r, p.1 ≠ a := fun p hp => Nat.ne_of_lt (lt_all h p hp)
theorem le_k {a m n : Nat} (h : a ≤ m) (e : Nat.ble m n = true) : a ≤ n := Nat.le_trans h (Nat.le_of_ble_eq_true e)
theorem lt_add {a c r : Nat} (h : a + c < r) : a < r := Nat.lt_of_le_of_lt (Nat.le_add_right a c) h
theorem lkHit {x : Str} {v : Value} {m : Str → Option Value} : (if x = x then some v else m x) = some v := if_pos rfl
theorem lkMiss {x y : Str} {v w : Value} {m : Str → Option Value} (h : decide (y = x) = false) (k : m y = some w) : (if y = x then some v else m y) = some w := by rw [if_neg (of_decide_eq_false h)]; exact k
def NamesAre (_ : Addr) (_ : List Str) : Prop := True
theorem nm (f : Addr) (xs : List Str) : NamesAre f xs := trivial
noncomputable def chain : List Str → List Value → Str → Option Value
  | x :: xs, v :: vs, y => if y = x then some v else chain xs vs y
  | _, _, _ => none
theorem chHit {x : Str} {xs : List Str} {v : Value} {vs : List Value} : chain (x :: xs) (v :: vs) x = some v := if_pos rfl
theorem chMiss {x y : Str} {xs : List Str} {v u : Value} {vs : List Value} (h : decide (y = x) = false) (k : chain xs vs y = some u) : chain (x :: xs) (v :: vs) y = some u := (if_neg (of_decide_eq_false h)).trans k
theorem chain_lookup : ∀ (xs : List Str) (vs : List Value) (y : Str), chain xs vs y = (xs.zip vs).lookup y
  | [], _, _ => rfl
  | _ :: _, [], _ => rfl
  | x :: xs, v :: vs, y => by
    show (if y = x then some v else chain xs vs y) = List.lookup y ((x, v) :: xs.zip vs)
    rw [chain_lookup xs vs y, List.lookup_cons]
    by_cases e : y = x
    · subst e; rw [if_pos rfl, beq_self_eq_true]
    · rw [if_neg e, beq_false_of_ne e]
theorem lookup_none : ∀ (xs : List Str) (vs : List Value) (y : Str), y ∉ xs → (xs.zip vs).lookup y = none
  | [], _, _, _ => rfl
  | _ :: _, [], _, _ => rfl
  | x :: xs, v :: vs, y, h => by
    rw [List.zip_cons_cons, List.lookup_cons]
    have h1 : y ≠ x := fun e => h (e ▸ List.mem_cons_self)
    have h2 := lookup_none xs vs y fun m => h (List.mem_cons_of_mem _ m)
    rw [beq_false_of_ne h1, h2]
theorem lookup_rev : ∀ (xs : List Str) (vs : List Value) (y : Str), xs.Nodup → (xs.zip vs).reverse.lookup y = (xs.zip vs).lookup y
  | [], _, _, _ => rfl
  | _ :: _, [], _, _ => rfl
  | x :: xs, v :: vs, y, h => by
    have h0 := List.nodup_cons.mp h
    rw [List.zip_cons_cons, List.reverse_cons, List.lookup_append, lookup_rev xs vs y h0.2, List.lookup_cons]
    by_cases e : y = x
    · subst e; rw [lookup_none xs vs y h0.1, beq_self_eq_true]; simp
    · rw [List.lookup_cons, beq_false_of_ne e]; simp
section
variable {prog : Program} {w : World} {p : Program} {loose : List Str} {mean : ExcName → Option Value} {mg mb : Str → Option Value} {dp un : Nat} {gd : Option (List Code)} {cn : Str} {cs : Scope} {ca : Addr} {ccd : Value} {cl : List (Str × Addr)} {outer : List PySem.Env} {A₀ : Around} {base h₀ : Heap} {L : Addr} {m : Str → Option Value} {news : Led} {s : Shared} {Q E : Value → Shared → Prop}
  {name qual : Str} {params : Arguments} {body : List Stmt} {scope : Scope} {dV kV doc pm cdv ct oc : Value} {an od : Option Addr} {osl : Array (Option Value)} {f : Addr} {args : List Value} {binds : List (Str × Value)} {xs : List Str}
theorem enterN (B : Below A₀ base outer h₀) (F : Fr h₀ L s.heap m) (X₀ : (Mine.H.KK w.params).In h₀) (N : News h₀ L s.heap news) (T : Top p loose mean mg mb h₀) (hk : cs.kind = .function)
    (ho : (Mine.H.KK w.params).lookup f = some ⟨oc, od, .func (fnOf name qual params body scope dV kV doc pm an cdv ct), osl⟩) (hcd : codeIn (Mine.H.KK w.params) cdv qual = true) (hroom : dp < recursionLimit)
    (hbind : BindsTo s (fnOf name qual params body scope dV kV doc pm an cdv ct) ⟨args, []⟩ binds) (hloc : ∀ y ∈ binds, scope.names.lookup y.1 = some .local) (_ : NamesAre f xs) (hb : binds = xs.zip args) (hn : decide xs.Nodup = true)
    (h : ∀ g L' h₁, Fr h₀ L g m → (let m9 := chain xs args; Fr g L' h₁ m9 → News g L' h₁ news → Below (ktrTop dp un gd cn cs L ca ccd cl outer) base (envX cn cs L ca ccd cl :: outer) g → (Mine.H.KK w.params).In g → Top p loose mean mg mb g →
      let e9 := envOf qual scope L' f cdv; let A9 := (ktrTop dp un gd cn cs L ca ccd cl outer).deeper e9;
      ∀ (gs : Array GenState) (d : Drawn) (o : OsState) (Q9 : Flow → Shared → Prop) (tk9 : Nat), QRet h₀ L m g L' Q s gs d o Q9 → wpAny (model prog w) A9 (execs body e9) Q9 (fun _ _ => False) ⟨h₁, gs, d, tk9, o⟩))
    (hco : scope.isCoroutine = false) (hgen : scope.isGenerator = false) (hkf : scope.kind = .function) (hcell : ∀ x ∈ scope.names, x.2 ≠ .cell) :
    wpAny (model prog w) (ktrTop dp un gd cn cs L ca ccd cl outer) (call (.ref f) args) Q E s := by
  have e : chain xs args = fun y => binds.reverse.lookup y := funext fun y => by rw [hb, lookup_rev xs args y (of_decide_eq_true hn), chain_lookup]
  rw [e] at h
  exact enter0 B F X₀ N T hk ho hcd hroom hbind hloc h hco hgen hkf hcell
end
end Mine
end
section
open PySem PySem.W PyProof.Rows PySem.Spec PySem.Calls
set_option genSizeOf false
namespace Mine
inductive Pat where
  | any
  | var (x : Str)
  | lit
  | pairN (x : Str)
  | pairL (x : Str)
inductive Row where
  | draw (p : Pat) (its : List It)
  | cond (ns : List Str) (k : Int)
  | bnd (x : Str) (ns : List Str) (k : Int)
noncomputable def nameOf (b : Str) (n : Int) : Str := b ++ PySem.Str.ofString "." ++ PySem.Str.ofString (toString n)
noncomputable def stepCore (p : Pat) (item : Str) (inner again : Core) : Core := match p with
  | .any => inner
  | .var x => .letn x (.var item) inner
  | .lit => .cLit (.var item) 1 inner again
  | .pairN x => .cPair (.var item) x "q" inner again
  | .pairL x => .cPair (.var item) x "q" (.cLit (.var "q") 1 inner again) again
noncomputable def comp (wanted : List Str) : List Row → Int → Core → Core
  | [], _, rest => .con2 ":" (numCore wanted (.lit 0)) rest
  | .bnd x ns k :: rs, j, rest => .letn x (numCore ns (.lit k)) (comp wanted rs j rest)
  | .cond ns k :: rs, j, rest => .cTrue (.lt (numCore ns (.lit 0)) (.lit k)) (comp wanted rs j rest) rest
  | .draw p its :: rs, j, rest =>
    .letr (nameOf "loop" (j + 1)) (.lam (nameOf "items" (j + 1)) (.cList (.var (nameOf "items" (j + 1))) rest (nameOf "item" (j + 1)) (nameOf "more" (j + 1))
      (stepCore p (nameOf "item" (j + 1)) (comp wanted rs (j + 1) (.app (.var (nameOf "loop" (j + 1))) (.var (nameOf "more" (j + 1))))) (.app (.var (nameOf "loop" (j + 1))) (.var (nameOf "more" (j + 1)))))))
      (.app (.var (nameOf "loop" (j + 1))) (itemsCore its (.con0 "[]")))
noncomputable def draws : List Row → Int
  | [] => 0
  | .draw _ _ :: rs => draws rs + 1
  | _ :: rs => draws rs
section
variable (w : World)
inductive PVarIn (news : Led) : Addr → Str → Prop where
  | mk {a d x t1 t2 t3} : (a, instObj 734 d) ∈ news → (d, dictOf [at_ w "place" t1 .none, at_ w "name" t2 (.str x t3)] 2) ∈ news → PVarIn news a x
inductive PWildIn (news : Led) : Addr → Prop where
  | mk {a d t1} : (a, instObj 761 d) ∈ news → (d, dictOf [at_ w "place" t1 .none] 1) ∈ news → PWildIn news a
inductive PLitIn (news : Led) : Addr → Prop where
  | mk {a d t1 t2 t3 t4 t5} : (a, instObj 788 d) ∈ news → (d, dictOf [at_ w "place" t1 .none, at_ w "kind" t2 (.str "int" t3), at_ w "value" t4 (.int 1 t5)] 3) ∈ news → PLitIn news a
inductive PatIn (news : Led) : Addr → Pat → Prop where
  | any {a} : PWildIn w news a → PatIn news a .any
  | var {a x} : PVarIn w news a x → PatIn news a (.var x)
  | lit {a} : PLitIn w news a → PatIn news a .lit
  | pairN {a d l p q x t1 t2 n} : (a, instObj 842 d) ∈ news → (d, dictOf [at_ w "place" t1 .none, at_ w "items" t2 (.ref l)] 2) ∈ news → (l, listO [.ref p, .ref q] n) ∈ news → PVarIn w news p x → PWildIn w news q → PatIn news a (.pairN x)
  | pairL {a d l p q x t1 t2 n} : (a, instObj 842 d) ∈ news → (d, dictOf [at_ w "place" t1 .none, at_ w "items" t2 (.ref l)] 2) ∈ news → (l, listO [.ref p, .ref q] n) ∈ news → PVarIn w news p x → PLitIn w news q → PatIn news a (.pairL x)
inductive SumIn (news : Led) (kind : Str) : Addr → List Str → Int → Prop where
  | mk {a l vs nl n names k t t'} : (a, tupO [.str kind t', .ref l, .int k t] n) ∈ news → (l, listO vs nl) ∈ news → Strs vs names → SumIn news kind a names k
inductive FBIn (news : Led) : Addr → Str → List Str → Int → Prop where
  | mk {fb fd gv cl c cd ps r rd gd gt ea wh whd g0 s3 s4 x ns k t7 t8 t9 t10 t11 t12 t13 t14 t15 t16 t17 t18 t19 t20 t21 n3 n4 n5 n6 n7 n8} :
      (fb, instObj 466 fd) ∈ news → (fd, dictOf [at_ w "place" t7 .none, at_ w "name" t8 (.str x t9), at_ w "clauses" t10 (.ref cl), at_ w "given" t11 (.ref gv)] 4) ∈ news →
      (gv, listO [] n3) ∈ news → (cl, listO [.ref c] n4) ∈ news →
      (c, instObj 493 cd) ∈ news → (cd, dictOf [at_ w "place" t12 .none, at_ w "patterns" t13 (.ref ps), at_ w "rhs" t14 (.ref r)] 3) ∈ news →
      (ps, listO [] n5) ∈ news → (r, instObj 518 rd) ∈ news → (rd, dictOf [at_ w "place" t15 .none, at_ w "guarded" t16 (.ref gd), at_ w "where" t17 (.ref wh)] 3) ∈ news →
      (gd, listO [.ref gt] n6) ∈ news → (gt, tupO [.none, .ref ea] n7) ∈ news →
      (wh, instObj 545 whd) ∈ news → (whd, dictOf [at_ w "place" t18 .none, at_ w "sigs" t19 (.ref s3), at_ w "binds" t20 (.ref s4), at_ w "groups" t21 (.ref g0)] 4) ∈ news → (g0, listO [] n8) ∈ news →
      SumIn news "sum" ea ns k → FBIn news fb x ns k
inductive BindsIn (news : Led) : Addr → Str → List Str → Int → Prop where
  | mk {b bd g g1 fb s1 s2 x ns k t3 t4 t5 t6 n1 n2} :
      (b, instObj 545 bd) ∈ news → (bd, dictOf [at_ w "place" t3 .none, at_ w "sigs" t4 (.ref s1), at_ w "binds" t5 (.ref s2), at_ w "groups" t6 (.ref g)] 4) ∈ news →
      (g, listO [.ref g1] n1) ∈ news → (g1, listO [.ref fb] n2) ∈ news → FBIn w news fb x ns k → BindsIn news b x ns k
inductive StatIn (news : Led) : Addr → Row → Prop where
  | draw {a d pa ea l p its vs nl n t1 t2 t3 t4} : (a, instObj 653 d) ∈ news → (d, dictOf [at_ w "place" t1 .none, at_ w "pattern" t2 (.ref pa), at_ w "expr" t3 (.ref ea)] 3) ∈ news → PatIn w news pa p →
      (ea, tupO [.str "list" t4, .ref l] n) ∈ news → (l, listO vs nl) ∈ news → Its news vs its → vs.length ≤ 100 → StatIn news a (.draw p its)
  | cond {a d ea ns k t1 t2} : (a, instObj 680 d) ∈ news → (d, dictOf [at_ w "place" t1 .none, at_ w "expr" t2 (.ref ea)] 2) ∈ news → SumIn news "less" ea ns k → StatIn news a (.cond ns k)
  | bnd {a d b x ns k t1 t2} : (a, instObj 707 d) ∈ news → (d, dictOf [at_ w "place" t1 .none, at_ w "binds" t2 (.ref b)] 2) ∈ news → BindsIn w news b x ns k → ns.length ≤ 2 → x ∉ ns → StatIn news a (.bnd x ns k)
inductive Stats (news : Led) : List Value → List Row → Prop where
  | nil : Stats news [] []
  | cons {a r vs rs} : StatIn w news a r → Stats news vs rs → Stats news (.ref a :: vs) (r :: rs)
inductive FreshIn (prog : Program) (news : Led) (nd : Addr) : Addr → Prop where
  | mk {fr fd av oA t1 t2} : (fr, instObj 1220 fd) ∈ news → (fd, dictOf [at_ w "avoided" t1 (.ref av), at_ w "numbers" t2 (.ref nd)] 2) ∈ news → (av, oA) ∈ news → oA.IsDictOf (strKind prog w) [] → (av == sysModules) = false → (nd == sysModules) = false → FreshIn prog news nd fr
inductive MakerIn (prog : Program) (news : Led) (nd : Addr) : Addr → Prop where
  | mk {mk md ty tyd cd oC fr t1 t2 t3 t4 t5 t6 t7 t8} : (mk, instObj 1176 md) ∈ news →
      (md, dictOf [at_ w "types" t1 (.ref ty), at_ w "classes" t2 .none, at_ w "fresh" t3 (.ref fr), at_ w "matcher" t4 (.ref 1259), at_ w "unmatched" t5 (.str "M.?" t6), at_ w "desugar" t7 (.ref 1252)] 6) ∈ news →
      (ty, instObj 1009 tyd) ∈ news → (tyd, dictOf [at_ w "cons" t8 (.ref cd)] 1) ∈ news → (cd, oC) ∈ news → FreshIn w prog news nd fr → MakerIn prog news nd mk
end
theorem Stats.len {w : World} {l : Led} {vs : List Value} {rs : List Row} (h : Stats w l vs rs) : vs.length = rs.length := by
  induction h with
  | nil => rfl
  | cons _ _ ih => simp [ih]
section
variable {prog : Program} {w : World} {l l' : Led}
theorem SumIn.mono (hs : ∀ q ∈ l, q ∈ l') {kind : Str} {a : Addr} {ns : List Str} {k : Int} (h : SumIn l kind a ns k) : SumIn l' kind a ns k := by
  cases h with | mk a b c => exact .mk (hs _ a) (hs _ b) c
theorem FreshIn.mono (hs : ∀ q ∈ l, q ∈ l') {nd fr : Addr} (h : FreshIn w prog l nd fr) : FreshIn w prog l' nd fr := by
  cases h with | mk a b c d e f => exact .mk (hs _ a) (hs _ b) (hs _ c) d e f
theorem MakerIn.mono (hs : ∀ q ∈ l, q ∈ l') {nd mk : Addr} (h : MakerIn w prog l nd mk) : MakerIn w prog l' nd mk := by
  cases h with | mk a b c d e f => exact .mk (hs _ a) (hs _ b) (hs _ c) (hs _ d) (hs _ e) (f.mono hs)
theorem PVarIn.mono (hs : ∀ q ∈ l, q ∈ l') {a : Addr} {x : Str} (h : PVarIn w l a x) : PVarIn w l' a x := by cases h with | mk a b => exact .mk (hs _ a) (hs _ b)
theorem PWildIn.mono (hs : ∀ q ∈ l, q ∈ l') {a : Addr} (h : PWildIn w l a) : PWildIn w l' a := by cases h with | mk a b => exact .mk (hs _ a) (hs _ b)
theorem PLitIn.mono (hs : ∀ q ∈ l, q ∈ l') {a : Addr} (h : PLitIn w l a) : PLitIn w l' a := by cases h with | mk a b => exact .mk (hs _ a) (hs _ b)
theorem PatIn.mono (hs : ∀ q ∈ l, q ∈ l') {a : Addr} {p : Pat} (h : PatIn w l a p) : PatIn w l' a p := by
  cases h with
  | any a => exact .any (a.mono hs)
  | var a => exact .var (a.mono hs)
  | lit a => exact .lit (a.mono hs)
  | pairN a b c d e => exact .pairN (hs _ a) (hs _ b) (hs _ c) (d.mono hs) (e.mono hs)
  | pairL a b c d e => exact .pairL (hs _ a) (hs _ b) (hs _ c) (d.mono hs) (e.mono hs)
theorem FBIn.mono (hs : ∀ q ∈ l, q ∈ l') {a : Addr} {x : Str} {ns : List Str} {k : Int} (h : FBIn w l a x ns k) : FBIn w l' a x ns k := by
  cases h with | mk a7 a8 a9 a10 a11 a12 a13 a14 a15 a16 a17 a18 a19 a20 a21 => exact .mk (hs _ a7) (hs _ a8) (hs _ a9) (hs _ a10) (hs _ a11) (hs _ a12) (hs _ a13) (hs _ a14) (hs _ a15) (hs _ a16) (hs _ a17) (hs _ a18) (hs _ a19) (hs _ a20) (a21.mono hs)
theorem BindsIn.mono (hs : ∀ q ∈ l, q ∈ l') {a : Addr} {x : Str} {ns : List Str} {k : Int} (h : BindsIn w l a x ns k) : BindsIn w l' a x ns k := by
  cases h with | mk a b c d e => exact .mk (hs _ a) (hs _ b) (hs _ c) (hs _ d) (e.mono hs)
theorem StatIn.mono (hs : ∀ q ∈ l, q ∈ l') {a : Addr} {r : Row} (h : StatIn w l a r) : StatIn w l' a r := by
  cases h with
  | draw a b c d e f g => exact .draw (hs _ a) (hs _ b) (c.mono hs) (hs _ d) (hs _ e) (f.mono hs) g
  | cond a b c => exact .cond (hs _ a) (hs _ b) (c.mono hs)
  | bnd a b c d e => exact .bnd (hs _ a) (hs _ b) (c.mono hs) d e
theorem Stats.mono (hs : ∀ q ∈ l, q ∈ l') {vs : List Value} {rs : List Row} (h : Stats w l vs rs) : Stats w l' vs rs := by
  induction h with
  | nil => exact .nil
  | cons a _ ih => exact .cons (a.mono hs) ih
end
structure NumSt (kvs : List (Str × Value)) (j : Int) (u : Nat) : Prop where
  lo : 0 ≤ j
  hi : j ≤ 10
  len : kvs.length ≤ 6 * u
  loop : NumAt kvs "loop" j
  items : NumAt kvs "items" j
  item : NumAt kvs "item" j
  more : NumAt kvs "more" j
  truth : ∃ n, NumAt kvs "truth" n ∧ 0 ≤ n ∧ n ≤ u
  worked : ∃ n, NumAt kvs "worked" n ∧ 0 ≤ n ∧ n ≤ u
theorem NumAt.set {kvs : List (Str × Value)} {b c : Str} {n : Int} {v : Value} (h : NumAt kvs b n) (hne : b ≠ c) : NumAt (stored kvs c v) b n := by
  unfold NumAt at *
  rw [valueAt_stored, if_neg hne]
  exact h
theorem NumAt.self {kvs : List (Str × Value)} {b : Str} {n : Int} {t : Tok} : NumAt (stored kvs b (.int n t)) b n := .inr ⟨t, by rw [valueAt_stored, if_pos rfl]⟩
end Mine
end
section
open PySem PySem.W PyProof.Rows PySem.Spec PySem.Calls PyProof.V
set_option maxHeartbeats 1000000
namespace Mine
section
variable {prog : Program} {w : World} {A : Around} {E : Value → Shared → Prop} {s : Shared} {h₀ : Heap} {L : Addr} {m : Str → Option Value} {news : Led}
theorem sort_one {D : Addr} {vs : List Value} {n : Nat} {Q : Value → Shared → Prop} (F : Fr h₀ L s.heap m) (N : News h₀ L s.heap ((D, listO vs n) :: news)) (off : ∀ p ∈ news, p.1 ≠ D) (hl : vs.length < 2)
    (h : ∀ n' h', Fr h₀ L h' m → News h₀ L h' ((D, listO vs n') :: news) → Q .none { s with heap := h' }) : wpAny (model prog w) A (call (.builtin "list.sort") [.ref D]) Q E s := by
  have z := N _ (.head _)
  have ho : s.heap.get? D = some (seqObj "list" vs.toArray n) := z.1
  refine wpAny_call_entry PyProof.Rows.slot_list_sort ⟨_, z.1, rfl⟩ PyProof.Rows.entry_list_sort ?_ (PyProof.Rows.args_list_sort _)
  have s1 := Heap.SameBut.update s.heap D (Obj.mapSeq fun _ => (#[] : Array Value))
  obtain ⟨e1, ho1⟩ : ∃ e1, (s.heap.update D (Obj.mapSeq fun _ => (#[] : Array Value))).get? D = some (seqObj "list" #[] e1) := ⟨_, get?_update_seq ho fun _ => #[]⟩
  have F3 : Fr h₀ L (((s.heap.update D (Obj.mapSeq fun _ => (#[] : Array Value))).push (seqObj "tuple" vs.toArray 0)).push (seqObj "list" #[] 0)) m := ((kas_fr F s1 z.2.1 z.2.2).push _).push _
  have N2 : News h₀ L (((s.heap.update D (Obj.mapSeq fun _ => (#[] : Array Value))).push (seqObj "tuple" vs.toArray 0)).push (seqObj "list" #[] 0)) news :=
    (kas_news (fun p hp => N p (.tail _ hp)) s1 off).grown fun b x e => Heap.get?_push_of_some _ (Heap.get?_push_of_some _ e)
  have ho3 : (((s.heap.update D (Obj.mapSeq fun _ => (#[] : Array Value))).push (seqObj "tuple" vs.toArray 0)).push (seqObj "list" #[] 0)).get? D = some (seqObj "list" #[] e1) := Heap.get?_push_of_some _ (Heap.get?_push_of_some _ ho1)
  rw [list_sort_plain]
  refine wpAny_bind (listItems_at ho rfl ?_)
  refine wpAny_bind (listUpdate_at ho rfl ?_ (by rw [List.size_toArray, sizeLine_eq]; omega) (Nat.zero_le _))
  refine wpAny_bind (seqEpoch_at ho1 rfl ?_)
  refine wpAny_bind (wpAny_newTuple ?_ (by show vs.length ≤ _; rw [sizeLine_eq]; omega))
  refine wpAny_bind (wpAny_newList ?_ (Nat.zero_le _))
  refine wpAny_holding ?_
  show wpAny (model prog w) _ _ _ E { s with heap := ((s.heap.update D (Obj.mapSeq fun _ => (#[] : Array Value))).push (seqObj "tuple" vs.toArray 0)).push (seqObj "list" #[] 0) }
  dsimp only
  have hn2 : vs.toArray.size < 2 := by rw [List.size_toArray]; omega
  rw [if_pos hn2, if_pos hn2]
  refine wpAny_bind (wpAny_pure ?_)
  refine wpAny_bind (m := pure ((), _)) (wpAny_pure ?_)
  have hout : (arrOf (SortSt.mk' general' (vs.toArray.zip vs.toArray) #[] 7 none)).map (·.2) = vs.toArray := by
    show (vs.toArray.zip vs.toArray).map (·.2) = _
    rcases vs with _ | ⟨a, _ | ⟨b, r⟩⟩
    · simp
    · simp
    · exfalso; simp only [List.length_cons] at hl; omega
  dsimp only
  rw [hout]
  have s2 := Heap.SameBut.update (((s.heap.update D (Obj.mapSeq fun _ => (#[] : Array Value))).push (seqObj "tuple" vs.toArray 0)).push (seqObj "list" #[] 0)) D (Obj.mapSeq fun _ => vs.toArray)
  obtain ⟨c2, hc2⟩ : ∃ c2, ((((s.heap.update D (Obj.mapSeq fun _ => (#[] : Array Value))).push (seqObj "tuple" vs.toArray 0)).push (seqObj "list" #[] 0)).update D (Obj.mapSeq fun _ => vs.toArray)).get? D = some (seqObj "list" vs.toArray c2) := ⟨_, get?_update_seq ho3 fun _ => vs.toArray⟩
  refine wpAny_bind (seqEpoch_at ho3 rfl ?_)
  refine wpAny_bind (listUpdate_at ho3 rfl ?_ (Nat.zero_le _) (by rw [List.size_toArray, sizeLine_eq]; omega))
  simp only [bne_self_eq_false, Bool.false_eq_true, if_false]
  refine wpAny_pure ⟨.none, rfl, h c2 _ (kas_fr F3 s2 z.2.1 z.2.2) ?_⟩
  intro p hp
  rcases List.mem_cons.mp hp with rfl | hp
  · exact ⟨hc2, z.2⟩
  · exact kas_news N2 s2 off p hp
theorem sort_two {D : Addr} {x y : Str} {t u : Tok} {n : Nat} {Q : Value → Shared → Prop} (F : Fr h₀ L s.heap m) (N : News h₀ L s.heap ((D, listO [.str x t, .str y u] n) :: news)) (off : ∀ p ∈ news, p.1 ≠ D)
    (h1 : ∀ n' h', Fr h₀ L h' m → News h₀ L h' ((D, listO [.str x t, .str y u] n') :: news) → Q .none { s with heap := h' })
    (h2 : ∀ n' h', Fr h₀ L h' m → News h₀ L h' ((D, listO [.str y u, .str x t] n') :: news) → Q .none { s with heap := h' }) : wpAny (model prog w) A (call (.builtin "list.sort") [.ref D]) Q E s := by
  refine kas_lsort (vs := [.str x t, .str y u]) (T := .type "str") F N (UpdF.head off) rfl (Nat.le_refl 2) (by show 2 < 64; decide) (fun e1 h F' N' v hv => ?_) (by decide) fun e1 h' F' N' => ?_
  · rcases List.mem_cons.mp hv with rfl | hv
    · exact Looks.of_pure rfl
    · rcases List.mem_cons.mp hv with rfl | hv
      · exact Looks.of_pure rfl
      · cases hv
  · kas_step
    refine kas_lt_str ?_
    generalize decide (y.cps.toList < x.cps.toList) = b
    cases b
    · kas_known
      repeat kas_step
      kas_out
      refine KasFin.intro F' N' (UpdF.head off) ?_
      intro c' h' F' N'
      exact h1 _ _ ‹_› ‹_›
    · kas_known
      repeat kas_step
      kas_out
      refine KasFin.intro F' N' (UpdF.head off) ?_
      intro c' h' F' N'
      exact h2 _ _ ‹_› ‹_›
theorem sort_small {D : Addr} {vs : List Value} {xs : List Str} {n : Nat} {Q : Value → Shared → Prop} (F : Fr h₀ L s.heap m) (N : News h₀ L s.heap ((D, listO vs n) :: news)) (off : ∀ p ∈ news, p.1 ≠ D) (hs : Strs vs xs) (hl : vs.length ≤ 2)
    (h : ∀ vs' xs' n' h', Fr h₀ L h' m → News h₀ L h' ((D, listO vs' n') :: news) → Strs vs' xs' → (∀ z ∈ xs', z ∈ xs) → vs'.length ≤ 2 → Q .none { s with heap := h' }) : wpAny (model prog w) A (call (.builtin "list.sort") [.ref D]) Q E s := by
  by_cases h2 : vs.length < 2
  · exact sort_one F N off h2 fun n' h' F' N' => h vs xs n' h' F' N' hs (fun _ hz => hz) hl
  · cases hs with
    | nil => simp at h2
    | @cons x t vs xs hs =>
      cases hs with
      | nil => simp at h2
      | @cons y u vs xs hs =>
        cases hs with
        | cons hs => simp at hl
        | nil => exact sort_two F N off (fun n' h' F' N' => h _ _ n' h' F' N' (.cons (.cons .nil)) (fun _ hz => hz) (Nat.le_refl 2)) fun n' h' F' N' => h _ _ n' h' F' N' (.cons (.cons .nil)) (fun z hz => by
                  simp only [List.mem_cons, List.not_mem_nil, or_false] at hz ⊢
                  exact hz.symm) (Nat.le_refl 2)
theorem strs_of : ∀ {vs : List Value} {kvs : List (Str × Value)}, vs.length = kvs.length → (∀ (j : Nat) (v : Value), vs[j]? = some v → ∃ k x, kvs[j]? = some (k, x) ∧ (strKind prog w).is k v = true) → Strs vs (kvs.map (·.1))
  | [], [], _, _ => .nil
  | [], _ :: _, h, _ => by simp at h
  | _ :: _, [], h, _ => by simp at h
  | v :: vs, (k, x) :: kvs, h, H => by
    obtain ⟨k', x', e, hk⟩ := H 0 v rfl
    cases e
    obtain ⟨t, rfl⟩ := Value.isStrOf_shape hk
    exact .cons (strs_of (by simpa using h) fun j v e => H (j + 1) v e)
theorem sorted_keys {d : Addr} {o : Obj} {kvs : List (Str × Value)} {Q : Value → Shared → Prop} (hh : A.handled = none) (F : Fr h₀ L s.heap m) (N : News h₀ L s.heap news) (hp : (d, o) ∈ news) (lo : (d == sysModules) = false) (hd : o.IsDictOf (strKind prog w) kvs) (hl : kvs.length ≤ 2)
    (h : ∀ D vs xs n h' tk, Fr h₀ L h' m → News h₀ L h' ((D, listO vs n) :: news) → (∀ p ∈ news, p.1 < D) → Strs vs xs → (∀ z ∈ xs, z ∈ kvs.map (·.1)) → vs.length ≤ 2 → Q (.ref D) { s with heap := h', toks := tk }) :
    wpAny (model prog w) A (call (.builtin "sorted") [.ref d]) Q E s := by
  have hD : s.heap.DictOf (strKind prog w) d kvs := Heap.dictOf_iff.mpr ⟨o, (N _ hp).1, hd⟩
  obtain ⟨ep, hat⟩ := hD.dictAt
  refine kdu_sorted (kdl_dict (knd := strKind prog w) (kvs := kvs) (ep := ep) lo) hh F N hat (by rw [sizeLine_eq]; omega) fun B h' tk vs F' N' l1 hlen hv => ?_
  have hs := strs_of hlen hv
  refine sort_small F' N' (fun p hp => Nat.ne_of_lt (l1 p hp)) hs (by omega) fun vs' xs' n' h'' F'' N'' hs' hsub hl' => ?_
  exact h B vs' xs' n' h'' tk F'' N'' l1 hs' hsub hl'
end
end Mine
end
local macro_rules | `(tactic| walk_at $s:str) => `(tactic| k_extra $(Lean.Syntax.mkStrLit ("z " ++ s.getString)))
local macro_rules | `(tactic| row_timed $s:str ($t)) => do
  if s.getString == "z" then
    let t' ← t.raw.rewriteBottomUpM fun x => do
      match x with
      | .ident i r n _ => if n.toString.startsWith "ζ" then return .ident i r (← Lean.Macro.addMacroScope n) [] else return x
      | _ => if x.getKind == ``Lean.Parser.Tactic.fail && x[1][0].isStrLit? == some "z" then return (← `(tactic| skip)) else return x
    `(tactic| ($(⟨t'⟩)))
  else Lean.Macro.throwUnsupported
local macro_rules | `(tactic| k_lt $h:ident) => `(tactic| replace $h := PySem.W.allLt_of $h)
local macro_rules | `(tactic| k_mem) => `(tactic| k_extra "k_mem")
local macro_rules | `(tactic| k_all) => `(tactic| k_extra "k_all")
local macro_rules | `(tactic| k_upd) => `(tactic| k_extra "k_upd")
local macro_rules | `(tactic| k_updF) => `(tactic| k_extra "k_updF")
local macro_rules | `(tactic| k_room) => `(tactic| k_extra "k_room")
local macro_rules | `(tactic| ktr_room) => `(tactic| k_extra "ktr_room")
local macro_rules | `(tactic| units_room) => `(tactic| k_extra "units_room")
local macro_rules | `(tactic| omega) => `(tactic| k_extra "omega")
local macro_rules | `(tactic| k_steps) => `(tactic| k_extra "k_steps")
local macro_rules | `(tactic| k_in) => `(tactic| k_extra "k_in")
section
open PySem PySem.W PyProof.Rows PySem.Spec PySem.Calls
theorem Mine.rules_a : True := by
  (k_with "z call ref" => (k_here; k_dflt first | k_extra "mine enter" | k_extra "mine enterC"))
  (k_with "k_all" => with_reducible assumption)
  (k_with "mine enterC" => row_timed "z" (fail "z"; (refine' code_defC ?ζk1 ?ζk2 ?ζk3 ?ζk4 ?ζk5 ?ζkA ?ζkF ?ζkK ?ζk6 ?ζk7 ?ζk8 ?ζk9 ?ζkB ?ζkD ?_ ?ζc2 ?ζc3 ?ζc4; (case ζkA => exact rfl); (case ζkF => exact rfl); (case ζkK => first | k_asm | exact rfl); (case ζk1 => k_asm); (case ζk2 => k_asm); (case ζk3 => k_asm); (case ζk4 => k_asm); (case ζk5 => k_asm); (case ζk6 => k_is); (case ζk7 => k_is); (case ζk8 => ktr_room); (case ζk9 => exact BindsTo.of_eq rfl); (case ζkB => exact rfl); (case ζkD => decide +kernel); (case ζc2 => exact rfl); (case ζc3 => exact rfl); (case ζc4 => exact rfl); k_whole; intro g' L' h' tk' cells' FG' F' N' Y' B' X' T' l1; (try k_lt l1); k_cells Y'; (try simp only [List.cons_append, List.nil_append] at N'); (try dsimp only); (try k_fold))))
  (k_with "mine sub" => first | exact Mine.sub_refl | (refine Mine.sub_cons ?_; k_extra "mine sub") | exact Mine.sub_left | (refine Mine.sub_app ?_; k_extra "mine sub"))
  (k_with "mine core" => row_timed "z" (fail "z"; first | with_reducible assumption | (refine' Mine.CoreIn.mono ?ζs ?ζc; (case ζc => with_reducible assumption); (case ζs => k_extra "mine sub")) | ((with_reducible refine' Mine.CoreIn.lit ?ζa ?ζb); (case ζa => k_mem); (case ζb => k_mem))))
  (k_with "mine kvs" => row_timed "z" (fail "z"; first | with_reducible assumption | (refine' Mine.KvsIn.mono ?ζs ?ζc; (case ζc => with_reducible assumption); (case ζs => k_extra "mine sub")) | ((with_reducible refine' Mine.KvsIn.bind ?ζa ?ζb ?ζc ?ζd); (case ζa => k_extra "mine kvs"); (case ζb => k_mem); (case ζc => k_extra "mine core"); (case ζd => k_extra "mine env0"))))
  (k_with "mine env0" => row_timed "z" (fail "z"; first | with_reducible assumption | (refine' Mine.EnvIn.mono ?ζs ?ζc; (case ζc => with_reducible assumption); (case ζs => k_extra "mine sub")) | ((with_reducible refine' Mine.EnvIn.ofKvs ?ζa ?ζb ?ζc ?ζd); (case ζa => k_mem); (case ζb => k_asm); (case ζc => k_asm); (case ζd => exact Mine.KvsIn.nil))))
  (k_with "mine env" => row_timed "z" (fail "z"; first | with_reducible assumption | (refine' Mine.EnvIn.mono ?ζs ?ζc; (case ζc => with_reducible assumption); (case ζs => k_extra "mine sub")) | ((with_reducible refine' Mine.EnvIn.recb ?ζa ?ζb ?ζc ?ζd ?ζe ?ζf); (case ζa => k_mem); (case ζb => k_asm); (case ζc => k_asm); (case ζd => k_extra "mine kvs"); (case ζe => k_mem); (case ζf => k_extra "mine core")) | ((with_reducible refine' Mine.EnvIn.ofKvs ?ζa ?ζb ?ζc ?ζd); (case ζa => k_mem); (case ζb => k_asm); (case ζc => k_asm); (case ζd => k_extra "mine kvs"))))
  (k_with "mine units" => (have hcL9 := cLine_is; (try simp only [units_in1, units_deeper, Around.mark_units, units_caller] at *); (try dsimp only [ktrTop] at *); omega))
  (k_with "z call ref" => row_timed "z" (fail "z"; (k_here; (with_reducible show wpAny _ _ (call (Value.ref 1271) _) _ _ _); k_dflt (refine' Mine.value_use ?ζB ?ζF ?ζX ?ζN ?ζT ?ζhk ?ζhc ?ζhe ?ζS ?ζhd ?ζhu ?_; (case ζB => k_asm); (case ζF => k_asm); (case ζX => k_asm); (case ζN => k_asm); (case ζT => k_asm); (case ζhk => exact rfl); (case ζhc => k_extra "mine core"); (case ζS => with_reducible assumption); (case ζhe => k_extra "mine env"); (case ζhd => ktr_room); (case ζhu => k_extra "mine units")); intro v' tl' h' tk' F' N' A' V'; (first | (obtain ⟨t9, e9⟩ := Mine.ValIn.int_inv V'; subst e9; clear V') | (obtain ⟨a9, li9, t91, t92, n91, n92, e9, m91, m92⟩ := Mine.ValIn.con0_inv V'; subst e9; clear V') | (obtain ⟨a9, li9, t91, t92, n91, n92, p9, q9, x9, y9, ev9, n93, n94, e9, m91, m92, m93, m94, c91, c92, ce9⟩ := Mine.ValIn.con2_inv V'; subst e9; clear V') | (obtain ⟨a9, li9, b9, ev9, t91, t92, n91, n92, e9, m91, m92, c91, ce9⟩ := Mine.ValIn.fn_inv V'; subst e9; clear V') | skip); (try dsimp only); (try k_fold))))
  (k_with "z subscriptTail Name Attribute ref str" => (k_here; k_dflt (refine kda_item (knd := PySem.strKind _ _) (by k_asm) (by k_mem) (by k_asm) (strKind_is _ _ _ _) (by k_asm) ?_)))
  (k_with "mine val" => row_timed "z" (fail "z"; first | exact Mine.ValIn.int | (refine' Mine.ValIn.mono ?ζs ?ζc; (case ζc => with_reducible assumption); (case ζs => k_extra "mine sub")) | (refine' Mine.ValIn.con0 ?ζa ?ζb; (case ζa => k_mem); (case ζb => k_mem)) | (refine' Mine.ValIn.con2 ?ζa ?ζb ?ζc ?ζd ?ζe ?ζf ?ζg; (case ζa => k_mem); (case ζb => k_mem); (case ζc => k_mem); (case ζd => k_mem); (case ζe => k_extra "mine core"); (case ζf => k_extra "mine core"); (case ζg => k_extra "mine env")) | (refine' Mine.ValIn.fn ?ζa ?ζb ?ζc ?ζd; (case ζa => k_mem); (case ζb => k_mem); (case ζc => k_extra "mine core"); (case ζd => k_extra "mine env"))))
  (k_with "mine end" => row_timed "z" (fail "z"; ((rename ∀ _ _ _ _, Fr _ _ _ _ → _ => ζret'); (refine' Mine.end9 ζret' ?ζF ?ζN ?ζP ?ζA ?ζV; (case ζF => k_asm); (case ζN => k_asm); (case ζP => k_extra "mine pre"); (case ζA => (k_extra "mine flat"; k_extra "mine above")); (case ζV => k_extra "mine val")))))
  (k_with "z CompEnd" => (k_dflt (refine Mine.comp_end1 (by k_asm) (by k_asm) (by (simp only [AllLt, and_true]; first | k_asm | exact ⟨by omega, by omega, by omega, by k_asm⟩)) (by k_asm) (by first | exact True.intro | exact Or.inl (by k_asm) | exact Or.inr ⟨_, by k_mem, rfl, _, rfl⟩) ?_)))
  (k_with "z CompSrc" => (k_here; k_dflt (refine LCg.CompSrc.ledger (by rfl) (by k_asm) (by k_asm) (by k_mem) (by first | size_fits | exact Nat.le_of_ble_eq_true rfl) ?_; intro g'; lcg_lit)))
  (k_with "k_room" => ktr_room)
  (k_with "mine small" => first | omega | (refine Nat.le_trans (Mine.stored_len _ _ _) ?_; omega) | (refine Nat.le_trans (Mine.stored_len _ _ _) (Nat.succ_le_of_lt (Nat.lt_of_le_of_lt (Mine.stored_len _ _ _) ?_)); omega))
  (k_with "z call type:dict" => row_timed "z" (fail "z"; (k_here; (with_reducible show wpAny _ _ (call (Value.type "dict") [Value.ref _]) _ _ _); k_dflt (refine' Mine.env_copy ?ζF ?ζN ?ζB ?ζe ?ζu ?ζs ?_; (case ζF => k_asm); (case ζN => k_asm); (case ζB => exact Top.nolimit (by k_asm)); (case ζe => with_reducible assumption); (case ζu => k_extra "mine sub"); (case ζs => with_reducible assumption)); intro d' h' o' kvs' F' N' l1 lo' hd' hk' hz'; (try k_lt l1))))
  (k_with "z subscriptTail Attribute Name Constant ref int" => row_timed "z" (fail "z"; (k_here; k_dflt (refine' Mine.item_N ?ζN ?ζm ?ζa ?ζb ?ζc ?_; (case ζN => k_asm); (case ζm => k_mem); (case ζa => decide); (case ζb => decide); (case ζc => exact rfl)))))
  (k_with "z subscriptTail Name Constant ref int" => row_timed "z" (fail "z"; (k_here; k_dflt (first | (refine' Mine.item_T ?ζN ?ζm ?ζa ?ζb ?ζc ?ζd ?_; (case ζN => k_asm); (case ζm => k_mem); (case ζa => decide); (case ζb => decide); (case ζc => exact rfl); (case ζd => exact rfl)) | (refine' Mine.item_N ?ζN ?ζm ?ζa ?ζb ?ζc ?_; (case ζN => k_asm); (case ζm => k_mem); (case ζa => decide); (case ζb => decide); (case ζc => exact rfl))))))
  (k_with "mine for" => row_timed "z" (fail "z"; (k_here; (rename Fr _ _ _ _ => ζlF'); (with_unfolding_all refine' For_turns ζlF' ?_; k_whole))))
  (k_with "z exec For Tuple Attribute cons nil" => k_extra "mine for")
  (k_with "z exec For Name Attribute cons nil" => k_extra "mine for")
  (k_with "z exec For Tuple Call cons nil" => k_extra "mine for")
  (k_with "z pyIter ref" => (k_here; (with_reducible show wpAny _ _ (pyIter (Value.ref _)) (fun it s₂ => TurnsAt _ _ _ _ _ _ _ _ _ it s₂) _ _); k_dflt (refine iter_listTurns (by rfl) (by k_asm) (by k_asm) (by k_mem) rfl rfl ?_); intro I' l1; (try k_lt l1)))
  (k_with "mine lt" => first | tbn_find | exact allLt_of (by with_reducible assumption) | (k_dflt (refine And.intro (by (try dsimp only); omega) ?_); k_extra "mine lt") | exact True.intro)
  (k_with "k_all" => (refine Mine.ne_all ?_; k_extra "mine lt"))
  (k_with "z UnrEndW" => row_timed "z" (fail "z"; first
      | (refine' Mine.endW0 ?ζF ?ζN ?ζo ?ζk ?_; (case ζF => k_asm); (case ζN => k_asm); (case ζo => k_all); (case ζk => k_subL))
      | (refine' Mine.endW1 ?ζF ?ζN ?ζx ?ζo ?ζk ?_; (case ζF => k_asm); (case ζN => k_asm); (case ζx => k_ne); (case ζo => k_all); (case ζk => k_subL))
      | (refine' Mine.endZ0 ?ζF ?ζN ?ζo ?ζk ?_; (case ζF => k_asm); (case ζN => k_asm); (case ζo => k_extra "mine lt"); (case ζk => k_subL))))
  (k_with "z compareOp Eq ref ref" => row_timed "z" (fail "z"; (k_here; k_dflt (first
      | (refine' Mine.eq_con ?ζN ?ζa ?ζb ?ζu ?ζsx ?ζsy ?ζr ?_; (case ζN => k_asm); (case ζa => k_mem); (case ζb => k_mem); (case ζu => k_extra "mine units"); (case ζsx => decide +kernel); (case ζsy => decide +kernel); (case ζr => first | exact decide_eq_true rfl | exact decide_eq_false (by decide)))
      | (refine' Mine.eq_lit ?ζN ?ζa ?ζb ?ζu _ ?ζr ?_; (case ζN => k_asm); (case ζa => k_mem); (case ζb => k_mem); (case ζu => k_extra "mine units"); (case ζr => first | exact decide_eq_true rfl | exact decide_eq_false (Ne.symm (by k_asm))))))))
  (k_with "z call type:zip" => (k_here; (with_reducible show wpAny _ _ (call (Value.type _) [Value.ref _, Value.ref _]) (fun xv s₁ => wpAny _ _ (pyIter xv) (fun it s₂ => TurnsAt _ _ _ _ _ _ _ _ _ it s₂) _ s₁) _ _); k_dflt (refine ktu_zip (by rfl) (by k_asm) (by k_asm) (by k_mem) rfl rfl (by k_mem) rfl rfl ?_); intro I' l1; (try k_lt l1)))
  (k_with "z call type:zip" => row_timed "z" (fail "z"; (k_here; (fail_if_success (with_reducible show wpAny _ _ (call (Value.type _) [Value.ref _, Value.ref _]) (fun xv s₁ => wpAny _ _ (pyIter xv) (fun it s₂ => TurnsAt _ _ _ _ _ _ _ _ _ it s₂) _ s₁) _ _)); k_dflt (refine' Mine.zip_N ?ζF ?ζN ?ζa ?ζb ?_; (case ζF => k_asm); (case ζN => k_asm); (case ζa => k_mem); (case ζb => k_mem)); intro i1 i2 TI TO z o1 o2 h' F' N' it1 it2 l1 l2 l3 l4 l5; (try k_lt l1))))
  (k_with "z call builtin:dict.update" => row_timed "z" (fail "z"; (k_here; k_dflt (refine' Mine.upd_zip ?ζhh ?ζF ?ζN ?ζd ?ζz ?ζt1 ?ζt2 ?ζm1 ?ζm2 ?ζl0 ?ζl1 ?ζl2 ?ζl3 ?ζl4 ?ζl5 ?_; (case ζhh => exact rfl); (case ζF => k_asm); (case ζN => k_asm); (case ζd => k_asm); (case ζz => rw [sizeLine_eq]; k_extra "mine small"); (case ζt1 => k_asm); (case ζt2 => k_asm); (case ζm1 => k_mem); (case ζm2 => k_mem); (case ζl0 => refine Mine.lt_all ?_; k_extra "mine lt"); (case ζl1 => omega); (case ζl2 => omega); (case ζl3 => omega); (case ζl4 => omega); (case ζl5 => omega)); intro h' o' tk' F' N' hd')))
  (k_with "z getMethod ref" => row_timed "z" (fail "z"; (k_here; (with_reducible show wpAny _ _ (getMethod (Value.ref _) (PySem.Str.ofString "update") _) _ _ _); k_dflt (refine' Mine.dictMethod ?ζN ?ζm ?ζd PySem.F.slot_dict_update PySem.F.type_dict_update ?_; (case ζN => k_asm); (case ζm => k_mem); (case ζd => k_asm)))))
  trivial
theorem Mine.rules_b : True := by
  (k_with "mine flat" => (skip; row_timed "z" (fail "z"; repeat (rename And _ _ => ζh9; obtain ⟨_, _⟩ := ζh9))))
  (k_with "mine off" => (skip; row_timed "z" (fail "z"; first | with_reducible assumption | exact Mine.ne_all (by with_reducible assumption) | exact Mine.ne_lt (by with_reducible assumption) | (refine Mine.ne_cons ?ζa ?ζb; (case ζa => k_extra "mine ne"); (case ζb => k_extra "mine off")) | (refine Mine.ne_app ?ζa ?ζb; (case ζa => first | with_reducible assumption | (refine' Mine.ne_all ?ζum; (case ζum => with_reducible assumption)) | (refine' Mine.ne_above ?ζum ?ζun; (case ζum => with_reducible assumption); (case ζun => k_mem))); (case ζb => k_extra "mine off")))))
  (k_with "mine off" => (guard_hyp tg0 : True; row_timed "z" (fail "z"; first | with_reducible assumption | exact Mine.ne_all (by with_reducible assumption) | exact Mine.ne_lt (by with_reducible assumption) | (refine Mine.ne_cons ?ζa ?ζb; (case ζa => k_extra "mine ne"); (case ζb => k_extra "mine off")) | (refine Mine.ne_app ?ζa ?ζb; (case ζa => first | with_reducible assumption | (refine' Mine.ne_left ?ζum; (case ζum => with_reducible assumption)) | (refine' Mine.ne_all ?ζum; (case ζum => with_reducible assumption)) | (refine' Mine.ne_above ?ζum ?ζun; (case ζum => with_reducible assumption); (case ζun => k_mem))); (case ζb => k_extra "mine off")))))
  (k_with "mine off" => (guard_hyp tg1 : True; row_timed "z" (fail "z"; first | with_reducible assumption | exact Mine.ne_all (by with_reducible assumption) | exact Mine.ne_lt (by with_reducible assumption) | (refine Mine.ne_cons ?ζa ?ζb; (case ζa => k_extra "mine ne"); (case ζb => k_extra "mine off")) | (refine Mine.ne_app ?ζa ?ζb; (case ζa => first | with_reducible assumption | (refine' Mine.ne_left ?ζum; (case ζum => with_reducible assumption)) | (refine' Mine.ne_all ?ζum; (case ζum => with_reducible assumption)) | (refine' Mine.ne_above ?ζum ?ζun; (case ζum => with_reducible assumption); (case ζun => k_mem))); (case ζb => k_extra "mine off")) | fail)))
  (k_with "mine off" => (guard_hyp tg2 : True; first | exact Mine.off1_ne (by with_reducible assumption) | exact Mine.ne_all1 (by with_reducible assumption) | exact Mine.ne_lt1 (by with_reducible assumption) | fail))
  (k_with "mine off" => (guard_hyp tg3 : True; row_timed "z" (fail "z"; first | exact Mine.ne_nil9 | ((refine Mine.ne_app ?ζa ?ζb); (case ζa => (refine' Mine.ne_left ?ζum; (case ζum => with_reducible assumption))); (case ζb => k_extra "mine off")) | fail)))
  (k_with "z subscriptTail Name Slice ref ref" => (guard_hyp tg4 : True; row_timed "z" (fail "z"; (k_here; (with_reducible show wpAny _ _ (subscriptTail _ (PySem.Expr.Slice none none (some _) _) (Value.ref _) (Value.ref _)) _ _ _); k_dflt (refine' krv_lit (its := List.toArray _) (zs := List.reverse _) ?ζkF ?ζkN ?ζkl ?ζkk ?ζke ?_ ?ζks ?ζkt ?ζkz; (case ζkF => k_asm); (case ζkN => k_asm); (case ζkl => exact Mine.isList_of (by k_asm) (by k_mem)); (case ζkk => exact IsPart.int _ _); (case ζke => rfl); (case ζks => with_unfolding_all rfl); (case ζkt => kmk_pure); (case ζkz => rw [sizeLine_eq, List.size_toArray]; first | omega | (simp only [List.length_cons, List.length_nil]; omega))); intro D' h' F' N' l1; (try k_lt l1)))))
  (k_with "z newTuple" => (guard_hyp tg4 : True; row_timed "z" (fail "z"; (k_here; k_dflt (refine' kup_newTuple ?ζF ?ζN ?_ ?ζz; (case ζF => k_asm); (case ζN => k_asm); (case ζz => kmk_size)); intro D' h' F' N' l1; (try k_lt l1)))))
  (k_with "mine ltv" => (skip; row_timed "z" (fail "z"; first | with_reducible assumption | exact Mine.lt_all (by with_reducible assumption) | (refine' Mine.lt_right ?ζhr9; (case ζhr9 => first | with_reducible assumption | exact Mine.lt_all (by with_reducible assumption))) | (refine' Mine.lt_pre ?ζhq9 ?ζhr9; (case ζhq9 => with_reducible assumption); (case ζhr9 => first | with_reducible assumption | exact Mine.lt_all (by with_reducible assumption))) | (refine' Mine.lt_step ?ζhs9 ?ζhb9; (case ζhs9 => with_reducible assumption); (case ζhb9 => k_extra "mine ltv")))))
  (k_with "mine ltv" => (guard_hyp tg5 : True; row_timed "z" (fail "z"; first | (refine' Mine.lt_ltsub ?ζhn9 ?ζhs9; (case ζhn9 => with_reducible assumption); (case ζhs9 => k_extra "mine sub")) | (refine' Mine.lt_allsub ?ζhn9 ?ζhs9; (case ζhn9 => with_reducible assumption); (case ζhs9 => k_extra "mine sub")) | fail)))
  (k_with "mine abv" => (skip; row_timed "z" (fail "z"; first | with_reducible assumption | (refine' Mine.off1_ne ?ζhn9; (case ζhn9 => with_reducible assumption)) | (refine' Mine.ne_all ?ζhn9; (case ζhn9 => with_reducible assumption)) | (refine' Mine.ne_lt ?ζhn9; (case ζhn9 => k_extra "mine ltv")) | (refine' Mine.ne_pre ?ζhq9 ?ζhr9; (case ζhq9 => with_reducible assumption); (case ζhr9 => first | with_reducible assumption | exact Mine.off1_ne (by with_reducible assumption))))))
  (k_with "mine abv" => (guard_hyp tg0 : True; row_timed "z" (fail "z"; first | (refine' Mine.ne_all1 ?ζhn9; (case ζhn9 => with_reducible assumption)) | (refine' Mine.ne_all2 ?ζhn9; (case ζhn9 => with_reducible assumption)) | (refine' Mine.ne_lt1 ?ζhn9; (case ζhn9 => with_reducible assumption)) | (refine' Mine.ne_lt2 ?ζhn9; (case ζhn9 => with_reducible assumption)) | (refine' Mine.off1_sub ?ζhn9 ?ζhs9; (case ζhn9 => with_reducible assumption); (case ζhs9 => k_extra "mine subs")))))
  (k_with "mine abv" => (guard_hyp tg5 : True; row_timed "z" (fail "z"; first | (refine' Mine.ne_all1 ?ζhn9; (case ζhn9 => with_reducible assumption)) | (refine' Mine.ne_all2 ?ζhn9; (case ζhn9 => with_reducible assumption)) | (refine' Mine.ne_lt1 ?ζhn9; (case ζhn9 => with_reducible assumption)) | (refine' Mine.ne_lt2 ?ζhn9; (case ζhn9 => with_reducible assumption)) | (refine' Mine.ne_ltsub ?ζhn9 ?ζhs9; (case ζhn9 => with_reducible assumption); (case ζhs9 => k_extra "mine sub")) | (refine' Mine.ne_allsub ?ζhn9 ?ζhs9; (case ζhn9 => with_reducible assumption); (case ζhs9 => k_extra "mine sub")) | (refine' Mine.off1_sub ?ζhn9 ?ζhs9; (case ζhn9 => with_reducible assumption); (case ζhs9 => k_extra "mine sub")) | fail)))
  (k_with "mine abv" => (guard_hyp tg2 : True; row_timed "z" (fail "z"; (refine Mine.ne_cons ?ζa ?ζb; (case ζa => k_extra "mine ne"); (case ζb => k_extra "mine off")))))
  (k_with "mine lt" => (skip; row_timed "z" (fail "z"; (refine' Mine.AllLt_app.mpr (And.intro ?ζhx9 ?ζhy9); (case ζhx9 => k_extra "mine lt"); (case ζhy9 => k_extra "mine lt")))))
  (k_with "k_all" => (guard_hyp tg0 : True; row_timed "z" (fail "z"; first | (refine' Mine.ne_lt1 ?ζhn9; (case ζhn9 => with_reducible assumption)) | (refine' Mine.ne_lt2 ?ζhn9; (case ζhn9 => with_reducible assumption)) | (refine' Mine.ne_all1 ?ζhn9; (case ζhn9 => with_reducible assumption)) | (refine' Mine.ne_all2 ?ζhn9; (case ζhn9 => with_reducible assumption)) | (refine' Mine.ne_lt1 ?ζhn9; (case ζhn9 => with_reducible assumption)) | (refine' Mine.ne_lt2 ?ζhn9; (case ζhn9 => with_reducible assumption)) | (refine' Mine.off1_sub ?ζhn9 ?ζhs9; (case ζhn9 => with_reducible assumption); (case ζhs9 => k_extra "mine subs")))))
  (k_with "mine sub" => (guard_hyp tg6 : True; row_timed "z" (fail "z"; first | ((with_reducible refine' Mine.sub_via ?ζs91 ?ζs92); (case ζs91 => with_reducible assumption); (case ζs92 => k_extra "mine subs")) | fail)))
  trivial
theorem Mine.rules_c : True := by
  (k_with "ktr_room" => first | k_extra "ar room" | fail)
  (k_with "mine units" => first | k_extra "ar room" | fail)
  (k_with "mine sub" => row_timed "z" (fail "z"; first | (refine' Mine.pre_sub ?ζhp9; (case ζhp9 => with_reducible assumption)) | with_reducible assumption | fail))
  (k_with "ar allw" => row_timed "z" (fail "z"; first
      | with_reducible assumption
      | (refine' Mine.allLt_sub ?ζh9 ?ζs9; (case ζh9 => with_reducible assumption); (case ζs9 => k_extra "ar sub"))
      | fail))
  (k_with "ar allt" => row_timed "z" (fail "z"; first
      | k_extra "ar allw"
      | exact True.intro
      | ((with_reducible refine' Mine.allLt_cons ?ζa9 ?ζb9); (case ζa9 => k_extra "ar lt"); (case ζb9 => k_extra "ar allt"))
      | ((with_reducible refine' Mine.allLt_app ?ζa9 ?ζb9); (case ζa9 => k_extra "ar allt"); (case ζb9 => k_extra "ar allt"))
      | fail))
  (k_with "mine lt" => first | k_extra "ar allt" | fail)
  (k_with "mine off" => first | k_extra "ar off" | fail)
  (k_with "mine abv" => first | k_extra "ar off" | fail)
  (k_with "mine ltv" => row_timed "z" (fail "z"; first | with_reducible assumption | (refine' Mine.lt_allsub ?ζhn9 ?ζhs9; (case ζhn9 => with_reducible assumption); (case ζhs9 => k_extra "ar sub")) | (refine' Mine.lt_allsubT ?ζhm9 ?ζhn9 ?ζhs9; (case ζhm9 => with_reducible assumption); (case ζhn9 => with_reducible assumption); (case ζhs9 => k_extra "ar sub")) | fail))
  (k_with "mine flat" => row_timed "z" (fail "z"; repeat ((first | (with_reducible rename And _ _ => ζh9) | (with_reducible rename SubL _ _ => ζh9)); obtain ⟨_, _⟩ := ζh9)))
  (k_with "mine enter" => row_timed "z" (fail "z"; (refine' Mine.enter0 ?ζB ?ζF ?ζX ?ζN ?ζT ?ζhk ?ζk6 ?ζk7 ?ζk8 ?ζk9 ?ζkB ?_ ?ζc2 ?ζc3 ?ζc4 ?ζc5; (case ζhk => first | k_asm | exact rfl); (case ζB => k_asm); (case ζF => k_asm); (case ζX => k_asm); (case ζN => k_asm); (case ζT => k_asm); (case ζk6 => k_is); (case ζk7 => k_is); (case ζk8 => ktr_room); (case ζk9 => exact BindsTo.of_eq rfl); (case ζc5 => decide); (case ζkB => exact locs rfl); (case ζc2 => exact rfl); (case ζc3 => exact rfl); (case ζc4 => exact rfl); k_whole; intro g' L' h' FG' m9 F' N' B' X' T' e9 A9 g9 d9 o9 Q9 tk9 R9)))
  (k_with "mine enterC" => row_timed "z" (fail "z"; (refine' Mine.enterC ?ζB ?ζF ?ζX ?ζN ?ζT ?ζhk ?ζk6 ?ζk7 ?ζk8 ?ζk9 ?ζkB ?ζkD ?_ ?ζc2 ?ζc3 ?ζc4; (case ζhk => first | k_asm | exact rfl); (case ζB => k_asm); (case ζF => k_asm); (case ζX => k_asm); (case ζN => k_asm); (case ζT => k_asm); (case ζk6 => k_is); (case ζk7 => k_is); (case ζk8 => ktr_room); (case ζk9 => exact BindsTo.of_eq rfl); (case ζkB => exact rfl); (case ζkD => decide +kernel); (case ζc2 => exact rfl); (case ζc3 => exact rfl); (case ζc4 => exact rfl); k_whole; intro g' L' h' cells' FG' m9 F' N' Y' B' X' T' l1 e9 A9 g9 d9 o9 Q9 tk9 R9; k_cells Y'; (try simp only [List.cons_append, List.nil_append] at N'))))
  (k_with "mine leave" => row_timed "z" (fail "z"; (k_dflt (first | refine' Mine.leave9 ?ζk0 ?ζk1 ?ζk2 ?_ | refine' Mine.leave9n ?ζk0 ?ζk1 ?ζk2 ?_); (case ζk0 => with_reducible assumption); (case ζk1 => k_asm); (case ζk2 => k_asm); intro kF kN; (try (have kX := kFor kF (by k_asm))); (try k_sweep))))
  (k_with "mine leave" => row_timed "z" (fail "z"; (k_dflt (refine' Mine.unbox ?ζk0 ?_); (case ζk0 => with_reducible assumption); (try dsimp only))))
  (k_with "mine boxS" => ((refine Mine.boxS ?_); intro g9 d9 o9 tk9 Q9 R9))
  (k_with "mine norm" => (first | ((with_reducible refine' Mine.normH ?_); intro tk9) | ((with_reducible refine' Mine.normS ?_); intro tk9) | fail))
  (k_with "mine fold" => first
  | ((with_reducible show wpAny _ _ (exec _ _) _ _ _); (fail_if_success (fail_if_success k_fold)); refine Mine.foldQ ?_; intro q9)
  | ((with_reducible show wpAny _ _ (eval _ _) _ _ _); (fail_if_success (with_reducible show wpAny _ _ (eval (PySem.Expr.Name _ _) _) _ _ _)); (fail_if_success (with_reducible show wpAny _ _ (eval (PySem.Expr.Constant _ _ _) _) _ _ _)); (fail_if_success (with_reducible show wpAny _ _ (eval (PySem.Expr.Attribute (PySem.Expr.Name _ _) _ _) _) _ _ _)); (fail_if_success (fail_if_success k_fold)); refine Mine.foldQ ?_; intro q9)
  | fail)
  (k_with "z subscriptTail Name Slice ref ref" => row_timed "z" (fail "z"; (k_here; k_dflt (refine' Mine.krv9 ?ζkF ?ζkN ?ζkl ?ζkk ?_ ?ζks ?ζkt ?ζkz; (case ζkF => k_asm); (case ζkN => k_asm); (case ζkl => k_mem); (case ζkk => exact IsPart.int _ _); (case ζks => with_unfolding_all rfl); (case ζkt => kmk_pure); (case ζkz => rw [sizeLine_eq]; first | omega | (simp only [List.length_cons, List.length_nil]; omega))); intro D' h' F' N' l1)))
  (k_with "z subscriptTail Subscript Slice ref ref" => row_timed "z" (fail "z"; (k_here; k_dflt (refine' Mine.krv9 ?ζkF ?ζkN ?ζkl ?ζkk ?_ ?ζks ?ζkt ?ζkz; (case ζkF => k_asm); (case ζkN => k_asm); (case ζkl => k_mem); (case ζkk => exact IsPart.int _ _); (case ζks => with_unfolding_all rfl); (case ζkt => kmk_pure); (case ζkz => rw [sizeLine_eq]; first | omega | (simp only [List.length_cons, List.length_nil]; omega))); intro D' h' F' N' l1)))
  (k_with "z subscriptTail Attribute Slice ref ref" => row_timed "z" (fail "z"; (k_here; k_dflt (refine' Mine.krv9 ?ζkF ?ζkN ?ζkl ?ζkk ?_ ?ζks ?ζkt ?ζkz; (case ζkF => k_asm); (case ζkN => k_asm); (case ζkl => k_mem); (case ζkk => exact IsPart.int _ _); (case ζks => with_unfolding_all rfl); (case ζkt => kmk_pure); (case ζkz => rw [sizeLine_eq]; first | omega | (simp only [List.length_cons, List.length_nil]; omega))); intro D' h' F' N' l1)))
  (k_with "mine units" => ((try dsimp (zetaDelta := true) only [units_in1, units_deeper, Around.mark_units, units_caller, ktrTop]); first | k_extra "ar room" | (have hcL9 := cLine_is; omega) | fail))
  (k_with "ktr_room" => ((try dsimp (zetaDelta := true) only [depth_under_make, depth_under_kw, depth_in1, depth_deeper, depth_caller, ktrTop]); first | k_extra "ar room" | omega | (simp only [recursionLimit] at *; omega) | fail))
  (k_with "units_room" => first | k_extra "mine units" | fail)
  (k_with "mine units" => ((try dsimp (zetaDelta := true) only [units_in1, units_deeper, Around.mark_units, units_caller, ktrTop]); first | k_extra "ar room" | k_extra "mine arith" | (have hcL9 := cLine_is; omega) | fail))
  (k_with "ktr_room" => ((try dsimp (zetaDelta := true) only [depth_under_make, depth_under_kw, depth_in1, depth_deeper, depth_caller, ktrTop]); first | k_extra "ar room" | k_extra "mine arith" | omega | (simp only [recursionLimit] at *; omega) | fail))
  trivial
theorem Mine.rules_d : True := by
  (k_with "z call ref" => (guard_hyp tg4 : True; row_timed "z" (fail "z"; (k_here; (with_reducible show wpAny _ _ (call (Value.ref 1271) _) _ _ _); k_dflt (refine' Mine.value_use ?ζB ?ζF ?ζX ?ζN ?ζT ?ζhk ?ζhc ?ζhe ?ζS ?ζhd ?ζhu ?_; (case ζB => k_asm); (case ζF => k_asm); (case ζX => k_asm); (case ζN => k_asm); (case ζT => k_asm); (case ζhk => exact rfl); (case ζhc => k_extra "mine core"); (case ζS => with_reducible assumption); (case ζhe => k_extra "mine env"); (case ζhd => ktr_room); (case ζhu => k_extra "mine units")); intro v' tl' h' tk' F' N' A' V'; (first | (obtain ⟨t9, e9⟩ := Mine.ValIn.int_inv V'; subst e9; clear V') | ((k_dflt (refine' Mine.exe6 (Mine.ValIn.con0_inv V') ?_); intro a9 li9 t91 t92 n91 n92 hz9; k_dflt (refine' Mine.ane3 hz9 ?_); clear hz9; intro e9 m91 m92); subst e9; clear V') | ((k_dflt (refine' Mine.exe13 (Mine.ValIn.con2_inv V') ?_); intro a9 li9 t91 t92 n91 n92 p9 q9 x9 y9 ev9 n93 n94 hz9; k_dflt (refine' Mine.ane8 hz9 ?_); clear hz9; intro e9 m91 m92 m93 m94 c91 c92 ce9); subst e9; clear V') | ((k_dflt (refine' Mine.exe8 (Mine.ValIn.fn_inv V') ?_); intro a9 li9 b9 ev9 t91 t92 n91 n92 hz9; k_dflt (refine' Mine.ane5 hz9 ?_); clear hz9; intro e9 m91 m92 c91 ce9); subst e9; clear V') | skip); (try dsimp only); (try k_fold)))))
  (k_with "z call ref" => (guard_hyp tg7 : True; row_timed "z" (fail "z"; (k_here; (with_reducible show wpAny _ _ (call (Value.ref 1245) _) _ _ _); k_dflt (refine' Mine.spec_use0 ?ζB ?ζF ?ζX ?ζN ?ζT ?ζhk (Mine.number_ok _ _ _ _ _ _ _ _ _ ?ζm1 ?ζs1) ?ζhd ?ζhu ?_; (case ζB => k_asm); (case ζF => k_asm); (case ζX => k_asm); (case ζN => k_asm); (case ζT => k_asm); (case ζhk => exact rfl); (case ζm1 => k_mem); (case ζs1 => k_asm); (case ζhd => ktr_room); (case ζhu => k_extra "mine units")); intro v9 h9 tk9 n9 F9 N9 P9; (k_dflt (refine' Mine.exe2 (P9) ?_); intro a9 tl9 hz9; k_dflt (refine' Mine.ane4 hz9 ?_); clear hz9; intro e91 e92 hc9 ha9; clear P9); subst e91; (replace e92 := Mine.Pre.eq e92); subst e92))))
  (k_with "z call ref" => (guard_hyp tg8 : True; row_timed "z" (fail "z"; (k_here; (with_reducible show wpAny _ _ (call (Value.ref 373) _) _ _ _); k_dflt (refine' Mine.spec_use0 ?ζB ?ζF ?ζX ?ζN ?ζT ?ζhk (Mine.parts_ok _ _ _ _ _ _ _ _ _ _ _ _ ?ζm1 ?ζm2 ?ζm3) ?ζhd ?ζhu ?_; (case ζB => k_asm); (case ζF => k_asm); (case ζX => k_asm); (case ζN => k_asm); (case ζT => k_asm); (case ζhk => exact rfl); (case ζm1 => k_mem); (case ζm2 => k_mem); (case ζm3 => k_mem); (case ζhd => ktr_room); (case ζhu => k_extra "mine units")); intro v9 h9 tk9 n9 F9 N9 P9; (k_dflt (refine' Mine.exe11 (P9) ?_); intro l9 t9 u9 e9 f9 z1 z2 z3 z4 z5 tl9 hz9; k_dflt (refine' Mine.ane8 hz9 ?_); clear hz9; intro e91 e92 p91 p92 p93 p94 p95 ha9; clear P9); subst e91; (replace e92 := Mine.Pre.eq e92); subst e92))))
  (k_with "z call ref" => (guard_hyp tg9 : True; row_timed "z" (fail "z"; (k_here; (with_reducible show wpAny _ _ (call (Value.ref 401) _) _ _ _); k_dflt (refine' Mine.spec_use0 ?ζB ?ζF ?ζX ?ζN ?ζT ?ζhk (Mine.fn_ok _ _ _ _ _ ?ζc0 ?ζn0 ?ζz0 ?ζf0) ?ζhd ?ζhu ?_; (case ζB => k_asm); (case ζF => k_asm); (case ζX => k_asm); (case ζN => k_asm); (case ζT => k_asm); (case ζhk => exact rfl); (case ζc0 => k_extra "mine core"); (case ζn0 => k_asm); (case ζz0 => k_asm); (case ζf0 => k_asm); (case ζhd => ktr_room); (case ζhu => k_extra "mine units")); intro v9 h9 tk9 n9 F9 N9 P9; (k_dflt (refine' Mine.exe5 (P9) ?_); intro l9 vs9 n91 xs9 tl9 hz9; k_dflt (refine' Mine.ane7 hz9 ?_); clear hz9; intro e91 hp9 m91 hs9 hx9 hl9 ha9; clear P9); subst e91; (replace hp9 := Mine.Pre.eq hp9); subst hp9; (rcases Mine.Strs.two hs9 hl9 with ⟨e93, e94⟩ | ⟨x93, t93, e93, e94⟩ | ⟨x93, t93, x94, t94, e93, e94⟩); (all_goals (subst e93; subst e94))))))
  (k_with "z call ref" => (guard_hyp tg10 : True; row_timed "z" (fail "z"; (k_here; (with_reducible show wpAny _ _ (call (Value.ref 1252) _) _ _ _); k_dflt (refine' Mine.spec_use0 ?ζB ?ζF ?ζX ?ζN ?ζT ?ζhk (Mine.csum_ok _ _ _ _ _ _ _ _ _ _ _ _ _ ?ζm0 ?ζm1 ?ζs1) ?ζhd ?ζhu ?_; (case ζB => k_asm); (case ζF => k_asm); (case ζX => k_asm); (case ζN => k_asm); (case ζT => k_asm); (case ζhk => exact rfl); (case ζm0 => k_mem); (case ζm1 => k_mem); (case ζs1 => k_asm); (case ζhd => ktr_room); (case ζhu => k_extra "mine units")); intro v9 h9 tk9 n9 F9 N9 P9; (k_dflt (refine' Mine.exe2 (P9) ?_); intro a9 tl9 hz9; k_dflt (refine' Mine.ane4 hz9 ?_); clear hz9; intro e91 e92 hc9 ha9; clear P9); subst e91; (replace e92 := Mine.Pre.eq e92); subst e92))))
  (k_with "z call ref" => (guard_hyp tg11 : True; row_timed "z" (fail "z"; (k_here; (refine' Mine.at_call ?ζi9 ?_; (case ζi9 => with_reducible assumption)); k_dflt (refine wpAny_call ?_; kla_enter)))))
  (k_with "z call ref" => (guard_hyp tg12 : True; row_timed "z" (fail "z"; (k_here; (refine' Mine.at_call ?ζi9 ?_; (case ζi9 => with_reducible assumption)); k_dflt (refine' Mine.spec_use0 ?ζB ?ζF ?ζX ?ζN ?ζT ?ζhk ?ζS ?ζhd ?ζhu ?_; (case ζB => k_asm); (case ζF => k_asm); (case ζX => k_asm); (case ζN => k_asm); (case ζT => k_asm); (case ζhk => exact rfl); (case ζS => with_reducible assumption); (case ζhd => (dsimp only [ktrTop] at *; omega)); (case ζhu => k_extra "mine units")); intro v9 h9 tk9 n9 F9 N9 P9; (k_dflt (refine' Mine.exe7 (P9) ?_); intro a9 r9 tl9 o9 kvs9 T19 T29 hz9; k_dflt (refine' Mine.ane9 hz9 ?_); clear hz9; intro e91 e92 hp9 O9 D9 M9 X9 Y9 C9; clear P9); subst e91; subst e92; (replace hp9 := Mine.Pre.eq hp9); subst hp9))))
  (k_with "z call ref" => (guard_hyp tg13 : True; row_timed "z" (fail "z"; (k_here; (with_reducible show wpAny _ _ (call (Value.ref 1252) _) _ _ _); k_dflt (refine' Mine.spec_use0 ?ζB ?ζF ?ζX ?ζN ?ζT ?ζhk (Mine.cless_ok _ _ _ _ _ _ _ _ _ _ _ _ _ ?ζm0 ?ζm1 ?ζs1) ?ζhd ?ζhu ?_; (case ζB => k_asm); (case ζF => k_asm); (case ζX => k_asm); (case ζN => k_asm); (case ζT => k_asm); (case ζhk => exact rfl); (case ζm0 => k_mem); (case ζm1 => k_mem); (case ζs1 => k_asm); (case ζhd => ktr_room); (case ζhu => k_extra "mine units")); intro v9 h9 tk9 n9 F9 N9 P9; (k_dflt (refine' Mine.exe2 (P9) ?_); intro a9 tl9 hz9; k_dflt (refine' Mine.ane4 hz9 ?_); clear hz9; intro e91 e92 hc9 ha9; clear P9); subst e91; (replace e92 := Mine.Pre.eq e92); subst e92))))
  (k_with "z call ref" => (guard_hyp tg14 : True; row_timed "z" (fail "z"; (k_here; (with_reducible show wpAny _ _ (call (Value.ref 1110) _) _ _ _); k_dflt (refine' Mine.told_use ?ζB ?ζF ?ζX ?ζN ?ζT ?ζhk ?ζD1 ?ζD2 ?ζD3 (‹∀ j rest, Mine.ToldSpec _ _ _ _ j rest› _ _) ?ζc1 ?ζc2 ?ζc3 ?ζc4 ?ζc5 ?ζc6 ?ζc7 ?ζc8 ?ζc9 ?ζc10 ?ζc11 ?ζc12 ?ζc13 ?ζc14 ?ζc15 ?ζc16 ?ζhd ?ζhu ?_; (case ζB => k_asm); (case ζF => k_asm); (case ζX => k_asm); (case ζN => k_asm); (case ζT => k_asm); (case ζhk => exact rfl); (case ζc2 => k_asm); (case ζD1 => k_extra "mine drop"); (case ζc3 => k_asm); (case ζD2 => k_extra "mine drop"); (case ζD3 => k_extra "mine drop"); (case ζc7 => (refine' Mine.TabSt.mono ?ζsb ?ζtt; (case ζtt => with_reducible assumption); (case ζsb => k_extra "mine sub"))); (case ζc1 => (k_extra "mine flat"; k_extra "mine offM")); (case ζc4 => k_asm); (case ζc5 => omega); (case ζc6 => omega); (case ζc8 => (refine' Mine.TabSt.mono ?ζsb ?ζtt; (case ζtt => with_reducible assumption); (case ζsb => k_extra "mine sub"))); (case ζc9 => (refine' Mine.MakerIn.mono ?ζsb ?ζtt; (case ζtt => with_reducible assumption); (case ζsb => k_extra "mine sub"))); (case ζc10 => (refine' Mine.SumIn.mono ?ζsb ?ζtt; (case ζtt => with_reducible assumption); (case ζsb => k_extra "mine sub"))); (case ζc11 => k_mem); (case ζc12 => (exact (List.append_cons _ _ _))); (case ζc13 => simp); (case ζc14 => (refine' Mine.Stats.mono ?ζsb ?ζtt; (case ζtt => with_reducible assumption); (case ζsb => k_extra "mine sub"))); (case ζc15 => (simp only [List.length_append, List.length_cons, List.length_nil]; omega)); (case ζc16 => k_extra "mine core"); (case ζhd => ktr_room); (case ζhu => k_extra "mine units")); intro a9 tl9 o9 kvs9 T19 T29 h9 tk9 F9 N9 O9 D9 M9 X9 Y9 C9))))
  (k_with "z call ref" => (guard_hyp tg13 : True; row_timed "z" (fail "z"; (k_here; (with_reducible show wpAny _ _ (call (Value.ref 1217) _) _ _ _); (rename Mine.NumSt _ _ _ => ζhns9; obtain ⟨n9, hn9, lo9, hi9⟩ := Mine.NumSt.truth ζhns9; have hz9 := Mine.NumSt.len ζhns9); k_dflt (refine' Mine.next_use ?ζB ?ζF ?ζX ?ζN ?ζT ?ζhk ?ζD1 ?ζc1 ?ζoff ?ζc3 ?ζc4 ?ζc5 ?ζc6 ?ζc7 ?ζc8 ?ζc9 ?ζc10 ?ζhd ?ζhu ?_; (case ζB => k_asm); (case ζF => k_asm); (case ζX => k_asm); (case ζN => k_asm); (case ζT => k_asm); (case ζhk => exact rfl); (case ζc10 => k_asm); (case ζD1 => k_extra "mine drop"); (case ζc3 => k_asm); (case ζc1 => (refine' Mine.FreshIn.mono ?ζsb ?ζtt; (case ζtt => with_reducible assumption); (case ζsb => k_extra "mine sub"))); (case ζoff => (k_extra "mine flat"; k_extra "mine offnd")); (case ζc4 => k_asm); (case ζc5 => omega); (case ζc6 => decide +kernel); (case ζc7 => decide); (case ζc8 => k_asm); (case ζc9 => omega); (case ζhd => ktr_room); (case ζhu => k_extra "mine units")); intro t9 t9' o9 h9 tk9 F9 N9 D9; (replace ζhns9 := Mine.NumSt.truthS (t := t9') ζhns9 lo9 hi9); clear hn9 lo9 hi9 hz9))))
  (k_with "z call ref" => (guard_hyp tg15 : True; row_timed "z" (fail "z"; (k_here; (with_reducible show wpAny _ _ (call (Value.ref 1070) _) _ _ _); k_dflt (refine' Mine.spec_useD1 (p₁ := (1041, tabObj _)) ?ζB ?ζF ?ζX ?ζN ?ζT ?ζhk ?ζD (Mine.bp_ok _ _ _ _ ?ζs0 _ _ _ _ _ _ _ ?ζoff ?ζt2 ?ζmk ?ζfb) ?ζhd ?ζhu ?_; (case ζB => k_asm); (case ζF => k_asm); (case ζX => k_asm); (case ζN => k_asm); (case ζT => k_asm); (case ζhk => exact rfl); (case ζD => k_extra "mine drop"); (case ζt2 => k_asm); (case ζs0 => k_extra "mine subs"); (case ζoff => (k_extra "mine flat"; k_extra "mine off")); (case ζmk => (refine' Mine.MakerIn.mono ?ζsb ?ζtt; (case ζtt => k_asm); (case ζsb => k_extra "mine subs"))); (case ζfb => (refine' Mine.FBIn.mono ?ζsb ?ζtt; (case ζtt => k_asm); (case ζsb => k_extra "mine subs"))); (case ζhd => ktr_room); (case ζhu => k_extra "mine units")); intro v9 h9 tk9 n9 F9 N9 P9; (k_dflt (refine' Mine.exe9 (P9) ?_); intro l9 r9 tl9 T29 t9 tx9 c9 n91 n92 hz9; k_dflt (refine' Mine.ane9 hz9 ?_); clear hz9; intro e91 e92 hp9 ha9 ho9 ht9 m91 m92 hc9; clear P9); subst e91; subst e92; (replace hp9 := Mine.Pre.eq hp9); subst hp9))))
  (k_with "z call ref" => (guard_hyp tg16 : True; row_timed "z" (fail "z"; (k_here; (with_reducible show wpAny _ _ (call (Value.ref 1082) _) _ _ _); k_dflt (refine' Mine.spec_use0 ?ζB ?ζF ?ζX ?ζN ?ζT ?ζhk (Mine.rnd_ok _ _ _ _ _ _ _ _ _ _ _ ?ζm1 ?ζm2 ?ζc0 ?ζn0 ?ζz0 ?ζf0 ?ζx0) ?ζhd ?ζhu ?_; (case ζB => k_asm); (case ζF => k_asm); (case ζX => k_asm); (case ζN => k_asm); (case ζT => k_asm); (case ζhk => exact rfl); (case ζm1 => k_mem); (case ζm2 => k_mem); (case ζc0 => k_extra "mine corem"); (case ζn0 => k_asm); (case ζz0 => k_asm); (case ζf0 => k_asm); (case ζx0 => k_asm); (case ζhd => ktr_room); (case ζhu => k_extra "mine units")); intro v9 h9 tk9 n9 F9 N9 P9; obtain ⟨tl9, e91, hp9, ha9⟩ := P9; subst e91; (replace hp9 := Mine.Pre.eq hp9); subst hp9))))
  (k_with "z call ref" => (guard_hyp tg16 : True; row_timed "z" (fail "z"; (k_here; (with_reducible show wpAny _ _ (call (Value.ref 1077) _) _ _ _); k_dflt (refine' Mine.spec_useD1 (p₁ := (1041, tabObj _)) ?ζB ?ζF ?ζX ?ζN ?ζT ?ζhk ?ζD (Mine.gp_ok _ _ _ _ ?ζs0 _ _ _ _ _ _ _ _ _ ?ζoff ?ζt2 ?ζmk ?ζmg ?ζfb) ?ζhd ?ζhu ?_; (case ζB => k_asm); (case ζF => k_asm); (case ζX => k_asm); (case ζN => k_asm); (case ζT => k_asm); (case ζhk => exact rfl); (case ζD => k_extra "mine drop"); (case ζt2 => k_asm); (case ζs0 => k_extra "mine subs"); (case ζoff => (k_extra "mine flat"; k_extra "mine off")); (case ζmk => (refine' Mine.MakerIn.mono ?ζsb ?ζtt; (case ζtt => k_asm); (case ζsb => k_extra "mine subs"))); (case ζmg => k_mem); (case ζfb => (refine' Mine.FBIn.mono ?ζsb ?ζtt; (case ζtt => k_asm); (case ζsb => k_extra "mine subs"))); (case ζhd => ktr_room); (case ζhu => k_extra "mine units")); intro v9 h9 tk9 n9 F9 N9 P9; (k_dflt (refine' Mine.exe9 (P9) ?_); intro l9 r9 tl9 T29 t9 tx9 c9 n91 n92 hz9; k_dflt (refine' Mine.ane9 hz9 ?_); clear hz9; intro e91 e92 hp9 ha9 ho9 ht9 m91 m92 hc9; clear P9); subst e91; subst e92; (replace hp9 := Mine.Pre.eq hp9); subst hp9))))
  (k_with "z call ref" => (guard_hyp tg17 : True; row_timed "z" (fail "z"; (k_here; (with_reducible show wpAny _ _ (call (Value.ref 1096) _) _ _ _); k_dflt (refine' Mine.spec_useD1 (p₁ := (1041, tabObj _)) ?ζB ?ζF ?ζX ?ζN ?ζT ?ζhk ?ζD (Mine.bound_ok _ _ _ _ ?ζs0 _ _ _ _ _ _ _ _ _ ?ζoff ?ζt2 ?ζmk ?ζb ?ζl2 ?ζxn ?ζcb) ?ζhd ?ζhu ?_; (case ζB => k_asm); (case ζF => k_asm); (case ζX => k_asm); (case ζN => k_asm); (case ζT => k_asm); (case ζhk => exact rfl); (case ζD => k_extra "mine drop"); (case ζt2 => k_asm); (case ζs0 => k_extra "mine subs"); (case ζoff => k_extra "mine off41"); (case ζmk => (refine' Mine.MakerIn.mono ?ζsb ?ζtt; (case ζtt => k_asm); (case ζsb => k_extra "mine subs"))); (case ζb => (refine' Mine.BindsIn.mono ?ζsb ?ζtt; (case ζtt => k_asm); (case ζsb => k_extra "mine subs"))); (case ζl2 => k_asm); (case ζxn => k_asm); (case ζcb => with_reducible assumption); (case ζhd => ktr_room); (case ζhu => k_extra "mine units")); intro v9 h9 tk9 n9 F9 N9 P9; (k_dflt (refine' Mine.exe4 (P9) ?_); intro l9 r9 tl9 T29 hz9; k_dflt (refine' Mine.ane7 hz9 ?_); clear hz9; intro e91 e92 hp9 ha9 ho9 ht9 hc9; clear P9); subst e91; subst e92; (replace hp9 := Mine.Pre.eq hp9); subst hp9))))
  (k_with "z call ref" => (guard_hyp tg18 : True; row_timed "z" (fail "z"; (k_here; (with_reducible show wpAny _ _ (call (Value.ref 1252) _) _ _ _); k_dflt (refine' Mine.spec_use0 ?ζB ?ζF ?ζX ?ζN ?ζT ?ζhk (Mine.clist_ok _ _ _ _ _ _ _ _ _ _ _ ?ζm0 ?ζm1 ?ζs1 ?ζz1) ?ζhd ?ζhu ?_; (case ζB => k_asm); (case ζF => k_asm); (case ζX => k_asm); (case ζN => k_asm); (case ζT => k_asm); (case ζhk => exact rfl); (case ζm0 => k_mem); (case ζm1 => k_mem); (case ζs1 => (refine' Mine.Its.mono ?ζsb ?ζtt; (case ζtt => k_asm); (case ζsb => k_extra "mine subs"))); (case ζz1 => k_asm); (case ζhd => ktr_room); (case ζhu => k_extra "mine units")); intro v9 h9 tk9 n9 F9 N9 P9; (k_dflt (refine' Mine.exe2 (P9) ?_); intro a9 tl9 hz9; k_dflt (refine' Mine.ane4 hz9 ?_); clear hz9; intro e91 e92 hc9 ha9; clear P9); subst e91; (replace e92 := Mine.Pre.eq e92); subst e92))))
  (k_with "z call ref" => (guard_hyp tg19 : True; row_timed "z" (fail "z"; (k_here; (with_reducible show wpAny _ _ (call (Value.ref 1217) [_, Value.str (PySem.Str.ofString "loop") _]) _ _ _); (rename Mine.NumQ _ _ _ _ _ _ _ => ζhq9; have hz9 := ζhq9.len); k_dflt (refine' Mine.next_use ?ζB ?ζF ?ζX ?ζN ?ζT ?ζhk ?ζD1 ?ζc1 ?ζoff ?ζc3 (Mine.NumQ.loop ζhq9) ?ζc5 ?ζc6 ?ζc7 ?ζc8 ?ζc9 ?ζc10 ?ζhd ?ζhu ?_; (case ζB => k_asm); (case ζF => k_asm); (case ζX => k_asm); (case ζN => k_asm); (case ζT => k_asm); (case ζhk => exact rfl); (case ζc10 => k_asm); (case ζD1 => k_extra "mine drop"); (case ζc3 => k_asm); (case ζc1 => (refine' Mine.FreshIn.mono ?ζsb ?ζtt; (case ζtt => k_asm); (case ζsb => k_extra "mine subs"))); (case ζoff => (k_extra "mine flat"; k_extra "mine offnd")); (case ζc5 => omega); (case ζc6 => decide +kernel); (case ζc7 => decide); (case ζc8 => omega); (case ζc9 => omega); (case ζhd => ktr_room); (case ζhu => k_extra "mine units")); intro t9 t9' o9 h9 tk9 F9 N9 D9; (replace ζhq9 := Mine.NumQ.setLoop (t := t9') ζhq9); clear hz9))))
  (k_with "z call ref" => (guard_hyp tg19 : True; row_timed "z" (fail "z"; (k_here; (with_reducible show wpAny _ _ (call (Value.ref 1217) [_, Value.str (PySem.Str.ofString "items") _]) _ _ _); (rename Mine.NumQ _ _ _ _ _ _ _ => ζhq9; have hz9 := ζhq9.len); k_dflt (refine' Mine.next_use ?ζB ?ζF ?ζX ?ζN ?ζT ?ζhk ?ζD1 ?ζc1 ?ζoff ?ζc3 (Mine.NumQ.items ζhq9) ?ζc5 ?ζc6 ?ζc7 ?ζc8 ?ζc9 ?ζc10 ?ζhd ?ζhu ?_; (case ζB => k_asm); (case ζF => k_asm); (case ζX => k_asm); (case ζN => k_asm); (case ζT => k_asm); (case ζhk => exact rfl); (case ζc10 => k_asm); (case ζD1 => k_extra "mine drop"); (case ζc3 => k_asm); (case ζc1 => (refine' Mine.FreshIn.mono ?ζsb ?ζtt; (case ζtt => k_asm); (case ζsb => k_extra "mine subs"))); (case ζoff => (k_extra "mine flat"; k_extra "mine offnd")); (case ζc5 => omega); (case ζc6 => decide +kernel); (case ζc7 => decide); (case ζc8 => omega); (case ζc9 => omega); (case ζhd => ktr_room); (case ζhu => k_extra "mine units")); intro t9 t9' o9 h9 tk9 F9 N9 D9; (replace ζhq9 := Mine.NumQ.setItems (t := t9') ζhq9); clear hz9))))
  (k_with "z call ref" => (guard_hyp tg19 : True; row_timed "z" (fail "z"; (k_here; (with_reducible show wpAny _ _ (call (Value.ref 1217) [_, Value.str (PySem.Str.ofString "item") _]) _ _ _); (rename Mine.NumQ _ _ _ _ _ _ _ => ζhq9; have hz9 := ζhq9.len); k_dflt (refine' Mine.next_use ?ζB ?ζF ?ζX ?ζN ?ζT ?ζhk ?ζD1 ?ζc1 ?ζoff ?ζc3 (Mine.NumQ.item ζhq9) ?ζc5 ?ζc6 ?ζc7 ?ζc8 ?ζc9 ?ζc10 ?ζhd ?ζhu ?_; (case ζB => k_asm); (case ζF => k_asm); (case ζX => k_asm); (case ζN => k_asm); (case ζT => k_asm); (case ζhk => exact rfl); (case ζc10 => k_asm); (case ζD1 => k_extra "mine drop"); (case ζc3 => k_asm); (case ζc1 => (refine' Mine.FreshIn.mono ?ζsb ?ζtt; (case ζtt => k_asm); (case ζsb => k_extra "mine subs"))); (case ζoff => (k_extra "mine flat"; k_extra "mine offnd")); (case ζc5 => omega); (case ζc6 => decide +kernel); (case ζc7 => decide); (case ζc8 => omega); (case ζc9 => omega); (case ζhd => ktr_room); (case ζhu => k_extra "mine units")); intro t9 t9' o9 h9 tk9 F9 N9 D9; (replace ζhq9 := Mine.NumQ.setItem (t := t9') ζhq9); clear hz9))))
  (k_with "z call ref" => (guard_hyp tg19 : True; row_timed "z" (fail "z"; (k_here; (with_reducible show wpAny _ _ (call (Value.ref 1217) [_, Value.str (PySem.Str.ofString "more") _]) _ _ _); (rename Mine.NumQ _ _ _ _ _ _ _ => ζhq9; have hz9 := ζhq9.len); k_dflt (refine' Mine.next_use ?ζB ?ζF ?ζX ?ζN ?ζT ?ζhk ?ζD1 ?ζc1 ?ζoff ?ζc3 (Mine.NumQ.more ζhq9) ?ζc5 ?ζc6 ?ζc7 ?ζc8 ?ζc9 ?ζc10 ?ζhd ?ζhu ?_; (case ζB => k_asm); (case ζF => k_asm); (case ζX => k_asm); (case ζN => k_asm); (case ζT => k_asm); (case ζhk => exact rfl); (case ζc10 => k_asm); (case ζD1 => k_extra "mine drop"); (case ζc3 => k_asm); (case ζc1 => (refine' Mine.FreshIn.mono ?ζsb ?ζtt; (case ζtt => k_asm); (case ζsb => k_extra "mine subs"))); (case ζoff => (k_extra "mine flat"; k_extra "mine offnd")); (case ζc5 => omega); (case ζc6 => decide +kernel); (case ζc7 => decide); (case ζc8 => omega); (case ζc9 => omega); (case ζhd => ktr_room); (case ζhu => k_extra "mine units")); intro t9 t9' o9 h9 tk9 F9 N9 D9; (replace ζhq9 := Mine.NumQ.setMore (t := t9') ζhq9); clear hz9))))
  (k_with "z call ref" => (guard_hyp tg20 : True; row_timed "z" (fail "z"; (k_here; (with_reducible show wpAny _ _ (call (Value.ref 1217) [_, Value.str (PySem.Str.ofString "worked") _]) _ _ _); (rename Mine.NumSt _ _ _ => ζhns9; obtain ⟨n9, hn9, lo9, hi9⟩ := Mine.NumSt.worked ζhns9; have hz9 := Mine.NumSt.len ζhns9); k_dflt (refine' Mine.next_use ?ζB ?ζF ?ζX ?ζN ?ζT ?ζhk ?ζD1 ?ζc1 ?ζoff ?ζc3 hn9 ?ζc5 ?ζc6 ?ζc7 ?ζc8 ?ζc9 ?ζc10 ?ζhd ?ζhu ?_; (case ζB => k_asm); (case ζF => k_asm); (case ζX => k_asm); (case ζN => k_asm); (case ζT => k_asm); (case ζhk => exact rfl); (case ζc10 => k_asm); (case ζD1 => k_extra "mine drop"); (case ζc3 => k_asm); (case ζc1 => (refine' Mine.FreshIn.mono ?ζsb ?ζtt; (case ζtt => k_asm); (case ζsb => k_extra "mine subs"))); (case ζoff => (k_extra "mine flat"; k_extra "mine offnd")); (case ζc5 => omega); (case ζc6 => decide +kernel); (case ζc7 => decide); (case ζc8 => k_asm); (case ζc9 => omega); (case ζhd => ktr_room); (case ζhu => k_extra "mine units")); intro t9 t9' o9 h9 tk9 F9 N9 D9; (replace ζhns9 := Mine.NumSt.workedS (t := t9') ζhns9 lo9 hi9); clear hn9 lo9 hi9 hz9))))
  (k_with "z call ref" => (guard_hyp tg6 : True; row_timed "z" (fail "z"; (k_here; (with_reducible show wpAny _ _ (call (Value.ref 1259) _) _ _ _); (rename Mine.NumQ _ _ _ _ _ _ _ => ζhq9); (k_extra "mine flat"); k_dflt (refine' Mine.matched_use ?ζB ?ζF ?ζX ?ζN ?ζT ?ζhk ?ζD1 ?ζD2 ?ζD3 ?ζhlam ?ζsub ?ζc1 ?ζc3 ζhq9 ?ζhe ?ζh0 ?ζh1 ?ζc5 ?ζc7 ?ζc8 ?ζhnl ?ζhrl ?ζhrow ?ζhrd ?ζhpl ?ζhpa ?ζhf ?ζhfn ?ζhfa ?ζhd ?ζhu ?_; (case ζB => k_asm); (case ζF => k_asm); (case ζX => k_asm); (case ζN => k_asm); (case ζT => k_asm); (case ζhk => exact rfl); (case ζhlam => with_reducible assumption); (case ζD1 => k_extra "mine drop"); (case ζD2 => k_extra "mine drop"); (case ζD3 => k_extra "mine drop"); (case ζsub => k_extra "mine subs"); (case ζc1 => k_extra "mine offM"); (case ζc3 => k_asm); (case ζhe => omega); (case ζh0 => omega); (case ζh1 => omega); (case ζc5 => omega); (case ζc7 => (refine' Mine.TabSt.mono ?ζsb ?ζtt; (case ζtt => k_asm); (case ζsb => k_extra "mine subs"))); (case ζc8 => (refine' Mine.TabSt.mono ?ζsb ?ζtt; (case ζtt => k_asm); (case ζsb => k_extra "mine subs"))); (case ζhrl => k_mem); (case ζhrow => k_mem); (case ζhrd => k_mem); (case ζhpl => k_mem); (case ζhnl => k_mem); (case ζhpa => (refine' Mine.PatIn.mono ?ζsb ?ζtt; (case ζtt => k_asm); (case ζsb => k_extra "mine subs"))); (case ζhfn => with_reducible assumption); (case ζhf => k_mem); (case ζhfa => k_extra "mine corem"); (case ζhd => ktr_room); (case ζhu => k_extra "mine units")); intro a9 tl9 o9 kvs9 T19 T29 h9 tk9 F9 N9 O9 D9 M9 X9 Y9 C9))))
  (k_with "z call ref" => (guard_hyp tg6 : True; row_timed "z" (fail "z"; (k_here; (with_reducible show wpAny _ _ (call (Value.ref 1166) _) _ _ _); (rename Mine.NumSt _ _ _ => ζhns9); k_dflt (refine' Mine.spec_useD ?ζnn ?ζB ?ζF ?ζX ?ζN ?ζT ?ζhk ?ζD (Mine.lc_ok _ _ _ _ ?ζs0 _ _ _ _ _ _ _ _ _ _ _ _ _ _ _ _ ?ζoff ?ζnd9 ?ζdd9 ζhns9 ?ζu25 ?ζmk9 ?ζc1 ?ζc2) ?ζhd ?ζhu ?_; (case ζB => k_asm); (case ζF => k_asm); (case ζX => k_asm); (case ζN => k_asm); (case ζT => k_asm); (case ζhk => exact rfl); (case ζdd9 => k_asm); (case ζD => k_extra "mine drop"); (case ζnn => k_asm); (case ζc2 => with_reducible assumption); (case ζc1 => k_extra "mine corem"); (case ζs0 => k_extra "mine subs"); (case ζoff => k_extra "mine offnd"); (case ζnd9 => k_asm);  (case ζu25 => omega); (case ζmk9 => (refine' Mine.MakerIn.mono ?ζsb ?ζtt; (case ζtt => k_asm); (case ζsb => k_extra "mine subs"))); (case ζhd => ktr_room); (case ζhu => k_extra "mine units")); intro v9 h9 tk9 n9 F9 N9 P9; (k_dflt (refine' Mine.exe5 (P9) ?_); intro a9 r9 tl9 o9 kvs9 hz9; k_dflt (refine' Mine.ane8 hz9 ?_); clear hz9; intro e91 e92 hp9 ha9 ho9 D9 M9 C9; clear P9); subst e91; subst e92; (replace hp9 := Mine.Pre.eq hp9); subst hp9))))
  (k_with "z call ref" => (guard_hyp tg18 : True; row_timed "z" (fail "z"; (k_here; (with_reducible show wpAny _ _ (call (Value.ref 1117) _) _ _ _); (rename Mine.NumQ _ _ _ _ _ _ _ => ζhq9); (k_extra "mine flat"); k_dflt (refine' Mine.lb_use ?ζih ?ζB ?ζF ?ζX ?ζN ?ζT ?ζhk ?ζD1 ?ζD2 ?ζD3 ?ζoff ?ζhnd ?ζhdo ζhq9 ?ζhj0 ?ζhu25 ?ζhj10 ?ζhT1 ?ζhT2 ?ζhmk9 ?ζhex ?ζhst ?ζhss ?ζhpl ?ζhra ?ζhpa ?ζhd ?ζhu ?_; (case ζih => with_reducible assumption); (case ζB => k_asm); (case ζF => k_asm); (case ζX => k_asm); (case ζN => k_asm); (case ζT => k_asm); (case ζhk => exact rfl); (case ζhdo => k_asm); (case ζD1 => k_extra "mine drop"); (case ζD2 => k_extra "mine drop"); (case ζD3 => k_extra "mine drop"); (case ζoff => k_extra "mine offM"); (case ζhnd => k_asm); (case ζhj0 => omega); (case ζhu25 => omega); (case ζhj10 => omega); (case ζhT1 => (refine' Mine.TabSt.mono ?ζsb ?ζtt; (case ζtt => k_asm); (case ζsb => k_extra "mine subs"))); (case ζhT2 => (refine' Mine.TabSt.mono ?ζsb ?ζtt; (case ζtt => k_asm); (case ζsb => k_extra "mine subs"))); (case ζhmk9 => (refine' Mine.MakerIn.mono ?ζsb ?ζtt; (case ζtt => k_asm); (case ζsb => k_extra "mine subs"))); (case ζhex => (refine' Mine.SumIn.mono ?ζsb ?ζtt; (case ζtt => k_asm); (case ζsb => k_extra "mine subs"))); (case ζhst => k_mem); (case ζhss => (refine' Mine.Stats.mono ?ζsb ?ζtt; (case ζtt => k_asm); (case ζsb => k_extra "mine subs"))); (case ζhpl => omega); (case ζhra => k_extra "mine corem"); (case ζhpa => (refine' Mine.PatIn.mono ?ζsb ?ζtt; (case ζtt => k_asm); (case ζsb => k_extra "mine subs"))); (case ζhd => ktr_room); (case ζhu => k_extra "mine units")); intro a9 tl9 o9 kvs9 T19 T29 h9 tk9 F9 N9 O9 D9 M9 X9 Y9 C9))))
  (k_with "z call ref" => (guard_hyp tg5 : True; row_timed "z" (fail "z"; (k_here; (with_reducible show wpAny _ _ (call (Value.ref 1271) _) _ _ _); k_dflt (refine' Mine.val_use ?ζB ?ζF ?ζX ?ζS0 ?ζN ?ζP ?ζT ?ζhk ?ζhc ?ζhe ?ζS ?ζhd ?ζhu ?_; (case ζB => k_asm); (case ζF => k_asm); (case ζX => k_asm); (case ζS0 => with_reducible assumption); (case ζN => k_asm); (case ζT => k_asm); (case ζhk => exact rfl); (case ζP => k_extra "mine pre"); (case ζhc => k_extra "mine core"); (case ζS => with_reducible assumption); (case ζhe => k_extra "mine env"); (case ζhd => ktr_room); (case ζhu => k_extra "mine units")); intro v' tl' h' tk' F' N' A' sbX V'; (first | (obtain ⟨t9, e9⟩ := Mine.ValIn.int_inv V'; subst e9; clear V') | ((k_dflt (refine' Mine.exe6 (Mine.ValIn.con0_inv V') ?_); intro a9 li9 t91 t92 n91 n92 hz9; k_dflt (refine' Mine.ane3 hz9 ?_); clear hz9; intro e9 m91 m92); subst e9; clear V') | ((k_dflt (refine' Mine.exe13 (Mine.ValIn.con2_inv V') ?_); intro a9 li9 t91 t92 n91 n92 p9 q9 x9 y9 ev9 n93 n94 hz9; k_dflt (refine' Mine.ane8 hz9 ?_); clear hz9; intro e9 m91 m92 m93 m94 c91 c92 ce9); subst e9; clear V') | ((k_dflt (refine' Mine.exe8 (Mine.ValIn.fn_inv V') ?_); intro a9 li9 b9 ev9 t91 t92 n91 n92 hz9; k_dflt (refine' Mine.ane5 hz9 ?_); clear hz9; intro e9 m91 m92 c91 ce9); subst e9; clear V') | skip); (try dsimp only); (try k_fold)))))
  (k_with "z call ref" => (guard_hyp tg1 : True; row_timed "z" (fail "z"; (k_here; (with_reducible show wpAny _ _ (call (Value.ref 1271) _) _ _ _); k_dflt (refine' Mine.val_useL ?ζB ?ζF ?ζX ?ζN ?ζD ?ζT ?ζhk ?ζhc ?ζhe ?ζS ?ζhd ?ζhu ?_; (case ζB => k_asm); (case ζF => k_asm); (case ζX => k_asm); (case ζN => k_asm); (case ζT => k_asm); (case ζhk => exact rfl); (case ζD => k_extra "mine drop"); (case ζhc => k_extra "mine core"); (case ζS => with_reducible assumption); (case ζhe => k_extra "mine env"); (case ζhd => ktr_room); (case ζhu => k_extra "mine units")); intro v' tl' h' tk' F' N' A' sbX V'; (first | (obtain ⟨t9, e9⟩ := Mine.ValIn.int_inv V'; subst e9; clear V') | ((k_dflt (refine' Mine.exe6 (Mine.ValIn.con0_inv V') ?_); intro a9 li9 t91 t92 n91 n92 hz9; k_dflt (refine' Mine.ane3 hz9 ?_); clear hz9; intro e9 m91 m92); subst e9; clear V') | ((k_dflt (refine' Mine.exe13 (Mine.ValIn.con2_inv V') ?_); intro a9 li9 t91 t92 n91 n92 p9 q9 x9 y9 ev9 n93 n94 hz9; k_dflt (refine' Mine.ane8 hz9 ?_); clear hz9; intro e9 m91 m92 m93 m94 c91 c92 ce9); subst e9; clear V') | ((k_dflt (refine' Mine.exe8 (Mine.ValIn.fn_inv V') ?_); intro a9 li9 b9 ev9 t91 t92 n91 n92 hz9; k_dflt (refine' Mine.ane5 hz9 ?_); clear hz9; intro e9 m91 m92 c91 ce9); subst e9; clear V') | skip); (try dsimp only); (try k_fold)))))
  (k_with "z call ref" => (guard_hyp tg21 : True; row_timed "z" (fail "z"; (k_here; (with_reducible show wpAny _ _ (call (Value.ref 1304) _) _ _ _); k_dflt (refine' Mine.spec_use0 ?ζB ?ζF ?ζX ?ζN ?ζT ?ζhk (Mine.pat_ok _ _ _ _ _ ?ζhp) ?ζhd ?ζhu ?_; (case ζB => k_asm); (case ζF => k_asm); (case ζX => k_asm); (case ζN => k_asm); (case ζT => k_asm); (case ζhk => exact rfl); (case ζhp => (refine' Mine.PatT.mono ?ζsb ?ζtt; (case ζtt => with_reducible assumption); (case ζsb => k_extra "mine subs"))); (case ζhd => ktr_room); (case ζhu => k_extra "mine units")); intro v9 h9 tk9 n9 F9 N9 P9; (k_dflt (refine' Mine.exe2 (P9) ?_); intro a9 tl9 hz9; k_dflt (refine' Mine.ane4 hz9 ?_); clear hz9; intro e91 e92 hc9 ha9; clear P9); subst e91; (replace e92 := Mine.Pre.eq e92); subst e92))))
  (k_with "z call ref" => (guard_hyp tg3 : True; (k_here; (with_reducible show wpAny _ _ (call (Value.ref 1238) _) _ _ _); refine Mine.Hold.out ?_)))
  (k_with "z call ref" => (guard_hyp tg3 : True; row_timed "z" (fail "z"; (k_here; (with_reducible show wpAny _ _ (call (Value.ref 1238) _) _ _ _); k_dflt (refine' Mine.take_use ?ζB ?ζF ?ζX ?ζN ?ζT ?ζhk ?ζD ?ζho ?ζoff ?ζh2 ?ζh7 ?ζhd ?ζhu ?_; (case ζB => k_asm); (case ζF => k_asm); (case ζX => k_asm); (case ζN => k_asm); (case ζT => k_asm); (case ζhk => exact rfl); (case ζD => k_extra "mine drop"); (case ζho => k_asm); (case ζoff => (k_extra "mine flat"; k_extra "mine off")); (case ζh2 => decide); (case ζh7 => decide); (case ζhd => ktr_room); (case ζhu => k_extra "mine units")); intro k9 t9 o9 h9 tk9 F9 N9 lo9 hi9 S9))))
  (k_with "z call ref" => (guard_hyp tg22 : True; (k_here; (with_reducible show wpAny _ _ (call (Value.ref 1297) _) _ _ _); refine Mine.Hold.out ?_)))
  (k_with "z call ref" => (guard_hyp tg22 : True; row_timed "z" (fail "z"; (k_here; (with_reducible show wpAny _ _ (call (Value.ref 1297) _) _ _ _); k_dflt (refine' Mine.draw_use ?ζB ?ζF ?ζX ?ζN ?ζT ?ζhk ?ζD1 ?ζD2 ?ζo1 ?ζo2 ?ζne ?ζho ?ζh0 ?ζh2 ?ζz ?ζhd ?ζhu ?_; (case ζB => k_asm); (case ζF => k_asm); (case ζX => k_asm); (case ζN => k_asm); (case ζT => k_asm); (case ζhk => exact rfl); (case ζD1 => k_extra "mine drop"); (case ζD2 => k_extra "mine drop"); (case ζho => k_asm); (case ζo1 => (k_extra "mine flat"; k_extra "mine off")); (case ζo2 => (k_extra "mine flat"; k_extra "mine off")); (case ζne => (k_extra "mine flat"; k_extra "mine ne")); (case ζh0 => omega); (case ζh2 => omega); (case ζz => omega); (case ζhd => ktr_room); (case ζhu => k_extra "mine units")); intro ra9 pt9 its9 tl9 o9 nv9 nn9 h9 tk9 F9 N9 A9 G91 G92 S9 R9 I9 St9 Nm9))))
  (k_with "z call ref" => (guard_hyp tg23 : True; row_timed "z" (fail "z"; (k_here; (with_reducible show wpAny _ _ (call (Value.ref 1110) _) _ _ _); k_dflt (refine' Mine.told_use ?ζB ?ζF ?ζX ?ζN ?ζT ?ζhk ?ζD1 ?ζD2 ?ζD3 (‹∀ j rest, Mine.ToldSpec _ _ _ _ j rest› 0 (.con0 "[]")) ?ζc1 ?ζc2 ?ζc3 ?ζc4 ?ζc5 ?ζc6 ?ζc7 ?ζc8 ?ζc9 ?ζc10 ?ζc11 ?ζc12 ?ζc13 ?ζc14 ?ζc15 ?ζc16 ?ζhd ?ζhu ?_; (case ζB => k_asm); (case ζF => k_asm); (case ζX => k_asm); (case ζN => k_asm); (case ζT => k_asm); (case ζhk => exact rfl); (case ζc2 => k_asm); (case ζD1 => k_extra "mine drop"); (case ζc3 => k_asm); (case ζD2 => k_extra "mine drop"); (case ζD3 => k_extra "mine drop"); (case ζc7 => exact Or.inl rfl); (case ζc1 => (k_extra "mine flat"; k_extra "mine offM")); (case ζc4 => k_asm); (case ζc5 => omega); (case ζc6 => omega); (case ζc8 => exact Or.inl rfl); (case ζc9 => (refine' Mine.MakerIn.mono ?ζsb ?ζtt; (case ζtt => with_reducible assumption); (case ζsb => k_extra "mine sub"))); (case ζc10 => (refine' Mine.SumIn.mono ?ζsb ?ζtt; (case ζtt => with_reducible assumption); (case ζsb => k_extra "mine sub"))); (case ζc11 => k_mem); (case ζc12 => exact (List.nil_append _).symm); (case ζc13 => exact rfl); (case ζc14 => (refine' Mine.Stats.mono ?ζsb ?ζtt; (case ζtt => with_reducible assumption); (case ζsb => k_extra "mine sub"))); (case ζc15 => (simp only [List.length_nil]; omega)); (case ζc16 => exact .con0 (by k_mem) (by k_mem) (by k_mem)); (case ζhd => ktr_room); (case ζhu => k_extra "mine units")); intro a9 tl9 o9 kvs9 T19 T29 h9 tk9 F9 N9 O9 D9 M9 X9 Y9 C9))))
  (k_with "z call ref" => (guard_hyp tg24 : True; (k_here; (with_reducible show wpAny _ _ (call (Value.ref 1231) _) _ _ _); refine Mine.Hold.out ?_)))
  (k_with "z call ref" => (guard_hyp tg24 : True; row_timed "z" (fail "z"; (k_here; (with_reducible show wpAny _ _ (call (Value.ref 1231) _) _ _ _); k_dflt (refine' Mine.pool_use ?ζhb ?ζhi ?ζhz ?ζB ?ζF ?ζX ?ζN ?ζT ?ζhk ?ζhd ?ζhu ?_; (case ζF => k_asm); (case ζN => k_asm); (case ζB => k_asm); (case ζX => k_asm); (case ζT => k_asm); (case ζhk => exact rfl); (case ζhb => k_asm); (case ζhi => k_asm); (case ζhz => omega); (case ζhd => first | exact Nat.le_of_ble_eq_true rfl | ktr_room); (case ζhu => first | exact Nat.le_of_ble_eq_true rfl | k_extra "mine units")); intro sl9 o9 tl9 h9 tk9 F9 N9 S9 A9 G9; have hsrc9 : Mine.IsSrc sl9 := ⟨⟩))))
  (k_with "z call ref" => (guard_hyp tg24 : True; (k_here; (with_reducible show wpAny _ _ (call (Value.ref 1290) _) _ _ _); refine Mine.Hold.out ?_)))
  (k_with "z call ref" => (guard_hyp tg24 : True; row_timed "z" (fail "z"; (k_here; (with_reducible show wpAny _ _ (call (Value.ref 1290) _) _ _ _); k_dflt (refine' Mine.stat_use ?ζB ?ζF ?ζX ?ζN ?ζT ?ζhk ?ζD ?ζho ?ζoff ?ζhd ?ζhu ?_; (case ζF => k_asm); (case ζN => k_asm); (case ζB => k_asm); (case ζX => k_asm); (case ζT => k_asm); (case ζhk => exact rfl); (case ζD => k_extra "mine drop"); (case ζho => k_asm); (case ζoff => (k_extra "mine flat"; k_extra "mine off")); (case ζhd => first | exact Nat.le_of_ble_eq_true rfl | ktr_room); (case ζhu => first | exact Nat.le_of_ble_eq_true rfl | k_extra "mine units")); intro ra9 rl9 nl9 rv9 nv9 rs9 ns9 tl9 o9 n91 n92 n93 k9 h9 tk9 F9 N9 A9 G9 S9 M91 M92 M93 R9 St9 B9 K9; have L91 := Mine.Built.len B9; have L92 := Mine.Built.rows B9; have L93 := Mine.RowsT.len R9; have L94 := Mine.Strs.len St9; have OK9 := Mine.Built.ok B9 K9; have SH9 := Mine.RowsT.short R9))))
  (k_with "z call ref" => (guard_hyp tg24 : True; (k_here; (with_reducible show wpAny _ _ (call (Value.ref 1311) _) _ _ _); refine Mine.Hold.out ?_)))
  (k_with "z call ref" => (guard_hyp tg24 : True; row_timed "z" (fail "z"; (k_here; (with_reducible show wpAny _ _ (call (Value.ref 1311) _) _ _ _); k_dflt (refine' Mine.spec_use0 ?ζB ?ζF ?ζX ?ζN ?ζT ?ζhk (Mine.stmt_ok _ _ _ _ _ _ ?ζhs ?ζhr ?ζho) ?ζhd ?ζhu ?_; (case ζB => k_asm); (case ζF => k_asm); (case ζX => k_asm); (case ζN => k_asm); (case ζT => k_asm); (case ζhk => exact rfl); (case ζhr => with_reducible assumption); (case ζhs => k_extra "mine subs"); (case ζho => k_asm); (case ζhd => ktr_room); (case ζhu => k_extra "mine units")); intro v9 h9 tk9 n9 F9 N9 P9; (k_dflt (refine' Mine.exe2 (P9) ?_); intro a9 tl9 hz9; k_dflt (refine' Mine.ane4 hz9 ?_); clear hz9; intro e91 e92 hc9 ha9; clear P9); subst e91; (replace e92 := Mine.Pre.eq e92); subst e92))))
  (k_with "z call ref" => (guard_hyp tg24 : True; (k_here; (with_reducible show wpAny _ _ (call (Value.ref 1103) _) _ _ _); refine Mine.Hold.out ?_)))
  (k_with "z call ref" => (guard_hyp tg24 : True; row_timed "z" (fail "z"; (k_here; (with_reducible show wpAny _ _ (call (Value.ref 1103) _) _ _ _); k_dflt (refine' Mine.compr_use ?ζB ?ζF ?ζX ?ζN ?ζT ?ζhk ?ζc0 ?ζD1 ?ζD2 ?ζD3 ?ζc1 ?ζc2 ?ζc3 ?ζc4 ?ζc5 ?ζc6 ?ζc7 ?ζc8 ?ζc9 ?ζc10 ?ζhd ?ζhu ?_; (case ζF => k_asm); (case ζN => k_asm); (case ζB => k_asm); (case ζX => k_asm); (case ζT => k_asm); (case ζhk => exact rfl); (case ζc0 => exact .mk (by k_mem) (by k_mem) (by k_mem) (by k_mem) (by k_mem) (.mk (by k_mem) (by k_mem) (by k_mem) (by k_asm) (by k_asm) (by k_asm))); (case ζD1 => k_extra "mine drop"); (case ζD2 => k_extra "mine drop"); (case ζD3 => k_extra "mine drop"); (case ζc4 => exact .mk (by k_mem) (by k_mem) (by k_mem) (by k_mem) (by k_mem) (.mk (by k_mem) (by k_mem) (by k_mem) (by k_asm) (by k_asm) (by k_asm))); (case ζc3 => k_asm); (case ζc2 => (refine' Mine.lt_mem ?ζh9 ?ζm9; (case ζh9 => with_reducible assumption); (case ζm9 => k_mem))); (case ζc1 => (k_extra "mine flat"; refine' Mine.law_off ?ζfa ?ζfb ?ζfc ?ζfd ?ζfe ?ζff ?ζfg ?ζfh ?ζfi ?ζfj ?ζfk ?ζfl ?ζfm ?ζfn ?ζfo ?ζfp ?ζfq ?ζfr ?ζfs ?ζft ?ζfu ?ζfz; (case ζfa => with_reducible assumption); (case ζfb => with_reducible assumption); (case ζfc => with_reducible assumption); (case ζfd => with_reducible assumption); (case ζfe => with_reducible assumption); (case ζff => with_reducible assumption); (case ζfg => with_reducible assumption); (case ζfh => with_reducible assumption); (case ζfi => with_reducible assumption); (case ζfj => with_reducible assumption); (case ζfk => with_reducible assumption); (case ζfl => with_reducible assumption); (case ζfm => with_reducible assumption); (case ζfn => with_reducible assumption); (case ζfo => with_reducible assumption); (case ζfp => with_reducible assumption); (case ζfq => with_reducible assumption); (case ζfr => with_reducible assumption); (case ζfs => with_reducible assumption); (case ζft => with_reducible assumption); (case ζfu => with_reducible assumption); (case ζfz => k_extra "ar lt"))); (case ζc5 => k_mem); (case ζc6 => k_mem); (case ζc7 => exact .mk (by k_mem) (by k_mem) (by k_asm)); (case ζc8 => k_mem); (case ζc9 => (refine' Mine.Stats.drop9 ?ζsb ?ζtt; (case ζtt => with_reducible assumption); (case ζsb => k_extra "mine subt"))); (case ζc10 => exact Mine.le_of9 (by k_asm) (by k_asm)); (case ζhd => first | exact Nat.le_of_ble_eq_true rfl | ktr_room); (case ζhu => first | exact Nat.le_of_ble_eq_true rfl | k_extra "mine units")); intro a9 led9 T91 T92 h9 tk9 F9 N9 S8 M91 M92 C9))))
  (k_with "z call ref" => (guard_hyp tg25 : True; (k_here; (with_reducible show wpAny _ _ (call (Value.ref 1323) _) _ _ _); refine Mine.Hold.out ?_)))
  (k_with "z call ref" => (guard_hyp tg26 : True; row_timed "z" (fail "z"; (k_here; (with_reducible show wpAny _ _ (call (Value.ref 1323) _) _ _ _); k_dflt (refine' Mine.loops_use ?ζB ?ζF ?ζX ?ζN ?ζT ?ζhk ?ζD (‹Mine.LoopsSpec _ _ _ _›) ?ζc0 ?ζc1 ?ζc2 ?ζc3 ?ζc4 ?ζc5 ?ζc6 ?ζc7 ?ζc8 ?ζc9 ?ζc10 ?ζc11 ?ζc13 ?ζc14 ?ζc15 ?ζc16 ?ζhd ?ζhu ?_; (case ζB => k_asm); (case ζF => k_asm); (case ζX => k_asm); (case ζN => k_asm); (case ζT => k_asm); (case ζhk => exact rfl); (case ζc0 => k_asm); (case ζD => k_extra "mine drop"); (case ζc1 => (k_extra "mine flat"; k_extra "mine off")); (case ζc2 => first | omega | (k_extra "mine bound")); (case ζc3 => k_mem); (case ζc4 => exact (List.append_cons _ _ _)); (case ζc5 => simp); (case ζc6 => (refine' Mine.RowsT.mono ?ζsb ?ζtt; (case ζtt => with_reducible assumption); (case ζsb => k_extra "mine subs"))); (case ζc7 => (simp only [List.length_append, List.length_cons, List.length_nil]; omega)); (case ζc8 => k_mem); (case ζc9 => k_asm); (case ζc10 => k_asm); (case ζc11 => omega); (case ζc13 => k_asm); (case ζc14 => k_mem); (case ζc15 => k_asm); (case ζc16 => k_asm); (case ζhd => ktr_room); (case ζhu => k_extra "mine units")); intro vs9 ms9 tl9 h9 tk9 F9 N9 A9 I9))))
  (k_with "z call ref" => (guard_hyp tg27 : True; row_timed "z" (fail "z"; (k_here; (with_reducible show wpAny _ _ (call (Value.ref 1266) _) _ _ _); k_dflt (refine' Mine.with_use ?ζB ?ζF ?ζX ?ζN ?ζT ?ζhk ?ζm0 ?ζm1 ?ζl1 ?ζl2 ?ζc0 ?ζd1 ?ζd2 ?ζdk ?ζz1 ?ζhd ?ζhu ?_; (case ζB => k_asm); (case ζF => k_asm); (case ζX => k_asm); (case ζN => k_asm); (case ζT => k_asm); (case ζhk => exact rfl); (case ζm0 => k_mem); (case ζm1 => k_mem); (case ζd1 => k_asm); (case ζd2 => k_asm); (case ζl1 => k_asm); (case ζl2 => k_asm); (case ζc0 => k_asm); (case ζdk => first | k_asm | exact Or.inr (Mine.ex3 _ _ _ ⟨rfl, rfl⟩)); (case ζz1 => omega); (case ζhd => ktr_room); (case ζhu => k_extra "mine units")); intro d9 o9 tl9 kvs9 h9 tk9 F9 N9 A9 M9 L9 D9 K9 Z9; (try simp only [List.map_cons, List.map_nil, List.cons_append, List.nil_append] at K9)))))
  (k_with "z call ref" => (guard_hyp tg28 : True; row_timed "z" (fail "z"; (k_here; (with_reducible show wpAny _ _ (call (Value.ref 1266) _) _ _ _); k_dflt (refine' Mine.with_use ?ζB ?ζF ?ζX ?ζN ?ζT ?ζhk ?ζm0 ?ζm1 ?ζl1 ?ζl2 ?ζc0 ?ζd1 ?ζd2 ?ζdk ?ζz1 ?ζhd ?ζhu ?_; (case ζB => k_asm); (case ζF => k_asm); (case ζX => k_asm); (case ζN => k_asm); (case ζT => k_asm); (case ζhk => exact rfl); (case ζm0 => k_mem); (case ζm1 => k_mem); (case ζd1 => k_asm); (case ζd2 => k_asm); (case ζl1 => k_asm); (case ζl2 => k_asm); (case ζc0 => k_asm); (case ζdk => first | k_asm | exact Or.inr (Mine.ex3 _ _ _ ⟨rfl, rfl⟩)); (case ζz1 => omega); (case ζhd => ktr_room); (case ζhu => k_extra "mine units")); intro d9 o9 tl9 kvs9 h9 tk9 F9 N9 A9 M9 L9 D9 K9 Z9; (try simp only [List.map_cons, List.map_nil, List.cons_append, List.nil_append] at K9); (try rw [Mine.taken_names (by k_asm)] at K9)))))
  (k_with "z call ref" => (guard_hyp tg28 : True; row_timed "z" (fail "z"; (k_here; (with_reducible show wpAny _ _ (call (Value.ref 1318) _) _ _ _); k_dflt (refine' Mine.taken_use ?ζB ?ζF ?ζX ?ζN ?ζT ?ζhk ?ζhi ?ζhf ?ζhp ?ζsb ?ζhd ?ζhu (fun e9 tl9 h9 tk9 F9 N9 A9 => ?_) (fun t9 e9 tl9 d9 o9 mk9 h9 tk9 F9 N9 A9 M9 L9 D9 K9 => ?_); (case ζB => k_asm); (case ζF => k_asm); (case ζX => k_asm); (case ζN => k_asm); (case ζT => k_asm); (case ζhk => exact rfl); (case ζhi => k_asm); (case ζhf => k_asm); (case ζhp => k_asm); (case ζsb => k_extra "mine subs"); (case ζhd => ktr_room); (case ζhu => k_extra "mine units"))))))
  (k_with "z call ref" => (guard_hyp tg24 : True; row_timed "z" (fail "z"; (k_here; (with_reducible show wpAny _ _ (call (Value.ref 1323) _) _ _ _); k_dflt (refine' Mine.loops_use0 ?ζB ?ζF ?ζX ?ζN ?ζT ?ζhk ?ζD ?ζc1 ?ζc2 ?ζc3 ?ζc6 ?ζc7 ?ζc8 ?ζc9 ?ζc10 ?ζc13 ?ζc14 ?ζc15 ?ζc16 ?ζhd ?ζhu ?_; (case ζF => k_asm); (case ζN => k_asm); (case ζB => k_asm); (case ζX => k_asm); (case ζT => k_asm); (case ζhk => exact rfl); (case ζD => k_extra "mine drop"); (case ζc1 => (k_extra "mine flat"; k_extra "mine off")); (case ζc6 => (refine' Mine.RowsT.mono ?ζsb ?ζtt; (case ζtt => with_reducible assumption); (case ζsb => k_extra "mine subs"))); (case ζc15 => k_asm); (case ζc2 => exact Mine.law_many _ _ (by omega) (by k_asm)); (case ζc3 => k_mem); (case ζc7 => exact Mine.le_of9 (by k_asm) (by k_asm)); (case ζc8 => k_mem); (case ζc9 => k_asm); (case ζc10 => k_asm); (case ζc13 => exact Mine.Built.wf (by k_asm) (by k_asm) _ (by k_asm)); (case ζc14 => k_mem); (case ζc16 => exact Nat.le_trans (by k_asm) (Nat.le_trans (by k_asm) (by k_asm))); (case ζhd => first | exact Nat.le_of_ble_eq_true rfl | ktr_room); (case ζhu => first | exact Nat.le_of_ble_eq_true rfl | k_extra "mine units")); intro vs9 ms9 tl9 h9 tk9 F9 N9 A9 I9))))
  (k_with "z call ref" => (guard_hyp tg24 : True; (k_here; (with_reducible show wpAny _ _ (call (Value.ref 1285) _) _ _ _); refine Mine.Hold.out ?_)))
  (k_with "z call ref" => (guard_hyp tg24 : True; row_timed "z" (fail "z"; (k_here; (with_reducible show wpAny _ _ (call (Value.ref 1285) _) _ _ _); k_dflt (refine' Mine.items_use ?ζB ?ζF ?ζX ?ζN ?ζT ?ζhk ?ζhc ?ζhs ?ζhz ?ζhd ?ζhu ?_; (case ζF => k_asm); (case ζN => k_asm); (case ζB => k_asm); (case ζX => k_asm); (case ζT => k_asm); (case ζhk => exact rfl); (case ζhc => k_asm); (case ζhs => exact Mine.law_plain _ _ (by omega) (Mine.Built.wf (by k_asm) (by k_asm) _ (by k_asm)) (by omega) (by k_asm)); (case ζhz => exact Mine.law_many _ _ (by omega) (by k_asm)); (case ζhd => first | exact Nat.le_of_ble_eq_true rfl | ktr_room); (case ζhu => first | exact Nat.le_of_ble_eq_true rfl | k_extra "mine units")); intro l9 vs9 ms9 imm9 h9 tk9 F9 N9 S9 I9))))
  (k_with "z getMethod ref" => (guard_hyp tg4 : True; row_timed "z" (fail "z"; (k_here; (with_reducible show wpAny _ _ (getMethod (Value.ref _) (PySem.Str.ofString "get") _) _ _ _); k_dflt (refine' kdg_method (knd := PySem.strKind _ _) ?ζN ?ζm ?ζd ?_; (case ζN => k_asm); (case ζm => k_mem); (case ζd => k_asm))))))
  (k_with "z getMethod ref" => (guard_hyp tg4 : True; (k_here; (first | (with_reducible show wpAny _ _ (getMethod (Value.ref _) (PySem.Str.ofString "desugar") _) _ _ _) | (with_reducible show wpAny _ _ (getMethod (Value.ref _) (PySem.Str.ofString "matcher") _) _ _ _)); k_extra "mine own")))
  (k_with "z getMethod ref" => (guard_hyp tg12 : True; (k_here; (with_reducible show wpAny _ _ (getMethod (Value.ref _) (PySem.Str.ofString "body") _) _ _ _); k_extra "mine own")))
  (k_with "z call builtin:dict.get" => (guard_hyp tg4 : True; row_timed "z" (fail "z"; (k_here; k_dflt (refine' Mine.get_num ?ζN ?ζm ?ζd ?ζl ?ζn ?_; (case ζN => k_asm); (case ζm => k_mem); (case ζd => k_asm); (case ζl => k_asm); (case ζn => k_asm)); intro t9))))
  (k_with "z compareOp In str ref" => (guard_hyp tg4 : True; row_timed "z" (fail "z"; (k_here; k_dflt (refine' Mine.in_empty ?ζN ?ζm ?ζd ?ζl ?_; (case ζN => k_asm); (case ζm => k_mem); (case ζd => k_asm); (case ζl => k_asm))))))
  (k_with "z compareOp In str ref" => (guard_hyp tg9 : True; row_timed "z" (fail "z"; (k_here; k_dflt (refine' Mine.in_one ?ζN ?ζm ?ζne ?_; (case ζN => k_asm); (case ζm => k_mem); (case ζne => exact ‹∀ z ∈ Mine.Core.fv _, z ≠ _› _ (‹∀ z ∈ _, z ∈ Mine.Core.fv _› _ (by simp))))))))
  (k_with "z call builtin:str.rfind" => (guard_hyp tg4 : True; (k_here; (with_reducible show wpAny _ _ (call (Value.builtin "str.rfind") [Value.str _ _, Value.str _ _]) _ _ _); (refine KXw.rfind (i := -1) (by k_asm) ?_); intro _ _)))
  (k_with "z exec While Compare" => (guard_hyp tg4 : True; row_timed "z" (fail "z"; (k_here; (with_unfolding_all refine' Mine.While_one ?ζF ?ζN ?_; (case ζF => k_asm); (case ζN => k_asm); k_whole); intro h1 tk1 F' N'))))
  (k_with "z exec While Compare" => (guard_hyp tg1 : True; (k_here; refine Mine.Hold.out ?_)))
  (k_with "mine slen" => (guard_hyp tg4 : True; first | k_asm | decide | (refine Nat.le_trans (Mine.len_text (by k_asm) (by omega)) ?_; omega) | (refine Nat.le_trans (Nat.le_of_eq (PySem.Str.length_append _ _)) ?_; (try simp only [PySem.Str.length_append]); have e9 : (PySem.Str.ofString ".").length = 1 := (by decide); omega) | omega))
  (k_with "mine slen" => (guard_hyp tg29 : True; first | decide | (refine Nat.le_trans (Mine.len_text (by omega) (by omega)) ?_; omega) | fail))
  (k_with "z binaryOp Add str str" => (guard_hyp tg4 : True; row_timed "z" (fail "z"; (k_here; k_dflt (refine' Mine.add_small ?ζa ?ζb ?_; (case ζa => k_extra "mine slen"); (case ζb => k_extra "mine slen")); intro t9 tk9))))
  (k_with "z call type:str" => (guard_hyp tg4 : True; row_timed "z" (fail "z"; (k_here; (with_reducible show wpAny _ _ (call (Value.type "str") [Value.int _ _]) _ _ _); k_dflt (refine' Mine.str_small ?ζa ?ζb ?_; (case ζa => omega); (case ζb => omega)); intro t9))))
  (k_with "z exec For Name Name cons nil" => (guard_hyp tg4 : True; k_extra "mine for"))
  (k_with "mine pre" => (skip; row_timed "z" (fail "z"; first | exact Mine.Pre.done | (refine' Mine.Pre.cons ?ζhp9; (case ζhp9 => k_extra "mine pre")) | (refine' Mine.Pre.app ?ζhp9; (case ζhp9 => k_extra "mine pre")) | (with_reducible assumption))))
  (k_with "mine drop" => (guard_hyp tg30 : True; row_timed "z" (fail "z"; first | exact Mine.Drop1.head | (refine' Mine.Drop1.tail ?ζhp9; (case ζhp9 => k_extra "mine drop")) | (refine' Mine.Drop1.app ?ζhp9; (case ζhp9 => k_extra "mine drop")))))
  (k_with "z exec For Name Subscript cons nil" => (guard_hyp tg4 : True; k_extra "mine for"))
  (k_with "z exec While Name" => (guard_hyp tg4 : True; (k_here; k_dflt (refine whl_start 100 ?_))))
  (k_with "z exec While Name" => (guard_hyp tg8 : True; (k_here; refine Mine.Hold.out ?_)))
  (k_with "z truthy ref" => (guard_hyp tg4 : True; row_timed "z" (fail "z"; (k_here; k_dflt (refine' Mine.truthy_L ?ζN ?ζm ?ζz ?_; (case ζN => k_asm); (case ζm => k_mem); (case ζz => first | omega | (simp only [List.length_cons, List.length_nil]; omega)))))))
  (k_with "z truthy ref" => (guard_hyp tg8 : True; row_timed "z" (fail "z"; (k_here; k_dflt (refine' Mine.truthy_snoc ?ζN ?ζm ?ζz ?_; (case ζN => k_asm); (case ζm => k_mem); (case ζz => omega))))))
  (k_with "z CompEnd" => (guard_hyp tg4 : True; row_timed "z" (fail "z"; (k_dflt first
      | (refine' Mine.comp_end2 ?ζcF ?ζcN ?ζcl ?ζcm ?ζco ?ζcS ?_; (case ζcF => k_asm); (case ζcN => k_asm); (case ζcl => (k_extra "mine flat"; exact ⟨by k_extra "mine ne", by k_extra "mine ne", by k_extra "mine ne"⟩)); (case ζcm => (k_extra "mine flat"; exact ⟨by k_extra "mine ne", by k_extra "mine ne", by k_extra "mine ne"⟩)); (case ζco => k_asm); (case ζcS => first | exact True.intro | exact Or.inl (by k_asm) | exact Or.inr ⟨_, by k_mem, rfl, _, rfl⟩))
      | (refine' Mine.comp_end0 ?ζcF ?ζcN ?ζco ?ζcS ?_; (case ζcF => k_asm); (case ζcN => k_asm); (case ζco => k_asm); (case ζcS => first | exact True.intro | exact Or.inl (by k_asm) | exact Or.inr ⟨_, by k_mem, rfl, _, rfl⟩))
      | (refine Mine.comp_end1 (by k_asm) (by k_asm) (by (simp only [AllLt, and_true]; first | k_asm | exact ⟨by omega, by omega, by omega, by k_asm⟩)) (by k_asm) (by first | exact True.intro | exact Or.inl (by k_asm) | exact Or.inr ⟨_, by k_mem, rfl, _, rfl⟩) ?_)))))
  (k_with "z CompEnd" => (guard_hyp tg31 : True; row_timed "z" (fail "z"; (k_here; k_dflt (refine' Mine.comp_end0 ?ζcF ?ζcN ?ζco ?ζcS ⟨⟨_, rfl⟩, rfl⟩; (case ζcF => k_asm); (case ζcN => k_asm); (case ζco => k_asm); (case ζcS => exact Or.inr ⟨_, by k_mem, rfl, _, rfl⟩))))))
  (k_with "z CompEnd" => (guard_hyp tg32 : True; row_timed "z" (fail "z"; (k_here; k_dflt (first
      | (refine' Mine.comp_endS ?ζcF ?ζcN ?ζco ?ζcS ⟨⟨_, rfl⟩, _, ?ζcO, rfl⟩; (case ζcF => k_asm); (case ζcN => k_asm); (case ζco => k_asm); (case ζcS => exact Or.inr ⟨_, by k_mem, rfl, _, rfl⟩); (case ζcO => k_asm))
      | (refine' Mine.comp_endS ?ζcF ?ζcN ?ζco ?ζcS ⟨_, ?ζcO, rfl⟩; (case ζcF => k_asm); (case ζcN => k_asm); (case ζco => k_asm); (case ζcS => exact Or.inr ⟨_, by k_mem, rfl, _, rfl⟩); (case ζcO => k_asm)))))))
  (k_with "z CompEnd" => (guard_hyp tg24 : True; row_timed "z" (fail "z"; (k_here; k_dflt (refine' Mine.comp_endT ?ζcF ?ζcN ?ζca ?ζco ?ζcS (Mine.ex2 _ _ ⟨rfl, rfl, ?ζga, ?ζgs⟩); (case ζcF => k_asm); (case ζcN => k_asm); (case ζca => k_extra "mine above"); (case ζco => k_asm); (case ζcS => exact Or.inr ⟨_, by k_mem, rfl, _, rfl⟩); (case ζga => k_extra "mine above"); (case ζgs => k_asm))))))
  (k_with "z UnrEndW" => (guard_hyp tg4 : True; row_timed "z" (fail "z"; (refine' Mine.endD ?ζeF ?ζeN ?ζeD ?ζeoff ?ζek ?_; (case ζeF => k_asm); (case ζeN => k_asm); (case ζeD => k_extra "mine drop"); (case ζeoff => (k_extra "mine flat"; k_extra "mine off")); (case ζek => k_subL)))))
  (k_with "z UnrEndW" => (guard_hyp tg33 : True; (k_here; refine Mine.Hold.out ?_)))
  (k_with "k_upd" => (guard_hyp tg30 : True; row_timed "z" (fail "z"; (refine' Mine.Upd_app ?ζua ?ζub; (case ζua => first | with_reducible assumption | (refine' Mine.ne_above ?ζum ?ζun; (case ζum => with_reducible assumption); (case ζun => k_mem))); (case ζub => k_upd)))))
  (k_with "k_updF" => (guard_hyp tg30 : True; row_timed "z" (fail "z"; (refine' Mine.UpdF_app ?ζua ?ζub; (case ζua => first | with_reducible assumption | (refine' Mine.ne_above ?ζum ?ζun; (case ζum => with_reducible assumption); (case ζun => k_mem))); (case ζub => k_updF)))))
  (k_with "k_updF" => (guard_hyp tg34 : True; row_timed "z" (fail "z"; first | (refine' UpdF.head ?ζua; (case ζua => first | (with_reducible assumption) | (refine' Mine.OffM.off2 ?ζub; (case ζub => with_reducible assumption)))) | (refine' UpdF.tail ?ζua ?ζub; (case ζua => first | decide | k_extra "mine ne" | (show @Ne Nat _ _; omega)); (case ζub => k_updF)))))
  (k_with "k_updF" => (guard_hyp tg6 : True; row_timed "z" (fail "z"; first | (refine' UpdF.head ?ζua; (case ζua => k_extra "mine off12")) | (refine' UpdF.tail ?ζua ?ζub; (case ζua => first | decide | k_extra "mine ne" | (show @Ne Nat _ _; omega)); (case ζub => k_updF)))))
  (k_with "k_updF" => (guard_hyp tg24 : True; row_timed "z" (fail "z"; first
      | (refine' Mine.UpdF_app ?ζua ?ζub; (case ζua => (k_extra "mine flat"; k_extra "mine off")); (case ζub => k_updF))
      | (refine' UpdF.head ?ζua; (case ζua => (k_extra "mine flat"; k_extra "mine off")))
      | (refine' UpdF.tail ?ζua ?ζub; (case ζua => (k_extra "mine flat"; k_extra "mine ne")); (case ζub => k_updF))
      | fail)))
  (k_with "mine ne" => (skip; row_timed "z" (fail "z"; first | (refine' Nat.ne_of_gt ?ζhn9; (case ζhn9 => with_reducible assumption)) | (refine' Nat.ne_of_lt ?ζhn9; (case ζhn9 => with_reducible assumption)) | with_reducible assumption | (refine' Ne.symm ?ζhn9; (case ζhn9 => with_reducible assumption)) | (show @Ne Nat _ _; omega))))
  (k_with "mine ne" => (guard_hyp tg9 : True; row_timed "z" (fail "z"; first | (refine' Mine.off1_mem ?ζho9 ?ζhm9; (case ζho9 => with_reducible assumption); (case ζhm9 => k_mem)) | (refine' Mine.off1_mem' ?ζho9 ?ζhm9; (case ζho9 => with_reducible assumption); (case ζhm9 => k_mem)))))
  (k_with "mine ne" => (guard_hyp tg1 : True; row_timed "z" (fail "z"; first | (refine' Mine.ne_memlt ?ζh9 ?ζm9; (case ζh9 => with_reducible assumption); (case ζm9 => k_mem)) | fail)))
  (k_with "mine ne" => (guard_hyp tg35 : True; row_timed "z" (fail "z"; first | (refine' Mine.ne_memL ?ζh9 ?ζm9; (case ζh9 => with_reducible assumption); (case ζm9 => k_mem)) | (refine' Mine.ne_memA ?ζh9 ?ζm9; (case ζh9 => with_reducible assumption); (case ζm9 => k_mem)) | fail)))
  (k_with "mine ne" => (guard_hyp tg24 : True; row_timed "z" (fail "z"; first | (refine' Mine.ne_memN ?ζh9 ?ζm9; (case ζh9 => with_reducible assumption); (case ζm9 => k_mem)) | (refine' Ne.symm (Mine.ne_memN ?ζh9 ?ζm9); (case ζh9 => with_reducible assumption); (case ζm9 => k_mem)) | fail)))
  (k_with "mine above" => (skip; row_timed "z" (fail "z"; first | exact Mine.Above.nil | with_reducible assumption | (refine' Mine.Above.cons ?ζha9 ?ζhb9; (case ζha9 => k_extra "mine abv"); (case ζhb9 => k_extra "mine above")) | (refine' Mine.Above.app ?ζha9 ?ζhb9; (case ζha9 => k_extra "mine above"); (case ζhb9 => k_extra "mine above")) | (refine' Mine.Above.pre ?ζha9 ?ζhb9 ?ζhc9; (case ζha9 => with_reducible assumption); (case ζhb9 => with_reducible assumption); (case ζhc9 => k_extra "mine sub")) | (refine' Mine.Above.sub ?ζha9 ?ζhb9; (case ζha9 => with_reducible assumption); (case ζhb9 => k_extra "mine sub")))))
  (k_with "mine above" => (guard_hyp tg36 : True; row_timed "z" (fail "z"; (refine' Mine.Above.app ?ζha9 ?ζhb9; (case ζha9 => (refine' Mine.Above.sub ?ζhc9 ?ζhd9; (case ζhc9 => with_reducible assumption); (case ζhd9 => k_extra "mine subs"))); (case ζhb9 => k_extra "mine above")))))
  (k_with "mine above" => (guard_hyp tg28 : True; row_timed "z" (fail "z"; first | with_reducible assumption | (refine' Mine.Above.app ?ζha9 ?ζhb9; (case ζha9 => first | with_reducible assumption | (refine' Mine.above_via ?ζh9 ?ζm9 ?ζs9; (case ζh9 => with_reducible assumption); (case ζm9 => k_mem); (case ζs9 => k_extra "mine subs"))); (case ζhb9 => k_extra "mine above")) | fail)))
  (k_with "mine own" => (guard_hyp tg4 : True; row_timed "z" (fail "z"; (k_dflt (refine' kmu_own ?ζk1 ?ζk2 ?ζk3 ?ζk4 ?ζk5 ?_; (case ζk1 => k_asm); (case ζk2 => k_asm); (case ζk3 => k_inst); (case ζk4 => k_is); (case ζk5 => k_is); k_whole)))))
  (k_with "z pyIter ref" => (guard_hyp tg33 : True; (k_here; (with_reducible show wpAny _ _ (pyIter (Value.ref _)) (fun it s₂ => TurnsAt _ _ _ _ _ _ _ _ _ it s₂) _ _); refine Mine.Hold.out ?_)))
  (k_with "z pyIter ref" => (guard_hyp tg37 : True; (k_here; (with_reducible show wpAny _ _ (pyIter (Value.ref _)) (fun it s₂ => LoopAtV _ _ _ _ _ _ _ _ _ it s₂) _ _); refine Mine.Hold.out ?_)))
  (k_with "mine shF" => (guard_hyp tg8 : True; (funext y; by_cases h1 : y = "scope"; (subst h1; with_unfolding_all rfl); by_cases h2 : y = "part"; (subst h2; with_unfolding_all rfl); by_cases h3 : y = "groups"; (subst h3; with_unfolding_all rfl); by_cases h4 : y = "bound"; (subst h4; with_unfolding_all rfl); by_cases h5 : y = "node"; (subst h5; with_unfolding_all rfl); simp (zetaDelta := true) only [Mine.shF, h1, h2, h3, h4, h5, if_false])))
  (k_with "z WStep" => (guard_hyp tg38 : True; (k_here; refine Mine.Hold.out ?_)))
  (k_with "z call builtin:sorted" => (guard_hyp tg8 : True; row_timed "z" (fail "z"; (k_here; k_dflt (refine' Mine.sorted_keys ?ζsh ?ζsF ?ζsN ?ζsm ?ζsl ?ζsd ?ζsz ?_; (case ζsh => exact rfl); (case ζsF => k_asm); (case ζsN => k_asm); (case ζsm => k_mem); (case ζsl => k_asm); (case ζsd => k_asm); (case ζsz => omega)); intro D' vs' xs' n' h' tk' F' N' l1 hs' hk' hl'; (try k_lt l1)))))
  (k_with "z call builtin:list.pop" => (guard_hyp tg8 : True; row_timed "z" (fail "z"; (k_here; k_dflt (refine' Mine.pop_N ?ζF ?ζN ?ζU ?ζz ?_; (case ζF => k_asm); (case ζN => k_asm); (case ζU => k_upd); (case ζz => omega)); intro h' F' N'))))
  (k_with "z call builtin:list.append" => (guard_hyp tg39 : True; row_timed "z" (fail "z"; (k_here; k_dflt (refine' Mine.append_N ?ζF ?ζN ?ζU ?ζz ?_; (case ζF => k_asm); (case ζN => k_asm); (case ζU => k_upd); (case ζz => ((try simp only [List.length_append, List.length_cons, List.length_nil]); omega))); intro h' F' N'))))
  (k_with "z compareOp NotIn str ref" => (guard_hyp tg8 : True; row_timed "z" (fail "z"; (k_here; k_dflt (refine' Mine.not_in_empty ?ζN ?ζm ?ζd ?ζl ?_; (case ζN => k_asm); (case ζm => k_mem); (case ζd => k_asm); (case ζl => k_asm))))))
  (k_with "z call builtin:len" => (guard_hyp tg40 : True; row_timed "z" (fail "z"; (k_here; k_dflt (refine' Mine.len_N ?ζN ?ζm ?ζz ?_; (case ζN => k_asm); (case ζm => k_mem); (case ζz => ((try simp only [List.length_append, List.length_cons, List.length_nil] at *); omega))); intro t9 tk9))))
  (k_with "z call builtin:len" => (guard_hyp tg9 : True; row_timed "z" (fail "z"; (k_here; k_dflt (refine' Mine.len_1 ?ζN ?ζm ?_; (case ζN => k_asm); (case ζm => k_mem)); intro t9 tk9))))
  (k_with "z compareOp Eq int int" => (guard_hyp tg40 : True; row_timed "z" (fail "z"; (k_here; k_dflt first | (refine' Mine.eq_int_r true ?ζh ?_; (case ζh => (simp; done))) | (refine' Mine.eq_int_r false ?ζh ?_; (case ζh => (simp; omega))) | (refine' Mine.eq_int_r false ?ζh ?_; (case ζh => (simp; done)))))))
  (k_with "z subscriptTail Name Name ref int" => (guard_hyp tg40 : True; row_timed "z" (fail "z"; (k_here; k_dflt (refine' Mine.item_N ?ζN ?ζm ?ζa ?ζb ?ζc ?_; (case ζN => k_asm); (case ζm => k_mem); (case ζa => omega); (case ζb => omega); (case ζc => exact Mine.item_at))))))
  (k_with "z subscriptTail Name Name ref int" => (guard_hyp tg9 : True; row_timed "z" (fail "z"; (k_here; k_dflt (refine' Mine.item_N ?ζN ?ζm ?ζa ?ζb ?ζc ?_; (case ζN => k_asm); (case ζm => k_mem); (case ζa => decide); (case ζb => decide); (case ζc => exact rfl))))))
  (k_with "z callWith ref" => (guard_hyp tg11 : True; row_timed "z" (fail "z"; (k_here; (refine' Mine.at_callWith ?ζi9 ?_; (case ζi9 => with_reducible assumption)); k_dflt (first | (refine' callWith_F ?ζk1 ?_; (case ζk1 => exact FnAt.of (by k_asm) (by k_mem)); k_whole) | (refine' callWith_F0 ?ζk1 ?_; (case ζk1 => exact FnAt.of (by k_asm) (by k_mem)); k_whole; try dsimp only [List.nil_append, List.cons_append]))))))
  (k_with "z eval Name" => (guard_hyp tg11 : True; row_timed "z" (fail "z"; (k_here; kc_free; k_dflt (refine' nameX_F ?ζN ?ζc ?ζm ?ζd ?_ ?ζa ?ζb; (case ζa => rfl); (case ζb => rfl); (case ζN => k_asm); (case ζc => rfl); (case ζm => k_mem); (case ζd => k_asm); k_whole)))))
  (k_with "z exec For Tuple Subscript cons nil" => (guard_hyp tg11 : True; k_extra "mine for"))
  (k_with "mine offM" => (guard_hyp tg41 : True; row_timed "z" (fail "z"; first | (with_reducible assumption) | (refine' Mine.OffM.cons ?ζha9 ?ζhb9 ?ζhc9 ?ζhd9; (case ζha9 => k_extra "mine ne"); (case ζhb9 => k_extra "mine ne"); (case ζhc9 => k_extra "mine ne"); (case ζhd9 => k_extra "mine offM")) | (refine' Mine.OffM.app ?ζha9 ?ζhb9 ?ζhc9 ?ζhd9 ?ζhe9; (case ζha9 => with_reducible assumption); (case ζhb9 => k_mem); (case ζhc9 => k_mem); (case ζhd9 => k_mem); (case ζhe9 => k_extra "mine offM")))))
  (k_with "mine offM" => (guard_hyp tg42 : True; row_timed "z" (fail "z"; first | with_reducible assumption | (refine' Mine.OffM.app' ?ζha9 ?ζhb9 ?ζhc9 ?ζhd9 ?ζhe9; (case ζha9 => with_reducible assumption); (case ζhb9 => k_mem); (case ζhc9 => k_mem); (case ζhd9 => with_reducible assumption); (case ζhe9 => k_extra "mine offM")))))
  (k_with "mine offM" => (guard_hyp tg6 : True; row_timed "z" (fail "z"; first | (refine' Mine.OffM.app2 ?ζha9 ?ζhb9 ?ζhc9 ?ζhd9 ?ζhe9; (case ζha9 => with_reducible assumption); (case ζhb9 => k_mem); (case ζhc9 => k_mem); (case ζhd9 => with_reducible assumption); (case ζhe9 => k_extra "mine offM")) | fail)))
  (k_with "mine offM" => (guard_hyp tg24 : True; row_timed "z" (fail "z"; first | (with_reducible assumption) | exact Mine.OffM.nil | (refine' Mine.OffM.cons ?ζha9 ?ζhb9 ?ζhc9 ?ζhd9; (case ζha9 => k_extra "mine ne"); (case ζhb9 => k_extra "mine ne"); (case ζhc9 => k_extra "mine ne"); (case ζhd9 => k_extra "mine offM")) | (refine' Mine.OffM.app3 ?ζha9 ?ζhb9 ?ζhc9 ?ζhd9 ?ζhe9; (case ζha9 => k_extra "mine off"); (case ζhb9 => with_reducible assumption); (case ζhc9 => k_mem); (case ζhd9 => k_mem); (case ζhe9 => k_extra "mine offM")) | fail)))
  (k_with "mine corem" => (guard_hyp tg43 : True; row_timed "z" (fail "z"; (refine' Mine.CoreIn.mono ?ζsb ?ζtt; (case ζtt => with_reducible assumption); (case ζsb => k_extra "mine subs")))))
  (k_with "mine subs" => (guard_hyp tg0 : True; row_timed "z" (fail "z"; first | with_reducible exact Mine.sub_refl | ((with_reducible refine' Mine.sub_split ?ζs91 ?ζs92); (case ζs91 => k_extra "mine subs"); (case ζs92 => k_extra "mine subs")) | ((with_reducible refine Mine.sub_cons ?_); k_extra "mine subs") | with_reducible exact Mine.sub_left | ((with_reducible refine Mine.sub_app ?_); k_extra "mine subs") | ((with_reducible refine Mine.sub_appl ?_); k_extra "mine subs") | with_reducible assumption | ((with_reducible refine' Mine.sub_via ?ζs91 ?ζs92); (case ζs91 => with_reducible assumption); (case ζs92 => k_extra "mine subs")))))
  (k_with "mine subs" => (guard_hyp tg5 : True; row_timed "z" (fail "z"; first | with_reducible exact Mine.sub_refl | with_reducible assumption | ((with_reducible refine' Mine.vs_split ?ζs91 ?ζs92); (case ζs91 => k_extra "mine subs"); (case ζs92 => k_extra "mine subs")) | ((with_reducible refine Mine.sub_cons ?_); k_extra "mine subs") | with_reducible exact Mine.sub_left | ((with_reducible refine Mine.sub_app ?_); k_extra "mine subs") | ((with_reducible refine Mine.vs_appl ?_); k_extra "mine subs") | ((with_reducible refine' Mine.vs_consA ?ζs91 ?ζs92); (case ζs91 => k_mem); (case ζs92 => k_extra "mine subs")) | ((with_reducible refine' Mine.vs_via ?ζs91 ?ζs92); (case ζs91 => with_reducible assumption); (case ζs92 => k_extra "mine subs")) | fail)))
  (k_with "mine subs" => (guard_hyp tg36 : True; row_timed "z" (fail "z"; first | with_reducible exact Mine.sub_refl | ((with_reducible refine' Mine.sub_consA ?ζsA ?ζsB); (case ζsA => k_mem); (case ζsB => k_extra "mine subs")) | fail)))
  (k_with "mine off41" => (guard_hyp tg42 : True; row_timed "z" (fail "z"; first | (refine' Mine.ne_cons ?ζa ?ζb; (case ζa => first | decide | (show @Ne Nat _ _; omega)); (case ζb => k_extra "mine off41")) | (refine' Mine.OffM.off3 ?ζh; (case ζh => with_reducible assumption)))))
  (k_with "z subscriptTail Attribute Subscript Constant ref int" => (guard_hyp tg12 : True; row_timed "z" (fail "z"; (k_here; k_dflt (refine' Mine.item_N ?ζN ?ζm ?ζa ?ζb ?ζc ?_; (case ζN => k_asm); (case ζm => k_mem); (case ζa => decide); (case ζb => decide); (case ζc => exact rfl))))))
  (k_with "z UnrEnd" => (guard_hyp tg9 : True; row_timed "z" (fail "z"; (refine' Mine.endU ?ζeF ?ζeN ?ζeD ?ζeoff ?_; (case ζeF => k_asm); (case ζeN => k_asm); (case ζeD => k_extra "mine drop"); (case ζeoff => (k_extra "mine flat"; k_extra "mine off"))))))
  (k_with "z UnrEnd" => (guard_hyp tg37 : True; (k_here; refine Mine.Hold.out ?_)))
  (k_with "z subscriptTail Subscript Constant ref int" => (guard_hyp tg9 : True; row_timed "z" (fail "z"; (k_here; k_dflt (refine' Mine.item_T ?ζN ?ζm ?ζa ?ζb ?ζc ?ζd ?_; (case ζN => k_asm); (case ζm => k_mem); (case ζa => decide); (case ζb => decide); (case ζc => exact rfl); (case ζd => exact rfl))))))
  (k_with "z exec Assign cons ListComp" => (guard_hyp tg9 : True; row_timed "z" (fail "z"; (k_here; (refine' wpAny_Assign_Name ?_ ?ζhs9; (case ζhs9 => with_unfolding_all rfl)); k_whole))))
  (k_with "z eval Lambda" => (guard_hyp tg34 : True; row_timed "z" (fail "z"; (k_here; k_dflt (refine' kla_eval ?ζd0 ?_; (case ζd0 => exact rfl)); k_dflt (refine' Mine.lam_any (P := 1041) ?ζF ?ζN ?ζT ?ζC ?ζcd ?ζU ?ζst ?ζsub ?ζof ?ζcl ?_; (case ζF => k_asm); (case ζN => k_asm); (case ζT => k_asm); (case ζcd => exact rfl); (case ζC => (refine' codeHd_of_K ?ζx1 ?ζx2; (case ζx1 => k_asm); (case ζx2 => kernel_rfl))); (case ζU => k_updF); (case ζst => (refine' Mine.TabSt.mono ?ζsb ?ζtt; (case ζtt => k_asm); (case ζsb => exact Mine.sub_refl))); (case ζsub => k_extra "mine subs"); (case ζof => k_asm); (case ζcl => exact rfl); k_whole); intro f' c' oc' vs' t' ct' tl' h' tk' F' N' i' ca' m' m2' d1' d2' l1 ha'; (try dsimp only at N'); (try k_lt l1)))))
  (k_with "z eval Lambda" => (guard_hyp tg6 : True; row_timed "z" (fail "z"; (k_here; k_dflt (refine' kla_eval ?ζd0 ?_; (case ζd0 => exact rfl)); k_dflt (refine' Mine.lam_any (P := 1112) ?ζF ?ζN ?ζT ?ζC ?ζcd ?ζU ?ζst ?ζsub ?ζof ?ζcl ?_; (case ζF => k_asm); (case ζN => k_asm); (case ζT => k_asm); (case ζcd => exact rfl); (case ζC => (refine' codeHd_of_K ?ζx1 ?ζx2; (case ζx1 => k_asm); (case ζx2 => kernel_rfl))); (case ζU => k_updF); (case ζst => (refine' Mine.TabSt.mono ?ζsb ?ζtt; (case ζtt => k_asm); (case ζsb => exact Mine.sub_refl))); (case ζsub => k_extra "mine subs"); (case ζof => (refine' Mine.OffM.off2 ?ζh; (case ζh => k_asm))); (case ζcl => exact rfl); k_whole); intro f' c' oc' vs' t' ct' tl' h' tk' F' N' i' ca' m' m2' d1' d2' l1 ha'; (try dsimp only at N'); (try k_lt l1); refine Mine.Hold.out ?_))))
  (k_with "mine offnd" => (guard_hyp tg13 : True; row_timed "z" (fail "z"; first | (refine' Mine.ne_cons ?ζa ?ζb; (case ζa => first | decide | k_extra "mine ne"); (case ζb => k_extra "mine offnd")) | (refine' Mine.OffM.off1 ?ζh; (case ζh => k_extra "mine offM")))))
  (k_with "mine offnd" => (guard_hyp tg44 : True; row_timed "z" (fail "z"; first | (refine' Mine.ne_cons ?ζa ?ζb; (case ζa => first | decide | k_extra "mine ne"); (case ζb => k_extra "mine offnd")) | with_reducible assumption | fail)))
  (k_with "mine offnd" => (guard_hyp tg19 : True; row_timed "z" (fail "z"; first | (refine' Mine.ne_cons ?ζa ?ζb; (case ζa => first | decide | k_extra "mine ne"); (case ζb => k_extra "mine offnd")) | (refine' Mine.OffM.off1 ?ζh; (case ζh => k_extra "mine offM")) | (refine' Mine.ne_app ?ζa ?ζb; (case ζa => (refine' Mine.ne_above ?ζum ?ζun; (case ζum => with_reducible assumption); (case ζun => k_mem))); (case ζb => k_extra "mine offnd")))))
  (k_with "mine ltd" => (guard_hyp tg6 : True; row_timed "z" (fail "z"; first | with_reducible assumption | (refine' Mine.ltd_all ?ζh9; (case ζh9 => with_reducible assumption)) | (refine' Mine.ltd_succ ?ζh9; (case ζh9 => k_extra "mine ltd")))))
  (k_with "mine offc" => (guard_hyp tg6 : True; row_timed "z" (fail "z"; first | (refine' Mine.ne_cons ?ζa ?ζb; (case ζa => first | decide | (show @Ne Nat _ _; omega)); (case ζb => k_extra "mine offc")) | (refine' Mine.ltd_ne ?ζh; (case ζh => k_extra "mine ltd")))))
  (k_with "mine updc" => (guard_hyp tg6 : True; row_timed "z" (fail "z"; first | ((with_reducible refine' UpdF.head ?ζua); (case ζua => (k_extra "mine flat"; k_extra "mine offc"))) | (refine' UpdF.tail ?ζua ?ζub; (case ζua => (show @Ne Nat _ _; omega)); (case ζub => k_extra "mine updc")))))
  (k_with "z storeName" => (guard_hyp tg6 : True; row_timed "z" (fail "z"; (k_here; (with_reducible show wpAny _ _ (storeName _ (PySem.Str.ofString "again") _) _ _ _); k_dflt (refine' storeX_C ?ζF ?ζN ?ζc ?ζU ?ζd ?_ ?ζa ?ζb; (case ζa => rfl); (case ζb => rfl); (case ζF => k_asm); (case ζN => k_asm); (case ζc => rfl); (case ζU => k_extra "mine updc"); (case ζd => k_asm); k_whole); intro h' o' F' N' d'; (try dsimp only at N')))))
  (k_with "mine off12" => (guard_hyp tg19 : True; row_timed "z" (fail "z"; first | (refine' Mine.ne_cons ?ζa ?ζb; (case ζa => first | decide | k_extra "mine ne"); (case ζb => k_extra "mine off12")) | (refine' Mine.OffM.off2 ?ζh; (case ζh => k_extra "mine offM")))))
  (k_with "mine kla" => (guard_hyp tg6 : True; row_timed "z" (fail "z"; (refine' kla_code ?ζk1 ?ζk2 ?ζk3 ?ζk4 ?ζk5 ?ζkA ?ζkF ?ζkK ?ζk6 ?ζk7 ?ζk8 ?ζk9 ?ζkB ?_ ?ζc2 ?ζc3 ?ζc4 ?ζc5; (case ζkA => exact rfl); (case ζkF => exact rfl); (case ζkK => k_asm); (case ζk1 => k_asm); (case ζk2 => k_asm); (case ζk3 => k_asm); (case ζk4 => k_asm); (case ζk5 => k_asm); (case ζk6 => k_mem); (case ζk7 => exact codeRec_news (by k_asm) (by k_mem) (by k_asm) (by k_asm)); (case ζk8 => k_room); (case ζk9 => exact rfl); (case ζc5 => decide); (case ζkB => exact locs rfl); (case ζc2 => exact rfl); (case ζc3 => exact rfl); (case ζc4 => exact rfl); k_whole; intro g' L' h' FG' F' N' B' X' T'; (try dsimp only); (try k_fold)))))
  (k_with "k_mem" => (guard_hyp tg6 : True; row_timed "z" (fail "z"; first | ((with_reducible refine' Mine.mem_via ?ζs91 ?ζs92); (case ζs91 => with_reducible assumption); (case ζs92 => k_mem)) | fail)))
  (k_with "k_mem" => (guard_hyp tg5 : True; row_timed "z" (fail "z"; first | ((with_reducible refine' Mine.vs_mem3 ?ζm9 ?ζs9); (case ζm9 => with_reducible assumption); (case ζs9 => k_extra "mine subs")) | fail)))
  (k_with "k_mem" => (guard_hyp tg5 : True; row_timed "z" (fail "z"; first | ((with_reducible refine' Mine.vs_mem ?ζs91 ?ζs92); (case ζs91 => with_reducible assumption); (case ζs92 => k_mem)) | fail)))
  (k_with "mine core" => (guard_hyp tg5 : True; row_timed "z" (fail "z"; first | with_reducible assumption | (refine' Mine.CoreIn.mono ?ζs ?ζc; (case ζc => with_reducible assumption); (case ζs => k_extra "mine subs")) | ((with_reducible refine' Mine.CoreIn.lit ?ζa ?ζb); (case ζa => k_mem); (case ζb => k_mem)))))
  (k_with "mine kvs" => (guard_hyp tg5 : True; row_timed "z" (fail "z"; first | with_reducible assumption | (refine' Mine.KvsIn.mono ?ζs ?ζc; (case ζc => with_reducible assumption); (case ζs => k_extra "mine subs")) | ((with_reducible refine' Mine.KvsIn.bind ?ζa ?ζb ?ζc ?ζd); (case ζa => k_extra "mine kvs"); (case ζb => k_mem); (case ζc => k_extra "mine core"); (case ζd => k_extra "mine env0")))))
  (k_with "mine kvs" => (guard_hyp tg1 : True; with_reducible exact Mine.KvsIn.nil))
  (k_with "mine env0" => (guard_hyp tg5 : True; row_timed "z" (fail "z"; first | with_reducible assumption | (refine' Mine.EnvIn.mono ?ζs ?ζc; (case ζc => with_reducible assumption); (case ζs => k_extra "mine subs")) | ((with_reducible refine' Mine.EnvIn.ofKvs ?ζa ?ζb ?ζc ?ζd); (case ζa => k_mem); (case ζb => k_asm); (case ζc => k_asm); (case ζd => exact Mine.KvsIn.nil)))))
  (k_with "mine env" => (guard_hyp tg5 : True; row_timed "z" (fail "z"; first | with_reducible assumption | (refine' Mine.EnvIn.mono ?ζs ?ζc; (case ζc => with_reducible assumption); (case ζs => k_extra "mine subs")) | ((with_reducible refine' Mine.EnvIn.recb ?ζa ?ζb ?ζc ?ζd ?ζe ?ζf); (case ζa => k_mem); (case ζb => k_asm); (case ζc => k_asm); (case ζd => k_extra "mine kvs"); (case ζe => k_mem); (case ζf => k_extra "mine core")) | ((with_reducible refine' Mine.EnvIn.ofKvs ?ζa ?ζb ?ζc ?ζd); (case ζa => k_mem); (case ζb => k_asm); (case ζc => k_asm); (case ζd => k_extra "mine kvs")))))
  (k_with "mine val" => (guard_hyp tg5 : True; row_timed "z" (fail "z"; first | exact Mine.ValIn.int | (refine' Mine.ValIn.mono ?ζs ?ζc; (case ζc => with_reducible assumption); (case ζs => k_extra "mine subs")) | (refine' Mine.ValIn.con0 ?ζa ?ζb; (case ζa => k_mem); (case ζb => k_mem)) | (refine' Mine.ValIn.con2 ?ζa ?ζb ?ζc ?ζd ?ζe ?ζf ?ζg; (case ζa => k_mem); (case ζb => k_mem); (case ζc => k_mem); (case ζd => k_mem); (case ζe => k_extra "mine core"); (case ζf => k_extra "mine core"); (case ζg => k_extra "mine env")) | (refine' Mine.ValIn.fn ?ζa ?ζb ?ζc ?ζd; (case ζa => k_mem); (case ζb => k_mem); (case ζc => k_extra "mine core"); (case ζd => k_extra "mine env")))))
  (k_with "mine end" => (guard_hyp tg5 : True; row_timed "z" (fail "z"; ((rename ∀ _ _ _ _, Fr _ _ _ _ → _ => ζret'); (refine' Mine.end8 ζret' ?ζF ?ζN ?ζP ?ζA ?ζV; (case ζF => k_asm); (case ζN => k_asm); (case ζP => k_extra "mine pre"); (case ζA => (k_extra "mine flat"; k_extra "mine above")); (case ζV => k_extra "mine val"))))))
  (k_with "z call type:dict" => (guard_hyp tg5 : True; row_timed "z" (fail "z"; (k_here; (with_reducible show wpAny _ _ (call (Value.type "dict") [Value.ref _]) _ _ _); k_dflt (refine' Mine.env_copy ?ζF ?ζN ?ζB ?ζe ?ζu ?ζs ?_; (case ζF => k_asm); (case ζN => k_asm); (case ζB => exact Top.nolimit (by k_asm)); (case ζe => with_reducible assumption); (case ζu => k_extra "mine subs"); (case ζs => with_reducible assumption)); intro d' h' o' kvs' F' N' l1 lo' hd' hk' hz'; (try k_lt l1)))))
  (k_with "z call type:dict" => (guard_hyp tg35 : True; row_timed "z" (fail "z"; (k_here; (with_reducible show wpAny _ _ (call (Value.type "dict") [Value.ref _]) _ _ _); k_dflt (refine' Mine.dict_copy ?ζF ?ζN ?ζB ?ζm ?ζl ?ζd ?ζz ?_; (case ζF => k_asm); (case ζN => k_asm); (case ζB => exact Top.nolimit (by k_asm)); (case ζm => k_mem); (case ζd => k_asm); (case ζl => k_asm); (case ζz => omega)); intro d' h' o' F' N' l1 lo' hd'; (try k_lt l1)))))
  (k_with "z subscriptTail Subscript" => (guard_hyp tg1 : True; row_timed "z" (fail "z"; (k_here; k_dflt (first | (refine' Mine.item_T ?ζN ?ζm ?ζa ?ζb ?ζc ?ζd ?_; (case ζN => k_asm); (case ζm => k_mem); (case ζa => decide); (case ζb => decide); (case ζc => exact rfl); (case ζd => exact rfl)) | (refine' Mine.item_N ?ζN ?ζm ?ζa ?ζb ?ζc ?_; (case ζN => k_asm); (case ζm => k_mem); (case ζa => decide); (case ζb => decide); (case ζc => exact rfl)))))))
  (k_with "z call builtin:dict.update" => (guard_hyp tg35 : True; row_timed "z" (fail "z"; (k_here; k_dflt (refine' Mine.upd_dict ?ζF ?ζN ?ζU ?ζd ?ζm ?ζe ?ζl ?ζn ?ζz ?_; (case ζF => k_asm); (case ζN => k_asm); (case ζU => k_updF); (case ζd => k_asm); (case ζm => k_mem); (case ζe => with_reducible assumption); (case ζl => k_asm); (case ζn => k_extra "mine ne"); (case ζz => omega)); intro h' o' F' N' hd'; (try dsimp only at N')))))
  (k_with "z eval Dict" => (guard_hyp tg35 : True; row_timed "z" (fail "z"; (k_here; k_dflt (refine' kdn_eval (knd := PySem.strKind _ _) ?ζF ?ζN ?ζB ?ζa ?ζb ?ζc ?ζd ?_; (case ζF => k_asm); (case ζN => k_asm); (case ζB => exact Top.nolimit (by k_asm)); (case ζa => rfl); (case ζb => rfl); (case ζc => exact List.cons_ne_nil _ _); (case ζd => decide)); intro d' h' o' F' N' l1 lo' hd'; (try k_lt l1)))))
  (k_with "z KdnMade" => (guard_hyp tg35 : True; row_timed "z" (fail "z"; (k_dflt (refine' kdn_made_str ?ζF ?ζN ?ζU ?ζd ?ζk ?ζn ?_; (case ζF => k_asm); (case ζN => k_asm); (case ζU => k_updF); (case ζd => k_asm); (case ζk => rfl); (case ζn => exact List.nodup_cons.mpr ⟨List.not_mem_nil, List.nodup_nil⟩)); intro h' o' F' N' hd'; (try dsimp only at N')))))
  (k_with "z subscriptTail Name Name ref str" => (guard_hyp tg31 : True; row_timed "z" (fail "z"; (k_here; k_dflt (refine' Mine.known_item ?ζN ?ζm ?ζl ?ζd ?ζk ?ζi ?_; (case ζN => k_asm); (case ζm => k_mem); (case ζd => k_asm); (case ζl => k_asm); (case ζk => with_reducible assumption); (case ζi => k_asm)); intro t9))))
  (k_with "z CompSrc" => (guard_hyp tg31 : True; row_timed "z" (fail "z"; (k_here; k_dflt (refine' Mine.kn_src ?ζhk ?ζhh ?ζF ?ζN ?ζm ?ζs ?ζd ?ζz (fun y9 t9 ys9 I' oI' C' oC' D' m' h' tk' E' hy9 hC' hx' F' N' off' ne' => ?_) (fun g9 ys9 hi9 => ?_); (case ζhk => k_asm); (case ζhh => exact rfl); (case ζF => k_asm); (case ζN => k_asm); (case ζm => k_mem); (case ζs => k_asm); (case ζd => k_asm); (case ζz => omega))))))
  (k_with "z CompSrc" => (guard_hyp tg24 : True; row_timed "z" (fail "z"; (k_here; k_dflt (refine' Mine.stmts_src ?ζr ?ζo ?ζhh ?ζF ?ζN ?ζm ?ζz (fun ra9 r9 tl9 ys9 I' oI' C' oC' D' m' h' tk' E' hy9 ho9 hC' hx' F' N' off' ne' => ?_) (fun g9 ys9 tl9 hs9 ha9 => ?_); (case ζhh => exact rfl); (case ζF => k_asm); (case ζN => k_asm); (case ζm => k_mem); (case ζr => (refine' Mine.RowsT.mono ?ζsb ?ζtt; (case ζtt => with_reducible assumption); (case ζsb => k_extra "mine subs"))); (case ζo => k_asm); (case ζz => omega))))))
  (k_with "z call builtin:sum" => (guard_hyp tg31 : True; row_timed "z" (fail "z"; (k_here; (with_reducible show wpAny _ _ (call (Value.builtin "sum") [Value.ref _]) _ _ _); k_dflt (refine' sumK ?ζhh ?ζF ?ζN ?ζl ?ζi ?_; (case ζhh => exact rfl); (case ζF => k_asm); (case ζN => k_asm); (case ζl => exact Mine.isList_of (by k_asm) (by k_mem)); (case ζi => k_asm)); intro h' tk' t' F' N'))))
  (k_with "mine bound" => (guard_hyp tg45 : True; (refine (‹_ → Nat.le _ 500› : _ → _) ?_; k_asm)))
  (k_with "mine bound" => (guard_hyp tg28 : True; row_timed "z" (fail "z"; ((rename Mine.Bnd9 _ _ _ => ζhb9); exact ζhb9 _ (by k_asm)))))
  (k_with "z exec For Name Call cons nil" => (guard_hyp tg37 : True; row_timed "z" (fail "z"; (k_here; (rename Fr _ _ _ _ => ζlF'); (with_unfolding_all refine' For_invVF ζlF' ?ζk1 ?ζk2 ?_; (case ζk1 => exact rfl); (case ζk2 => exact rfl); k_whole)))))
  (k_with "z call type:range" => (guard_hyp tg29 : True; row_timed "z" (fail "z"; (k_here; k_dflt (refine' range1_rows ?ζF ?ζN ?_; (case ζF => k_asm); (case ζN => k_asm)); intro h' tk' t1' u1' v1' R' F' N' e'))))
  (k_with "z CompSrcT" => (guard_hyp tg32 : True; row_timed "z" (fail "z"; (k_here; k_dflt (refine' Mine.some_src ?ζi ?ζhh ?ζF ?ζN ?ζD ?ζho ?ζm ?ζs ?ζz (fun y9 t9 ys9 o9 I' oI' C' oC' D' m' h' tk' E' hy9 ho9 hC' hx' F' N' off' ne' ne9' => ?_) (fun g9 ys9 done9 o9 hs9 hin9 hl9 ho9 => ?_); (case ζi => k_asm); (case ζhh => exact rfl); (case ζF => k_asm); (case ζN => k_asm); (case ζD => k_extra "mine drop"); (case ζho => k_asm); (case ζm => k_mem); (case ζs => k_asm); (case ζz => omega))))))
  (k_with "mine subt" => (guard_hyp tg24 : True; row_timed "z" (fail "z"; first
      | exact Mine.subT_nil
      | (refine' Mine.subT_of ?ζh9; (case ζh9 => k_extra "ar sub"))
      | ((with_reducible refine' Mine.subT_app ?ζa9 ?ζb9); (case ζa9 => k_extra "mine subt"); (case ζb9 => k_extra "mine subt"))
      | (refine' Mine.subT_tab ?ζa9 ?ζb9; (case ζa9 => exact rfl); (case ζb9 => k_extra "mine subt"))
      | (refine' Mine.subT_cons ?ζa9 ?ζb9; (case ζa9 => k_mem); (case ζb9 => k_extra "mine subt"))
      | fail)))
  (k_with "z compareOp Eq ref ref" => (guard_hyp tg24 : True; row_timed "z" (fail "z"; (k_here; k_dflt (refine' Mine.eq_ints9 ?ζN ?ζa ?ζb ?ζi ?ζj ?ζu ?_; (case ζN => k_asm); (case ζa => k_mem); (case ζb => exact List.mem_cons_of_mem _ (S9 _ (S8 _ (.head _)))); (case ζi => k_asm); (case ζj => k_asm); (case ζu => k_extra "mine units")); refine Mine.Hold.out ?_))))
  (k_with "ar ne" => (guard_hyp tg24 : True; row_timed "z" (fail "z"; first
      | (refine' Mine.ne_memN ?ζh9 ?ζm9; (case ζh9 => with_reducible assumption); (case ζm9 => k_mem))
      | (refine' Ne.symm (Mine.ne_memN ?ζh9 ?ζm9); (case ζh9 => with_reducible assumption); (case ζm9 => k_mem))
      | (refine' Mine.ne_off1 ?ζh9 ?ζm9; (case ζh9 => with_reducible assumption); (case ζm9 => k_mem))
      | (refine' Ne.symm (Mine.ne_off1 ?ζh9 ?ζm9); (case ζh9 => with_reducible assumption); (case ζm9 => k_mem))
      | fail)))
  trivial
theorem Mine.rules_e : True := by
  (k_with "mine memc" => row_timed "z" (fail "z"; first | with_reducible exact List.mem_cons_self | ((with_reducible refine' List.mem_cons_of_mem _ ?_); k_extra "mine memc") | ((with_reducible refine' List.mem_append_right _ ?_); k_extra "mine memc") | ((with_reducible refine' List.mem_append_left _ ?_); k_extra "mine memc") | with_reducible assumption | ((with_reducible refine' Mine.sp_mem2 ?ζs9 ?ζm9); (case ζs9 => with_reducible assumption); (case ζm9 => k_extra "mine memc")) | fail))
  (k_with "mine subq" => row_timed "z" (fail "z"; first | with_reducible exact Mine.sub_refl | ((with_reducible refine' Mine.sub_cons ?ζs9); (case ζs9 => k_extra "mine subq")) | ((with_reducible refine' Mine.sub_app ?ζs9); (case ζs9 => k_extra "mine subq")) | with_reducible exact Mine.sub_left | with_reducible assumption | ((with_reducible refine' Mine.sp_via ?ζs91 ?ζs92); (case ζs91 => with_reducible assumption); (case ζs92 => k_extra "mine subq"))))
  (k_with "mine memn" => row_timed "z" (fail "z"; first | with_reducible assumption | ((with_reducible refine' Mine.sp_mem ?ζm9 ?ζs9); (case ζm9 => with_reducible assumption); (case ζs9 => k_extra "mine subq")) | k_extra "mine memc"))
  (k_with "k_mem" => k_extra "mine memn")
  (k_with "mine ltq" => row_timed "z" (fail "z"; first | with_reducible assumption | ((with_reducible refine' Mine.lt_mem ?ζh9 ?ζm9); (case ζh9 => with_reducible assumption); (case ζm9 => k_extra "mine memc")) | ((with_reducible refine' Mine.lt_memT ?ζh9 ?ζg9 ?ζm9); (case ζh9 => with_reducible assumption); (case ζg9 => with_reducible assumption); (case ζm9 => k_extra "mine memc"))))
  (k_with "ar lt" => row_timed "z" (fail "z"; first | with_reducible assumption | ((with_reducible refine' Mine.lt_mem ?ζh9 ?ζm9); (case ζh9 => with_reducible assumption); (case ζm9 => k_extra "mine memn")) | ((with_reducible refine' Mine.lt_memT ?ζh9 ?ζg9 ?ζm9); (case ζh9 => with_reducible assumption); (case ζg9 => with_reducible assumption); (case ζm9 => k_extra "mine memn")) | ((with_reducible refine' Mine.lt_memK1 ?ζh9 ?ζm9); (case ζh9 => with_reducible assumption); (case ζm9 => k_extra "mine memn")) | ((with_reducible refine' Mine.lt_memK2 ?ζh9 ?ζm9); (case ζh9 => with_reducible assumption); (case ζm9 => k_extra "mine memn")) | ((with_reducible refine' Mine.lt_memK3 ?ζh9 ?ζm9); (case ζh9 => with_reducible assumption); (case ζm9 => k_extra "mine memn")) | ((with_reducible refine' Mine.lt_memK4 ?ζh9 ?ζm9); (case ζh9 => with_reducible assumption); (case ζm9 => k_extra "mine memn")) | ((with_reducible refine' Mine.lt_memK5 ?ζh9 ?ζm9); (case ζh9 => with_reducible assumption); (case ζm9 => k_extra "mine memn"))))
  (k_with "ar ne" => row_timed "z" (fail "z"; first | with_reducible assumption | ((with_reducible refine' Ne.symm ?ζh9); (case ζh9 => with_reducible assumption)) | ((with_reducible refine' Nat.ne_of_gt ?ζh9); (case ζh9 => k_extra "mine ltq")) | ((with_reducible refine' Nat.ne_of_lt ?ζh9); (case ζh9 => k_extra "mine ltq")) | ((with_reducible refine' Nat.ne_of_gt ?ζh9); (case ζh9 => k_extra "ar lt")) | ((with_reducible refine' Nat.ne_of_lt ?ζh9); (case ζh9 => k_extra "ar lt"))))
  (k_with "k_updF" => row_timed "z" (fail "z"; first | ((with_reducible refine' UpdF.head ?ζa9); (case ζa9 => k_all)) | ((with_reducible refine' Mine.updF_tail ?ζa9 ?ζb9); (case ζa9 => with_reducible assumption); (case ζb9 => k_updF)) | ((with_reducible refine' Mine.updF_mk ?ζc9 ?ζa9 ?ζb9); (case ζa9 => with_reducible assumption); (case ζc9 => with_reducible assumption); (case ζb9 => k_updF)) | ((with_reducible refine' Mine.updF_mk3 ?ζd9 ?ζc9 ?ζa9 ?ζb9); (case ζa9 => with_reducible assumption); (case ζc9 => with_reducible assumption); (case ζd9 => with_reducible assumption); (case ζb9 => k_updF))))
  (k_with "k_in" => row_timed "z" (fail "z"; first | with_reducible assumption | (refine' Mine.inKeep ?ζf9 ?ζx9; (case ζf9 => k_asm); (case ζx9 => k_asm))))
  (k_with "z ite" => row_timed "z" (fail "z"; first | ((with_reducible refine' Mine.iteT ?ζe9 ?_); (case ζe9 => kernel_rfl!)) | ((with_reducible refine' Mine.iteF ?ζe9 ?_); (case ζe9 => kernel_rfl!))))
  (k_with "ar room" => row_timed "z" (fail "z"; first
      | ((with_reducible refine' Mine.room0 ?ζh9 ?ζe9); (case ζh9 => with_reducible assumption); (case ζe9 => exact Eq.refl true))
      | ((with_reducible refine' Mine.room00 ?ζh9); (case ζh9 => with_reducible assumption))
      | ((with_reducible refine' Mine.room1 ?ζh9 ?ζe9); (case ζh9 => with_reducible assumption); (case ζe9 => exact Eq.refl true))
      | ((with_reducible refine' Mine.room2 ?ζh9 ?ζe9); (case ζh9 => with_reducible assumption); (case ζe9 => exact Eq.refl true))
      | ((with_reducible refine' Mine.room3 ?ζh9 ?ζe9); (case ζh9 => with_reducible assumption); (case ζe9 => exact Eq.refl true))
      | fail))
  (k_with "mine arith" => row_timed "z" (fail "z"; first
      | ((with_reducible refine' Mine.rk1 ?ζh9 ?ζe9); (case ζh9 => with_reducible assumption); (case ζe9 => exact Eq.refl true))
      | ((with_reducible refine' Mine.rk2 ?ζh9 ?ζe9); (case ζh9 => with_reducible assumption); (case ζe9 => exact Eq.refl true))
      | ((with_reducible refine' Mine.rk3 ?ζh9 ?ζe9); (case ζh9 => with_reducible assumption); (case ζe9 => exact Eq.refl true))
      | ((with_reducible refine' Mine.rk4 ?ζh9 ?ζe9); (case ζh9 => with_reducible assumption); (case ζe9 => exact Eq.refl true))
      | ((with_reducible refine' Mine.rk5 ?ζh9 ?ζe9); (case ζh9 => with_reducible assumption); (case ζe9 => exact Eq.refl true))
      | ((with_reducible refine' Mine.rq1 ?ζh9 ?ζe9); (case ζh9 => with_reducible assumption); (case ζe9 => exact Eq.refl true))
      | ((with_reducible refine' Mine.rq2 ?ζh9 ?ζe9); (case ζh9 => with_reducible assumption); (case ζe9 => exact Eq.refl true))
      | ((with_reducible refine' Mine.rq3 ?ζh9 ?ζe9); (case ζh9 => with_reducible assumption); (case ζe9 => exact Eq.refl true))
      | ((with_reducible refine' Mine.rs1 ?ζh9 ?ζe9); (case ζh9 => with_reducible assumption); (case ζe9 => exact Eq.refl true))
      | ((with_reducible refine' Mine.rs2 ?ζh9 ?ζe9); (case ζh9 => with_reducible assumption); (case ζe9 => exact Eq.refl true))
      | ((with_reducible refine' Mine.rs3 ?ζh9 ?ζe9); (case ζh9 => with_reducible assumption); (case ζe9 => exact Eq.refl true))
      | ((with_reducible refine' Mine.rt1 ?ζh9 ?ζe9); (case ζh9 => with_reducible assumption); (case ζe9 => exact Eq.refl true))
      | ((with_reducible refine' Mine.ru1 ?ζh9 ?ζe9); (case ζh9 => with_reducible assumption); (case ζe9 => exact Eq.refl true))
      | ((with_reducible refine' Mine.ru2 ?ζh9 ?ζe9); (case ζh9 => with_reducible assumption); (case ζe9 => exact Eq.refl true))
      | ((with_reducible refine' Mine.ru3 ?ζh9 ?ζe9); (case ζh9 => with_reducible assumption); (case ζe9 => exact Eq.refl true))
      | ((with_reducible refine' Mine.ru4 ?ζh9 ?ζe9); (case ζh9 => with_reducible assumption); (case ζe9 => exact Eq.refl true))
      | ((with_reducible refine' Mine.rd3 ?ζh9 ?ζe9); (case ζh9 => with_reducible assumption); (case ζe9 => exact Eq.refl true))
      | ((with_reducible refine' Mine.rd4 ?ζh9 ?ζe9); (case ζh9 => with_reducible assumption); (case ζe9 => exact Eq.refl true))
      | fail))
  (k_with "z execs cons" => row_timed "z" (fail "z"; (k_here; (with_reducible show wpAny _ _ (execs (Stmt.If (PySem.Expr.Call (PySem.Expr.Name _ _) [PySem.Expr.Name _ _, PySem.Expr.Name _ _] [] _) _ _ _ :: _) _) _ _ _); k_dflt (first
      | ((with_reducible show wpAny _ _ (execs (Stmt.If _ _ [] _ :: _) _) _ _ _); (with_reducible refine' Mine.ifIsiF' ?ζiE ?ζiF ?ζiN ?ζiX ?ζiT ?ζiv ?ζia ?ζib ?ζic ?ζid ?ζie ?_); (case ζiE => exact rfl); (case ζiF => k_asm); (case ζiN => k_asm); (case ζiX => k_asm); (case ζiT => k_asm); (case ζiv => first | k_extra "mine lk" | eq_refl); (case ζia => k_extra "mine memn"); (case ζib => k_extra "mine memn"); (case ζic => k_is); (case ζid => k_is); (case ζie => kernel_rfl); intro tk9)
      | ((with_reducible refine' Mine.ifIsiT' ?ζiE ?ζiF ?ζiN ?ζiX ?ζiT ?ζiv ?ζia ?ζib ?ζic ?ζid ?ζie ?_); (case ζiE => exact rfl); (case ζiF => k_asm); (case ζiN => k_asm); (case ζiX => k_asm); (case ζiT => k_asm); (case ζiv => first | k_extra "mine lk" | eq_refl); (case ζia => k_extra "mine memn"); (case ζib => k_extra "mine memn"); (case ζic => k_is); (case ζid => k_is); (case ζie => kernel_rfl); intro tk9)))))
  (k_with "z eval Name" => row_timed "z" (fail "z"; (k_here; k_dflt (first
      | ((with_reducible refine' Mine.nmL' ?ζiE ?ζiF ?ζiv ?ζio ?_); (case ζiE => exact rfl); (case ζiF => k_asm); (case ζiv => k_extra "mine lk"); (case ζio => kernel_rfl); k_whole)
      | ((with_reducible refine' Mine.nmK' ?ζiE ?ζiF ?ζiX ?ζiT ?ζie ?ζio ?_); (case ζiE => exact rfl); (case ζiF => k_asm); (case ζiX => k_asm); (case ζiT => k_asm); (case ζie => k_is); (case ζio => kernel_rfl); k_whole)
      | ((with_reducible refine' Mine.nmB' ?ζiE ?ζiF ?ζiX ?ζiT ?ζie ?ζiv ?ζio ?_); (case ζiE => exact rfl); (case ζiF => k_asm); (case ζiX => k_asm); (case ζiT => k_asm); (case ζie => k_is); (case ζiv => boot_fast); (case ζio => kernel_rfl); k_whole)
      | ((with_reducible refine' Mine.nmL' ?ζiE ?ζiF ?ζiv ?ζio ?_); (case ζiE => exact rfl); (case ζiF => k_asm); (case ζiv => eq_refl); (case ζio => kernel_rfl); k_whole)))))
  (k_with "z eval Attribute Name" => row_timed "z" (fail "z"; (k_here; k_dflt ((with_reducible refine' Mine.attrL' ?ζiE ?ζiF ?ζiN ?ζiX ?ζiv ?ζia ?ζib ?ζio ?ζic ?ζid ?ζie ?ζig ?ζih ?ζij ?_); (case ζiE => exact rfl); (case ζiF => k_asm); (case ζiN => k_asm); (case ζiX => k_asm); (case ζiv => first | k_extra "mine lk" | eq_refl); (case ζia => k_mem); (case ζib => k_mem); (case ζio => kernel_rfl); (case ζic => k_is); (case ζid => k_is); (case ζie => k_is); (case ζig => k_is); (case ζih => k_get); (case ζij => k_handed); k_whole); intro tk9)))
  (k_with "z eval Call" => row_timed "z" (fail "z"; (k_here; k_dflt (first
      | ((with_reducible show wpAny _ _ (eval (PySem.Expr.Call (PySem.Expr.Name _ _) [PySem.Expr.Name _ _] [] _) _) _ _ _); (with_reducible refine' Mine.callL1' ?ζiE ?ζiF ?ζiX ?ζiT ?ζie ?ζik ?ζia ?ζio ?_); (case ζiE => exact rfl); (case ζiF => k_asm); (case ζiX => k_asm); (case ζiT => k_asm); (case ζie => k_is); (case ζik => k_is); (case ζia => first | k_extra "mine lk" | exact rfl); (case ζio => kernel_rfl); k_whole)
      | ((with_reducible show wpAny _ _ (eval (PySem.Expr.Call (PySem.Expr.Name _ _) [PySem.Expr.Name _ _, PySem.Expr.Name _ _] [] _) _) _ _ _); (with_reducible refine' Mine.callL2' ?ζiE ?ζiF ?ζiX ?ζiT ?ζie ?ζik ?ζia ?ζib ?ζio ?_); (case ζiE => exact rfl); (case ζiF => k_asm); (case ζiX => k_asm); (case ζiT => k_asm); (case ζie => k_is); (case ζik => k_is); (case ζia => first | k_extra "mine lk" | exact rfl); (case ζib => first | k_extra "mine lk" | exact rfl); (case ζio => kernel_rfl); k_whole)
      | ((with_reducible show wpAny _ _ (eval (PySem.Expr.Call (PySem.Expr.Name _ _) [PySem.Expr.Name _ _, PySem.Expr.Name _ _, PySem.Expr.Name _ _] [] _) _) _ _ _); (with_reducible refine' Mine.callL3' ?ζiE ?ζiF ?ζiX ?ζiT ?ζie ?ζik ?ζia ?ζib ?ζic ?ζio ?_); (case ζiE => exact rfl); (case ζiF => k_asm); (case ζiX => k_asm); (case ζiT => k_asm); (case ζie => k_is); (case ζik => k_is); (case ζia => first | k_extra "mine lk" | exact rfl); (case ζib => first | k_extra "mine lk" | exact rfl); (case ζic => first | k_extra "mine lk" | exact rfl); (case ζio => kernel_rfl); k_whole)))))
  (k_with "z call builtin:isinstance" => row_timed "z" (fail "z"; (k_here; (with_reducible show wpAny _ _ (call _ [Value.ref _, Value.type _]) _ _ _); k_dflt ((with_reducible refine' kia_one kitx_tuple ?ζiX (kitAt_N ?ζiN ?ζim ?ζic) ?ζie ?ζib ?_); (case ζiX => k_in); (case ζiN => k_asm); (case ζim => k_mem); (case ζic => exact rfl); (case ζie => kit_is); (case ζib => intro e; cases e); k_whole); intro tk9)))
  (k_with "z call ref" => row_timed "z" (fail "z"; (k_here; (with_reducible show wpAny _ _ (call (Value.ref _) _) _ _ _); k_dflt (first
      | ((first | with_reducible refine' Mine.mk_38 ?ζmkB ?ζmkF ?ζmkX ?ζmkN ?ζmkT ?ζmkA ?ζmkf ?ζmkk ?ζmkr ?_ | with_reducible refine' Mine.mk_80 ?ζmkB ?ζmkF ?ζmkX ?ζmkN ?ζmkT ?ζmkA ?ζmkf ?ζmkk ?ζmkr ?_ | with_reducible refine' Mine.mk_122 ?ζmkB ?ζmkF ?ζmkX ?ζmkN ?ζmkT ?ζmkA ?ζmkf ?ζmkk ?ζmkr ?_ | with_reducible refine' Mine.mk_162 ?ζmkB ?ζmkF ?ζmkX ?ζmkN ?ζmkT ?ζmkA ?ζmkf ?ζmkk ?ζmkr ?_ | with_reducible refine' Mine.mk_204 ?ζmkB ?ζmkF ?ζmkX ?ζmkN ?ζmkT ?ζmkA ?ζmkf ?ζmkk ?ζmkr ?_ | with_reducible refine' Mine.mk_242 ?ζmkB ?ζmkF ?ζmkX ?ζmkN ?ζmkT ?ζmkA ?ζmkf ?ζmkk ?ζmkr ?_ | with_reducible refine' Mine.mk_263 ?ζmkB ?ζmkF ?ζmkX ?ζmkN ?ζmkT ?ζmkA ?ζmkf ?ζmkk ?ζmkr ?_ | with_reducible refine' Mine.mk_303 ?ζmkB ?ζmkF ?ζmkX ?ζmkN ?ζmkT ?ζmkA ?ζmkf ?ζmkk ?ζmkr ?_ | with_reducible refine' Mine.mk_343 ?ζmkB ?ζmkF ?ζmkX ?ζmkN ?ζmkT ?ζmkA ?ζmkf ?ζmkk ?ζmkr ?_ | with_reducible refine' Mine.mk_383 ?ζmkB ?ζmkF ?ζmkX ?ζmkN ?ζmkT ?ζmkA ?ζmkf ?ζmkk ?ζmkr ?_ | with_reducible refine' Mine.mk_493 ?ζmkB ?ζmkF ?ζmkX ?ζmkN ?ζmkT ?ζmkA ?ζmkf ?ζmkk ?ζmkr ?_ | with_reducible refine' Mine.mk_518 ?ζmkB ?ζmkF ?ζmkX ?ζmkN ?ζmkT ?ζmkA ?ζmkf ?ζmkk ?ζmkr ?_ | with_reducible refine' Mine.mk_626 ?ζmkB ?ζmkF ?ζmkX ?ζmkN ?ζmkT ?ζmkA ?ζmkf ?ζmkk ?ζmkr ?_ | with_reducible refine' Mine.mk_653 ?ζmkB ?ζmkF ?ζmkX ?ζmkN ?ζmkT ?ζmkA ?ζmkf ?ζmkk ?ζmkr ?_ | with_reducible refine' Mine.mk_680 ?ζmkB ?ζmkF ?ζmkX ?ζmkN ?ζmkT ?ζmkA ?ζmkf ?ζmkk ?ζmkr ?_ | with_reducible refine' Mine.mk_707 ?ζmkB ?ζmkF ?ζmkX ?ζmkN ?ζmkT ?ζmkA ?ζmkf ?ζmkk ?ζmkr ?_ | with_reducible refine' Mine.mk_734 ?ζmkB ?ζmkF ?ζmkX ?ζmkN ?ζmkT ?ζmkA ?ζmkf ?ζmkk ?ζmkr ?_ | with_reducible refine' Mine.mk_761 ?ζmkB ?ζmkF ?ζmkX ?ζmkN ?ζmkT ?ζmkA ?ζmkf ?ζmkk ?ζmkr ?_ | with_reducible refine' Mine.mk_788 ?ζmkB ?ζmkF ?ζmkX ?ζmkN ?ζmkT ?ζmkA ?ζmkf ?ζmkk ?ζmkr ?_ | with_reducible refine' Mine.mk_1009 ?ζmkB ?ζmkF ?ζmkX ?ζmkN ?ζmkT ?ζmkA ?ζmkf ?ζmkk ?ζmkr ?_ | with_reducible refine' Mine.mk_1176 ?ζmkB ?ζmkF ?ζmkX ?ζmkN ?ζmkT ?ζmkA ?ζmkf ?ζmkk ?ζmkr ?_ | with_reducible refine' Mine.mk_842 ?ζmkB ?ζmkF ?ζmkX ?ζmkN ?ζmkT ?ζmkA ?ζmkf ?ζmkk ?ζmkr ?_); (case ζmkF => k_asm); (case ζmkN => k_asm); (case ζmkX => k_asm); (case ζmkB => k_asm); (case ζmkT => k_asm); (case ζmkA => exact rfl); (case ζmkf => exact rfl); (case ζmkk => exact rfl); (case ζmkr => ktr_room); intro x' d' l' t0' t1' t2' t3' t4' t5' h' tk' led9 F' N' l1 l2; (try k_sweep))
      | ((first | with_reducible refine' Mine.mk_466 ?ζmkB ?ζmkF ?ζmkX ?ζmkN ?ζmkT ?ζmkA ?ζmkf ?ζmkk ?ζmkr ?_ | with_reducible refine' Mine.mk_545 ?ζmkB ?ζmkF ?ζmkX ?ζmkN ?ζmkT ?ζmkA ?ζmkf ?ζmkk ?ζmkr ?_); (case ζmkF => k_asm); (case ζmkN => k_asm); (case ζmkX => k_asm); (case ζmkB => k_asm); (case ζmkT => k_asm); (case ζmkA => exact rfl); (case ζmkf => exact rfl); (case ζmkk => exact rfl); (case ζmkr => ktr_room); intro x' d' l' t0' t1' t2' t3' t4' t5' h' tk' led9 F' N' l1 l2 l3; (try k_sweep))))))
  (k_with "z newTuple" => row_timed "z" (fail "z"; (k_here; k_dflt ((with_reducible refine' Mine.newTuple9 ?ζF ?ζN ?_ ?ζz); (case ζF => k_asm); (case ζN => k_asm); (case ζz => kmk_size)); intro D' h' led9 F' N' l1; (try k_sweep))))
  (k_with "z newList" => row_timed "z" (fail "z"; (k_here; k_dflt ((with_reducible refine' Mine.newList9 ?ζF ?ζN ?_ ?ζz); (case ζF => k_asm); (case ζN => k_asm); (case ζz => size_fits)); k_whole; intro D' h' led9 F' N' l1; (try k_sweep))))
  (k_with "z storeName" => row_timed "z" (fail "z"; (k_here; k_dflt ((with_reducible refine' Mine.storeL' ?ζE ?ζF ?ζN ?_ ?ζa ?ζb); (case ζE => exact rfl); (case ζF => k_asm); (case ζN => k_asm); (case ζa => exact rfl); (case ζb => kernel_rfl!)); k_whole; intro h' tk9 m9 F' N'; (try k_sweep))))
  (k_with "z setItem ref str" => row_timed "z" (fail "z"; (k_here; k_dflt ((with_reducible refine' Mine.env_set ?ζF ?ζN ?ζU ?ζd ?ζz ?_); (case ζF => k_asm); (case ζN => k_asm); (case ζU => k_updF); (case ζd => k_asm); (case ζz => k_extra "mine small")); intro h' o' F' N' hd'; (try dsimp only at N'))))
  (k_with "k_steps" => repeat' (first | (k_end; k_extra "mine leave") | (k_unfold; (try dsimp only)) | (k_end; kc_close) | k_extra "mine norm" | k_extra "mine fold" | walk1 | (dsimp only; walk1) | (leave1; walk_say "STEP leave1"; (try dsimp only)) | fail "no step"))
  (k_with "ar sub" => row_timed "z" (fail "z"; first | with_reducible exact Mine.sub_refl | ((with_reducible refine' Mine.sub_cons ?ζs9); (case ζs9 => k_extra "ar sub")) | ((with_reducible refine' Mine.sub_app ?ζs9); (case ζs9 => k_extra "ar sub")) | with_reducible exact Mine.sub_left | with_reducible assumption | ((with_reducible refine' Mine.pre_sub ?ζhp9); (case ζhp9 => with_reducible assumption))))
  (k_with "ar off" => row_timed "z" (fail "z"; first | with_reducible assumption | with_reducible exact List.forall_mem_nil _ | ((with_reducible refine' Mine.ne_allsub ?ζhn9 ?ζhs9); (case ζhn9 => with_reducible assumption); (case ζhs9 => k_extra "ar sub")) | ((with_reducible refine' Mine.ne_allsubT ?ζhm9 ?ζhn9 ?ζhs9); (case ζhm9 => with_reducible assumption); (case ζhn9 => with_reducible assumption); (case ζhs9 => k_extra "ar sub")) | ((with_reducible refine' Mine.ne_allK1 ?ζhn9 ?ζhs9); (case ζhn9 => with_reducible assumption); (case ζhs9 => k_extra "ar sub")) | ((with_reducible refine' Mine.ne_allK2 ?ζhn9 ?ζhs9); (case ζhn9 => with_reducible assumption); (case ζhs9 => k_extra "ar sub")) | ((with_reducible refine' Mine.ne_allK3 ?ζhn9 ?ζhs9); (case ζhn9 => with_reducible assumption); (case ζhs9 => k_extra "ar sub")) | ((with_reducible refine' Mine.ne_allK4 ?ζhn9 ?ζhs9); (case ζhn9 => with_reducible assumption); (case ζhs9 => k_extra "ar sub")) | ((with_reducible refine' Mine.ne_allK5 ?ζhn9 ?ζhs9); (case ζhn9 => with_reducible assumption); (case ζhs9 => k_extra "ar sub")) | ((with_reducible refine' Mine.ne_cons ?ζa9 ?ζb9); (case ζa9 => k_extra "ar ne"); (case ζb9 => k_extra "ar off")) | ((with_reducible refine' Mine.ne_above ?ζum ?ζun); (case ζum => with_reducible assumption); (case ζun => k_mem)) | ((with_reducible refine' Mine.ne_app ?ζa9 ?ζb9); (case ζa9 => k_extra "ar off"); (case ζb9 => k_extra "ar off"))))
  (k_with "ar allt" => row_timed "z" (fail "z"; first | with_reducible assumption | ((with_reducible refine' Mine.allLt_sub ?ζh9 ?ζs9); (case ζh9 => with_reducible assumption); (case ζs9 => k_extra "ar sub")) | with_reducible exact True.intro | ((with_reducible refine' Mine.allLt_cons ?ζa9 ?ζb9); (case ζa9 => k_extra "ar lt"); (case ζb9 => k_extra "ar allt")) | ((with_reducible refine' Mine.allLt_app ?ζa9 ?ζb9); (case ζa9 => k_extra "ar allt"); (case ζb9 => k_extra "ar allt"))))
  (k_with "omega" => row_timed "z" (fail "z"; first
      | ((with_reducible show @LE.le Nat _ _ _); first | ((with_reducible refine' Nat.le_of_ble_eq_true ?ζe9); (case ζe9 => exact Eq.refl true)) | with_reducible assumption | ((with_reducible refine' Mine.le_k ?ζh9 ?ζe9); (case ζh9 => with_reducible assumption); (case ζe9 => exact Eq.refl true)))
      | ((with_reducible show @LT.lt Nat _ _ _); first | ((with_reducible refine' Mine.lt_add ?ζh9); (case ζh9 => with_reducible assumption)) | k_extra "mine arith" | k_extra "ar lt" | k_extra "ar room")
      | ((with_reducible show @Ne _ _ _); (show @Ne Nat _ _); first | ((with_reducible refine' Mine.nd1 ?ζh9 ?ζe9); (case ζh9 => with_reducible assumption); (case ζe9 => exact Eq.refl true)) | ((with_reducible refine' Mine.nd2 ?ζh9 ?ζe9); (case ζh9 => with_reducible assumption); (case ζe9 => exact Eq.refl true)) | k_extra "ar ne")
      | with_reducible exact Int.natCast_nonneg _
      | lia
      | fail))
  (k_with "ar up" => row_timed "z" (fail "z"; first | ((with_reducible refine' Mine.allLt_up ?ζh9); (case ζh9 => k_extra "ar up")) | ((with_reducible refine' Mine.allLt_sub ?ζh9 ?ζs9); (case ζh9 => with_reducible assumption); (case ζs9 => k_extra "ar sub")) | ((with_reducible refine' Mine.allLt_succ ?ζh8); (case ζh8 => ((with_reducible refine' Mine.allLt_sub ?ζh9 ?ζs9); (case ζh9 => with_reducible assumption); (case ζs9 => k_extra "ar sub"))))))
  (k_with "k_all" => row_timed "z" (fail "z"; first | with_reducible assumption | k_extra "ar off" | ((with_reducible refine' Mine.OffM.off2 ?ζh9); (case ζh9 => with_reducible assumption)) | ((with_reducible refine' Mine.ne_cons ?ζa9 ?ζb9); (case ζa9 => exact of_decide_eq_true (Eq.refl true)); (case ζb9 => ((with_reducible refine' Mine.OffM.off2 ?ζh9); (case ζh9 => with_reducible assumption)))) | ((with_reducible refine' Mine.ne_up ?ζh9); (case ζh9 => k_extra "ar up")) | fail))
  (k_with "z callWith ref" => row_timed "z" (fail "z"; (k_here; k_dflt (first | ((with_reducible refine' callWith_K ?ζk1 ?ζk2 ?_ ?ζk3 ?ζk4); (case ζk1 => k_in); (case ζk2 => k_is); (case ζk3 => exact rfl); (case ζk4 => exact rfl); k_whole) | ((with_reducible refine' callWith_K0 ?ζk1 ?ζk2 ?_); (case ζk1 => k_in); (case ζk2 => k_is); k_whole) | fail))))
  (k_with "z callWith" => row_timed "z" (fail "z"; (k_here; k_dflt (first | ((with_reducible refine' PyProof.Rows.callWith_builtin1 ?_ ?ζk3 ?ζk4); (case ζk3 => exact rfl); (case ζk4 => exact rfl)) | ((with_reducible refine' PyProof.Rows.callWith_method1 ?_ ?ζk3 ?ζk4); (case ζk3 => exact rfl); (case ζk4 => exact rfl)) | ((with_reducible refine' PyProof.Rows.callWith_type1 ?_ ?ζk3 ?ζk4); (case ζk3 => exact rfl); (case ζk4 => exact rfl)) | fail))))
  (k_with "mine lk" => row_timed "z" (fail "z"; first | with_reducible exact Mine.lkHit | with_reducible exact Mine.chHit | ((with_reducible refine' Mine.lkMiss ?ζh9 ?ζk9); (case ζh9 => kernel_rfl); (case ζk9 => k_extra "mine lk")) | ((with_reducible refine' Mine.chMiss ?ζh9 ?ζk9); (case ζh9 => kernel_rfl); (case ζk9 => k_extra "mine lk"))))
  (k_with "mine names" => first | with_reducible exact Mine.nm 105 ["self"] | with_reducible exact Mine.nm 112 ["self"] | with_reducible exact Mine.nm 368 ["self"] | with_reducible exact Mine.nm 373 ["self"] | with_reducible exact Mine.nm 394 ["names", "groups", "scope"] | with_reducible exact Mine.nm 401 ["expr"] | with_reducible exact Mine.nm 427 ["self", "place"] | with_reducible exact Mine.nm 1020 ["fresh", "condition", "then", "other"] | with_reducible exact Mine.nm 1027 ["condition"] | with_reducible exact Mine.nm 1039 ["maker", "rhs", "fall"] | with_reducible exact Mine.nm 1070 ["maker", "bind"] | with_reducible exact Mine.nm 1077 ["maker", "group"] | with_reducible exact Mine.nm 1089 ["pairs", "body"] | with_reducible exact Mine.nm 1096 ["maker", "binds", "body"] | with_reducible exact Mine.nm 1103 ["maker", "node"] | with_reducible exact Mine.nm 1110 ["maker", "expr", "statements", "at", "rest"] | with_reducible exact Mine.nm 1138 ["self", "node"] | with_reducible exact Mine.nm 1145 ["self"] | with_reducible exact Mine.nm 1152 ["self", "names", "rows", "fail"] | with_reducible exact Mine.nm 1166 ["self", "items", "empty", "item", "more", "step"] | with_reducible exact Mine.nm 1187 ["name"] | with_reducible exact Mine.nm 1210 ["self", "names"] | with_reducible exact Mine.nm 1217 ["self", "base"] | with_reducible exact Mine.nm 1231 ["script"] | with_reducible exact Mine.nm 1238 ["source", "top"] | with_reducible exact Mine.nm 1245 ["names", "number"] | with_reducible exact Mine.nm 1252 ["maker", "told"] | with_reducible exact Mine.nm 1259 ["names", "rows", "fail", "cons", "fresh"] | with_reducible exact Mine.nm 1266 ["known", "more"] | with_reducible exact Mine.nm 1278 ["core", "env"] | with_reducible exact Mine.nm 1285 ["core"] | with_reducible exact Mine.nm 1297 ["source", "turn", "names"] | with_reducible exact Mine.nm 1304 ["told"] | with_reducible exact Mine.nm 1311 ["row"] | with_reducible exact Mine.nm 1318 ["told", "item"] | fail)
  (k_with "mine enter" => row_timed "z" (fail "z"; (refine' Mine.enterN ?ζB ?ζF ?ζX ?ζN ?ζT ?ζhk ?ζk6 ?ζk7 ?ζk8 ?ζk9 ?ζkB ?ζnx ?ζnb ?ζnd ?_ ?ζc2 ?ζc3 ?ζc4 ?ζc5; (case ζnx => k_extra "mine names"); (case ζhk => first | k_asm | exact rfl); (case ζB => k_asm); (case ζF => k_asm); (case ζX => k_asm); (case ζN => k_asm); (case ζT => k_asm); (case ζk6 => k_is); (case ζk7 => k_is); (case ζk8 => ktr_room); (case ζk9 => exact BindsTo.of_eq rfl); (case ζc5 => decide); (case ζkB => exact locs rfl); (case ζnb => kernel_rfl!); (case ζnd => kernel_rfl!); (case ζc2 => exact rfl); (case ζc3 => exact rfl); (case ζc4 => exact rfl); k_whole; intro g' L' h' FG' m9 F' N' B' X' T' e9 A9 g9 d9 o9 Q9 tk9 R9)))
  trivial
end
section
open PySem PySem.W PyProof.Rows PySem.Spec PySem.Calls
set_option maxHeartbeats 2000000
namespace Mine
theorem parts_ok (prog : Program) (w : World) (a d l x y : Addr) (t1 t3 : Tok) (op : Value) (n : Nat) (news : Led) (m1 : (a, instObj 383 d) ∈ news) (m2 : (d, dictOf [at_ w "op" t1 op, at_ w "args" t3 (.ref l)] 2) ∈ news) (m3 : (l, listO [.ref x, .ref y] n) ∈ news) :
  Spec prog w 373 [.ref a] 10 100 news (fun v news' => ∃ l t u e f n n1 n2 n3 n4 tl, v = .ref l ∧ Pre news' tl news ∧ (l, listO [.ref t, .ref u] n) ∈ tl ∧ (t, tupO [.ref x, .ref e] n1) ∈ tl ∧ (u, tupO [.ref y, .ref f] n2) ∈ tl ∧ (e, tupO [] n3) ∈ tl ∧ (f, tupO [] n4) ∈ tl ∧ Above tl news) := by
  have tg30 : True := True.intro; have tg4 : True := True.intro
  intro p loose mean mg mb dp un gd cn cs ca ccd cl outer A₀ base h₀ L m s Q E B F X N T hk hd hu ret
  k_dflt first | k_extra "mine enter" | k_extra "mine enterC"
  k_steps
  all_goals (
    k_extra "mine flat"
    refine' ret _ _ _ _ ?eF ?eN ?eP
    case eF => k_asm
    case eN => k_asm
    case eP =>
      refine' (Mine.ex11 _ _ _ _ _ _ _ _ _ _ _ ⟨rfl, ?gp, ?g1, ?g2, ?g3, ?g4, ?g5, ?gab⟩)
      case gp => k_extra "mine pre"
      case g1 => k_mem
      case g2 => k_mem
      case g3 => k_mem
      case g4 => k_mem
      case g5 => k_mem
      case gab => k_extra "mine above")
end Mine
end
section
open PySem PySem.W PyProof.Rows PySem.Spec PySem.Calls
set_option maxHeartbeats 2000000
namespace Mine
theorem number_ok (prog : Program) (w : World) (l : Addr) (vs : List Value) (nl : Nat) (names : List Str) (news : Led) (k : Int) (t : Tok) (m1 : (l, listO vs nl) ∈ news) (hs : Strs vs names) :
  Spec prog w 1245 [.ref l, .int k t] 10 100 news (fun v news' => ∃ a tl, v = .ref a ∧ Pre news' tl news ∧ CoreIn w tl a (numCore names (.lit k)) ∧ Above tl news) := by
  have tg30 : True := True.intro; have tg33 : True := True.intro; have tg4 : True := True.intro
  intro p loose mean mg mb dp un gd cn cs ca ccd cl outer A₀ base h₀ L m s Q E B F X N T hk hd hu ret
  k_dflt first | k_extra "mine enter" | k_extra "mine enterC"
  k_steps
  · refine Mine.Hold.mk (Mine.iter_inv (fun m₀ xs m' n' => Mine.JNum w news m₀ (numCore names (.lit k)) xs m' n') rfl (by k_asm) (by k_asm) (by k_mem) ?h0 ?step ?fin)
    case h0 =>
      refine' (Mine.ex5 names _ (.lit k) _ none ⟨hs, ?gp, ?gc, rfl, ?gab, ?gsh⟩)
      case gp => k_extra "mine pre"
      case gc => exact .lit (by k_mem) (by k_mem)
      case gsh => exact sh_init (by exact if_pos rfl) (by first | rfl | (with_unfolding_all rfl) | decide)
      case gab => k_extra "mine above"
    case step =>
      intro I hI v r m₁ n₁ h tk it hJ hkk hio hc F N
      (k_dflt (refine' Mine.exe5 (hJ) ?_); intro nms a c tl o hz9; k_dflt (refine' Mine.ane6 hz9 ?_); clear hz9; intro hs hp hcc htot hab er5; subst er5; clear hJ)
      cases hs with | cons hs' =>
      k_steps
      refine Mine.Hold.mk ?_
      k_extra "mine flat"
      refine' Mine.endD ?eF ?eN ?eD ?eoff ?ek ?er
      case eF => k_asm
      case eN => k_asm
      case eD => k_extra "mine drop"
      case eoff => k_extra "mine off"
      case ek => k_subL
      case er =>
        refine' (Mine.ex5 _ _ _ _ _ ⟨hs', ?gp, ?gc, htot, ?gab, ?gsh⟩)
        case gp => k_extra "mine pre"
        case gsh => exact sh_step
        case gc => exact .add (by k_mem) (by k_mem) (by k_mem) (.var (by k_mem) (by k_mem)) (.mono (by k_extra "mine sub") hcc)
        case gab => k_extra "mine above"
    case fin =>
      intro m₁ n₁ h tk hJ F N
      (k_dflt (refine' Mine.exe5 (hJ) ?_); intro nms a c tl o hz9; k_dflt (refine' Mine.ane6 hz9 ?_); clear hz9; intro hs hp hcc htot hab er5; subst er5; clear hJ)
      cases hs
      k_steps
      exact ret _ _ _ _ (by k_asm) (by k_asm) (Mine.ex2 a tl ⟨rfl, hp, htot ▸ hcc, hab⟩)
end Mine
end
section
open PySem PySem.W PyProof.Rows PySem.Spec PySem.Calls
set_option maxHeartbeats 2000000
namespace Mine
theorem next_ok (prog : Program) (w : World) (fr fd nd av : Addr) (o : Obj) (kvs : List (Str × Value)) (news : Led) (b : Str) (t t1 t2 : Tok) (oA : Obj)
  (m1 : (fr, instObj 1220 fd) ∈ news) (m2 : (fd, dictOf [at_ w "avoided" t1 (.ref av), at_ w "numbers" t2 (.ref nd)] 2) ∈ news) (m3 : (av, oA) ∈ news) (eA : oA.IsDictOf (strKind prog w) []) (loA : (av == sysModules) = false) (lo : (nd == sysModules) = false) (n : Int) (hn : NumAt kvs b n) (hz : kvs.length ≤ 200) (hb : (PySem.Txt.rfind b (PySem.Str.ofString ".") : Int) = -1) (hbl : b.length ≤ 100) (hn0 : 0 ≤ n) (hn1 : n ≤ 30)
  (off : ∀ q ∈ news, q.1 ≠ nd) (hd : o.IsDictOf (strKind prog w) kvs) :
  Spec prog w 1217 [.ref fr, .str b t] 10 100 ((nd, o) :: news) (fun v news' => ∃ t t' o', v = .str (b ++ PySem.Str.ofString "." ++ PySem.Str.ofString (toString (n + 1))) t ∧ news' = (nd, o') :: news ∧ o'.IsDictOf (strKind prog w) (stored kvs b (.int (n + 1) t'))) := by
  have tg30 : True := True.intro; have tg4 : True := True.intro
  intro p loose mean mg mb dp un gd cn cs ca ccd cl outer A₀ base h₀ L m s Q E B F X N T hk hd hu ret
  k_dflt first | k_extra "mine enter" | k_extra "mine enterC"
  k_steps
  all_goals exact ret _ _ _ _ (by k_asm) (by k_asm) (Mine.ex3 _ _ _ ⟨rfl, rfl, by k_asm⟩)
end Mine
end
section
open PySem PySem.W PyProof.Rows PySem.Spec PySem.Calls
set_option maxHeartbeats 2000000
namespace Mine
theorem clist_ok (prog : Program) (w : World) (mk a l : Addr) (vs : List Value) (nl n : Nat) (its : List It) (news : Led) (t' : Tok) (m0 : (a, tupO [.str "list" t', .ref l] n) ∈ news) (m1 : (l, listO vs nl) ∈ news) (hs : Its news vs its) (hz : vs.length ≤ 100) :
  Spec prog w 1252 [.ref mk, .ref a] 20 200 news (fun v news' => ∃ a tl, v = .ref a ∧ Pre news' tl news ∧ CoreIn w tl a (itemsCore its (.con0 "[]")) ∧ Above tl news) := by
  have tg30 : True := True.intro; have tg33 : True := True.intro; have tg4 : True := True.intro
  intro p loose mean mg mb dp un gd cn cs ca ccd cl outer A₀ base h₀ L m s Q E B F X N T hk hd hu ret
  k_dflt first | k_extra "mine enter" | k_extra "mine enterC"
  k_steps
  all_goals skip
  · refine Mine.Hold.mk (Mine.iter_inv (fun m₀ xs m' n' => Mine.JIts w news m₀ (itemsCore its (.con0 "[]")) xs m' n') rfl (by k_asm) (by k_asm) (by k_mem) ?h0 ?step ?fin)
    case h0 =>
      refine' (Mine.ex6 its.reverse _ (.con0 "[]") _ none none ⟨hs.rev, ?gp, ?gc, ?gt, ?gab, ?gsh⟩)
      case gp => k_extra "mine pre"
      case gc => exact .con0 (by k_mem) (by k_mem) (by k_mem)
      case gt => exact List.foldl_reverse
      case gsh => exact sh3_init (by exact if_pos rfl) (by first | rfl | (with_unfolding_all rfl) | decide) (by first | rfl | (with_unfolding_all rfl) | decide)
      case gab => k_extra "mine flat"; k_extra "mine above"
    case step =>
      intro I hI v r m₁ n₁ h tk it hJ hkk hio hc F N
      (k_dflt (refine' Mine.exe6 (hJ) ?_); intro is a c tl oc ot hz9; k_dflt (refine' Mine.ane6 hz9 ?_); clear hz9; intro hs hp hcc htot hab er5; subst er5; clear hJ)
      cases hs with
      | one hs' =>
        k_steps
        refine Mine.Hold.mk ?_
        k_extra "mine flat"
        refine' Mine.endD ?eF ?eN ?eD ?eoff ?ek ?er
        case eF => k_asm
        case eN => k_asm
        case eD => k_extra "mine drop"
        case eoff => k_extra "mine off"
        case ek => k_subL
        case er =>
          refine' (Mine.ex6 _ _ _ _ _ _ ⟨hs', ?gp, ?gc, htot, ?gab, ?gsh⟩)
          case gp => k_extra "mine pre"
          case gsh => exact sh3_step
          case gc => exact .con2 (by k_mem) (by k_mem) (by k_mem) (.lit (by k_mem) (by k_mem)) (.mono (by k_extra "mine sub") hcc)
          case gab => k_extra "mine above"
      | two hm hs' =>
        have hm' := Pre.mem hp hm
        k_steps
        refine Mine.Hold.mk ?_
        k_extra "mine flat"
        refine' Mine.endD ?eF ?eN ?eD ?eoff ?ek ?er
        case eF => k_asm
        case eN => k_asm
        case eD => k_extra "mine drop"
        case eoff => k_extra "mine off"
        case ek => k_subL
        case er =>
          refine' (Mine.ex6 _ _ _ _ _ _ ⟨hs', ?gp, ?gc, htot, ?gab, ?gsh⟩)
          case gp => k_extra "mine pre"
          case gsh => exact sh3_step
          case gc => exact .con2 (by k_mem) (by k_mem) (by k_mem) (.con2 (by k_mem) (by k_mem) (by k_mem) (.lit (by k_mem) (by k_mem)) (.lit (by k_mem) (by k_mem))) (.mono (by k_extra "mine sub") hcc)
          case gab => k_extra "mine above"
    case fin =>
      intro m₁ n₁ h tk hJ F N
      (k_dflt (refine' Mine.exe6 (hJ) ?_); intro is a c tl oc ot hz9; k_dflt (refine' Mine.ane6 hz9 ?_); clear hz9; intro hs hp hcc htot hab er5; subst er5; clear hJ)
      cases hs
      k_steps
      exact ret _ _ _ _ (by k_asm) (by k_asm) (Mine.ex2 a tl ⟨rfl, hp, htot ▸ hcc, hab⟩)
end Mine
end
section
open PySem PySem.W PyProof.Rows PySem.Spec PySem.Calls PyProof.V
set_option genSizeOf false
set_option maxHeartbeats 1000000
namespace Mine
section
variable {prog : Program} {w : World} {A : Around} {E : Value → Shared → Prop} {s : Shared} {h₀ : Heap} {L : Addr} {m : Str → Option Value} {news news' : Led}
theorem append_N {D : Addr} {vs : List Value} {v : Value} {n : Nat} {Q : Value → Shared → Prop} (F : Fr h₀ L s.heap m) (N : News h₀ L s.heap news) (U : Upd D (listO vs n) (listO (vs ++ [v]) (n + 1)) news news') (hz : vs.length ≤ 1000)
    (h : ∀ h', Fr h₀ L h' m → News h₀ L h' news' → Q .none { s with heap := h' }) : wpAny (model prog w) A (call (.builtin "list.append") [.ref D, v]) Q E s := by
  refine append_K F N (its := vs.toArray) (n := n) (news' := news') ?_ h ?_
  · have e : vs.toArray.push v = (vs ++ [v]).toArray := by simp
    rw [e]; exact U
  · rw [sizeLine_eq, List.size_toArray]; omega
theorem pop_N {D : Addr} {vs : List Value} {v : Value} {n : Nat} {Q : Value → Shared → Prop} (F : Fr h₀ L s.heap m) (N : News h₀ L s.heap news) (U : Upd D (listO (vs ++ [v]) n) (listO vs (n + 1)) news news') (hz : vs.length ≤ 1000)
    (h : ∀ h', Fr h₀ L h' m → News h₀ L h' news' → Q v { s with heap := h' }) : wpAny (model prog w) A (call (.builtin "list.pop") [.ref D]) Q E s :=
  kl_pop (its := (vs ++ [v]).toArray) (p := vs) F N (kpa_last v vs) U (by rw [sizeLine_eq]; simp only [List.length_append, List.length_cons, List.length_nil]; omega) h
theorem truthy_snoc {l : Addr} {vs : List Value} {v : Value} {n : Nat} {Q : Bool → Shared → Prop} (N : News h₀ L s.heap news) (hm : (l, listO (vs ++ [v]) n) ∈ news) (hz : vs.length ≤ 900) (h : Q true { s with toks := s.toks + 1 + 1 }) : wpAny (model prog w) A (truthy (.ref l)) Q E s := by
  refine truthy_L N hm (by simp; omega) ?_
  have e : (!(vs ++ [v]).isEmpty) = true := by cases vs <;> rfl
  rw [e]; exact h
theorem not_in_empty {d : Addr} {o : Obj} {b : Str} {t : Tok} {Q : Value → Shared → Prop} (N : News h₀ L s.heap news) (hp : (d, o) ∈ news) (hd : o.IsDictOf (strKind prog w) []) (lo : (d == sysModules) = false)
    (h : Q (.bool true) { s with toks := s.toks + 1 }) : wpAny (model prog w) A (compareOp .NotIn (.str b t) (.ref d)) Q E s := kdg_notin (knd := strKind prog w) N hp hd lo (strKind_is _ _ _ _) false rfl h
end
noncomputable def WStep (h₀ : Heap) (L : Addr) (s : Shared) (J : Nat → (Str → Option Value) → Led → Prop) (n : Nat) (f : Flow) (s₃ : Shared) : Prop :=
  (f = .next ∨ f = .cont) ∧ ∃ h' tk m₂ news₂ n', s₃ = { s with heap := h', toks := tk } ∧ Fr h₀ L h' m₂ ∧ News h₀ L h' news₂ ∧ n' < n ∧ J n' m₂ news₂
theorem WStep.next {h₀ h' : Heap} {L : Addr} {s : Shared} {J : Nat → (Str → Option Value) → Led → Prop} {n n' tk : Nat} {m₂ : Str → Option Value} {news₂ : Led}
    (F : Fr h₀ L h' m₂) (N : News h₀ L h' news₂) (hn : n' < n) (hJ : J n' m₂ news₂) : WStep h₀ L s J n .next { s with heap := h', toks := tk } := ⟨.inl rfl, h', tk, m₂, news₂, n', rfl, F, N, hn, hJ⟩
theorem WStep.cont {h₀ h' : Heap} {L : Addr} {s : Shared} {J : Nat → (Str → Option Value) → Led → Prop} {n n' tk : Nat} {m₂ : Str → Option Value} {news₂ : Led}
    (F : Fr h₀ L h' m₂) (N : News h₀ L h' news₂) (hn : n' < n) (hJ : J n' m₂ news₂) : WStep h₀ L s J n .cont { s with heap := h', toks := tk } := ⟨.inr rfl, h', tk, m₂, news₂, n', rfl, F, N, hn, hJ⟩
section
variable {prog : Program} {w : World} {A : Around} {E : Value → Shared → Prop} {Q : Flow → Shared → Prop} {s : Shared} {env : PySem.Env} {h₀ : Heap} {L : Addr}
theorem While_invC {test : PySem.Expr} {body : List PySem.Stmt} {pos : PySem.Pos} {m : Str → Option Value} {news : Led} (J : Nat → (Str → Option Value) → Led → Prop) {n₀ : Nat}
    (F : Fr h₀ L s.heap m) (N : News h₀ L s.heap news) (hJ : J n₀ m news)
    (turn : ∀ n m₁ news₁ h₁ tk₁, Fr h₀ L h₁ m₁ → News h₀ L h₁ news₁ → J n m₁ news₁ →
      wpAny (model prog w) A (isTrue test env (eval test env)) (fun b s₂ =>
        if b = true then wpAny (model prog w) A (execs body env) (WStep h₀ L s J n) E s₂ else Q .next s₂) E { s with heap := h₁, toks := tk₁ })
    (hE : PassesOwn (model prog w) A env E := by passes_own) :
    wpAny (model prog w) A (exec (.While test body [] pos) env) Q E s := by
  refine wpAny_While (codeAny_whileLoop (fun n s' => ∃ h₁ tk₁ m₁ news₁, s' = { s with heap := h₁, toks := tk₁ } ∧ Fr h₀ L h₁ m₁ ∧ News h₀ L h₁ news₁ ∧ J n m₁ news₁) ?_ n₀ ⟨s.heap, s.toks, m, news, rfl, F, N, hJ⟩)
  rintro n s' ⟨h₁, tk₁, m₁, news₁, rfl, F₁, N₁, J₁⟩
  refine wpAny_mono (turn n m₁ news₁ h₁ tk₁ F₁ N₁ J₁) (fun b s₂ h₂ => ?_) hE
  cases b with
  | false =>
    simp only [Bool.false_eq_true, if_false] at h₂ ⊢
    exact wpAny_execs_nil h₂
  | true =>
    simp only [if_true] at h₂ ⊢
    refine wpAny_mono h₂ (fun f s₃ h₃ => ?_) hE
    obtain ⟨rfl | rfl, h', tk, m₂, news₂, n', rfl, F₂, N₂, hn, J₂⟩ := h₃
    · exact ⟨n', hn, h', tk, m₂, news₂, rfl, F₂, N₂, J₂⟩
    · exact ⟨n', hn, h', tk, m₂, news₂, rfl, F₂, N₂, J₂⟩
end
noncomputable def Core.sz : Core → Nat
  | .add a b => a.sz + b.sz + 1
  | _ => 1
noncomputable def Core.fv : Core → List Str
  | .add a b => a.fv ++ b.fv
  | .var x => [x]
  | _ => []
inductive Numeric : Core → Prop where
  | lit {k : Int} : Numeric (.lit k)
  | var {x : Str} : Numeric (.var x)
  | add {a b : Core} : Numeric a → Numeric b → Numeric (.add a b)
inductive Tasks (prog : Program) (w : World) (imm : Led) : List Value → List Core → Prop where
  | nil : Tasks prog w imm [] []
  | snoc {t a b : Addr} {n : Nat} {c : Core} {ob : Obj} {vs : List Value} {cs : List Core} : Tasks prog w imm vs cs → (t, tupO [.ref a, .ref b] n) ∈ imm → CoreIn w imm a c → Numeric c → (b, ob) ∈ imm → ob.IsDictOf (strKind prog w) [] → (b == sysModules) = false → Tasks prog w imm (vs ++ [.ref t]) (c :: cs)
theorem Tasks.mono {prog : Program} {w : World} {l l' : Led} (hs : ∀ q ∈ l, q ∈ l') {vs : List Value} {cs : List Core} (h : Tasks prog w l vs cs) : Tasks prog w l' vs cs := by
  induction h with
  | nil => exact .nil
  | snoc _ a b c d e f ih => exact .snoc ih (hs _ a) (b.mono hs) c (hs _ d) e f
theorem Tasks.len {prog : Program} {w : World} {l : Led} {vs : List Value} {cs : List Core} (h : Tasks prog w l vs cs) : vs.length = cs.length := by
  induction h with
  | nil => rfl
  | snoc _ _ _ _ _ _ _ ih => simp [ih]
noncomputable def szs (cs : List Core) : Nat := (cs.map Core.sz).sum
noncomputable def fvs (cs : List Core) : List Str := cs.flatMap Core.fv
theorem Core.sz_pos (c : Core) : 1 ≤ c.sz := by cases c <;> simp [Core.sz]
theorem szs_len : ∀ cs : List Core, cs.length ≤ szs cs
  | [] => Nat.le_refl _
  | c :: cs => by
    have := szs_len cs
    have := c.sz_pos
    simp only [szs, List.map_cons, List.sum_cons, List.length_cons] at *
    omega
theorem Tasks.bound {prog : Program} {w : World} {l : Led} {vs : List Value} {c : Core} {cs : List Core} (h : Tasks prog w l vs cs) (k : szs (c :: cs) ≤ 50) : vs.length ≤ 50 := by
  have := h.len
  have := szs_len cs
  simp only [szs, List.map_cons, List.sum_cons] at *
  omega
noncomputable def shF (o1 o2 o3 o4 o5 : Option Value) (m₀ : Str → Option Value) : Str → Option Value := fun y => if y = "node" then o1 else if y = "bound" then o2 else if y = "groups" then o3 else if y = "part" then o4 else if y = "scope" then o5 else m₀ y
theorem shF_init {m₀ : Str → Option Value} (h1 : m₀ "node" = none) (h2 : m₀ "bound" = none) (h3 : m₀ "groups" = none) (h4 : m₀ "part" = none) (h5 : m₀ "scope" = none) : m₀ = shF none none none none none m₀ := by
  funext y
  unfold shF
  split
  · next h => rw [h, h1]
  · split
    · next h => rw [h, h2]
    · split
      · next h => rw [h, h3]
      · split
        · next h => rw [h, h4]
        · split
          · next h => rw [h, h5]
          · rfl
noncomputable def JFree (prog : Program) (w : World) (base : Led) (names : List Str) (l fd : Addr) (m₀ : Str → Option Value) (n : Nat) (m : Str → Option Value) (led : Led) : Prop :=
  ∃ vs cs ln o kvs imm tl o1 o2 o3 o4 o5, led = (l, listO vs ln) :: (fd, o) :: imm ∧ Pre imm tl base ∧ Above tl base ∧ (∀ q ∈ imm, q.1 ≠ l) ∧ (∀ q ∈ imm, q.1 ≠ fd) ∧ Tasks prog w imm vs cs ∧ n = szs cs ∧ n ≤ 50 ∧ o.IsDictOf (strKind prog w) kvs ∧ kvs.length + (fvs cs).length ≤ 2 ∧
    (∀ p ∈ kvs, p.1 ∈ names) ∧ (∀ x ∈ fvs cs, x ∈ names) ∧ m = shF o1 o2 o3 o4 o5 m₀
theorem news_drop2 {h₀ h : Heap} {L : Addr} {all r1 r2 : Led} {p q : Addr × Obj} (N : News h₀ L h all) (D1 : Drop1 p all r1) (D2 : Drop1 q r1 r2) : News h₀ L h (p :: q :: r2) := fun x hx => by
  rcases List.mem_cons.mp hx with rfl | hx
  · exact N _ (D1.mem _ (.head _))
  · exact N _ (D1.mem _ (.tail _ (D2.mem _ hx)))
theorem stored_keys {kvs : List (Str × Value)} {k : Str} {v : Value} : ∀ p ∈ stored kvs k v, p.1 = k ∨ ∃ q ∈ kvs, q.1 = p.1 := by
  intro p hp
  unfold stored at hp
  split at hp
  · rw [List.mem_map] at hp
    obtain ⟨q, hq, rfl⟩ := hp
    by_cases e : q.1 = k
    · left; simp [e]
    · right; exact ⟨q, hq, by simp [e]⟩
  · rcases List.mem_append.mp hp with hp | hp
    · exact .inr ⟨p, hp, rfl⟩
    · left; rw [List.mem_singleton.mp hp]
theorem numeric_num {names : List Str} {c : Core} (h : Numeric c) : Numeric (numCore names c) := by
  induction names generalizing c with
  | nil => exact h
  | cons x r ih => exact ih (.add .var h)
theorem fv_num {names : List Str} {c : Core} : (∀ x ∈ (numCore names c).fv, x ∈ names ∨ x ∈ c.fv) ∧ (numCore names c).fv.length = names.length + c.fv.length ∧ (numCore names c).sz = 2 * names.length + c.sz := by
  induction names generalizing c with
  | nil => exact ⟨fun x hx => .inr hx, by simp [numCore], by simp [numCore]⟩
  | cons y r ih =>
    have := @ih (.add (.var y) c)
    refine ⟨fun x hx => ?_, ?_, ?_⟩
    · rcases this.1 x hx with h | h
      · exact .inl (.tail _ h)
      · simp only [Core.fv, List.singleton_append, List.mem_cons] at h
        rcases h with rfl | h
        · exact .inl (.head _)
        · exact .inr h
    · show (numCore r (.add (.var y) c)).fv.length = _
      rw [this.2.1]; simp [Core.fv]; omega
    · show (numCore r (.add (.var y) c)).sz = _
      rw [this.2.2]; simp [Core.sz]; omega
end Mine
end
section
open PySem PySem.W PyProof.Rows PySem.Spec PySem.Calls
set_option genSizeOf false
namespace Mine
noncomputable abbrev Kn := List (Str × Int)
noncomputable def lookK : Kn → Str → Int
  | [], _ => 0
  | (y, k) :: r, x => if x = y then k else lookK r x
noncomputable def sumN (kn : Kn) (ns : List Str) : Int := (ns.map (lookK kn)).sum
noncomputable def takenBy : Pat → It → Option Kn
  | .any, _ => some []
  | .var x, .one k => some [(x, k)]
  | .lit, .one k => if k = 1 then some [] else none
  | .pairN x, .two a _ => some [(x, a)]
  | .pairL x, .two a b => if b = 1 then some [(x, a)] else none
  | _, _ => none
noncomputable def loops (wanted : List Str) : List Row → Kn → List Int
  | [], kn => [sumN kn wanted]
  | .draw p its :: rs, kn => its.flatMap fun it => match takenBy p it with
    | some t => loops wanted rs (t ++ kn)
    | none => []
  | .bnd x ns k :: rs, kn => loops wanted rs ((x, sumN kn ns + k) :: kn)
  | .cond ns k :: rs, kn => if sumN kn ns < k then loops wanted rs kn else []
theorem Ev.mono {n : Nat} {c : Core} {ρ : Env} {v : Val} (h : Ev n c ρ v) : ∀ {n' : Nat}, n ≤ n' → Ev n' c ρ v := by
  induction h with
  | lit => intro n' k; obtain ⟨m, rfl⟩ : ∃ m, n' = m + 1 := ⟨n' - 1, by omega⟩; exact .lit
  | var hl _ ih => intro n' k; obtain ⟨m, rfl⟩ : ∃ m, n' = m + 1 := ⟨n' - 1, by omega⟩; exact .var hl (ih (by omega))
  | con0 => intro n' k; obtain ⟨m, rfl⟩ : ∃ m, n' = m + 1 := ⟨n' - 1, by omega⟩; exact .con0
  | con2 => intro n' k; obtain ⟨m, rfl⟩ : ∃ m, n' = m + 1 := ⟨n' - 1, by omega⟩; exact .con2
  | lam => intro n' k; obtain ⟨m, rfl⟩ : ∃ m, n' = m + 1 := ⟨n' - 1, by omega⟩; exact .lam
  | letr hs _ ih => intro n' k; obtain ⟨m, rfl⟩ : ∃ m, n' = m + 1 := ⟨n' - 1, by omega⟩; exact .letr hs (ih (by omega))
  | letn hs _ ih => intro n' k; obtain ⟨m, rfl⟩ : ∃ m, n' = m + 1 := ⟨n' - 1, by omega⟩; exact .letn hs (ih (by omega))
  | add _ _ ih1 ih2 => intro n' k; obtain ⟨m, rfl⟩ : ∃ m, n' = m + 1 := ⟨n' - 1, by omega⟩; exact .add (ih1 (by omega)) (ih2 (by omega))
  | lt _ _ ih1 ih2 => intro n' k; obtain ⟨m, rfl⟩ : ∃ m, n' = m + 1 := ⟨n' - 1, by omega⟩; exact .lt (ih1 (by omega)) (ih2 (by omega))
  | app hs _ _ ih1 ih2 => intro n' k; obtain ⟨m, rfl⟩ : ∃ m, n' = m + 1 := ⟨n' - 1, by omega⟩; exact .app hs (ih1 (by omega)) (ih2 (by omega))
  | cLitT hs _ _ ih1 ih2 => intro n' k; obtain ⟨m, rfl⟩ : ∃ m, n' = m + 2 := ⟨n' - 2, by omega⟩; exact .cLitT hs (ih1 (by omega)) (ih2 (by omega))
  | cLitF hs _ hj _ ih1 ih2 => intro n' k; obtain ⟨m, rfl⟩ : ∃ m, n' = m + 2 := ⟨n' - 2, by omega⟩; exact .cLitF hs (ih1 (by omega)) hj (ih2 (by omega))
  | cPair hs _ _ ih1 ih2 => intro n' k; obtain ⟨m, rfl⟩ : ∃ m, n' = m + 2 := ⟨n' - 2, by omega⟩; exact .cPair hs (ih1 (by omega)) (ih2 (by omega))
  | cTrueT hs _ _ ih1 ih2 => intro n' k; obtain ⟨m, rfl⟩ : ∃ m, n' = m + 2 := ⟨n' - 2, by omega⟩; exact .cTrueT hs (ih1 (by omega)) (ih2 (by omega))
  | cTrueF hs _ _ ih1 ih2 => intro n' k; obtain ⟨m, rfl⟩ : ∃ m, n' = m + 2 := ⟨n' - 2, by omega⟩; exact .cTrueF hs (ih1 (by omega)) (ih2 (by omega))
  | cNil hs _ _ ih1 ih2 => intro n' k; obtain ⟨m, rfl⟩ : ∃ m, n' = m + 2 := ⟨n' - 2, by omega⟩; exact .cNil hs (ih1 (by omega)) (ih2 (by omega))
  | cCons hs _ _ ih1 ih2 => intro n' k; obtain ⟨m, rfl⟩ : ∃ m, n' = m + 2 := ⟨n' - 2, by omega⟩; exact .cCons hs (ih1 (by omega)) (ih2 (by omega))
inductive Stream : Nat → Core → Env → List Int → Prop where
  | nil {n c ρ} : Ev n c ρ (.con0 "[]") → Stream n c ρ []
  | cons {n c ρ a b ρ' k ks} : Ev n c ρ (.con2 ":" a b ρ') → Ev n a ρ' (.int k) → Stream n b ρ' ks → Stream n c ρ (k :: ks)
theorem Stream.mono {n : Nat} {c : Core} {ρ : Env} {ks : List Int} (h : Stream n c ρ ks) : ∀ {n' : Nat}, n ≤ n' → Stream n' c ρ ks := by
  induction h with
  | nil h => exact fun k => .nil (h.mono k)
  | cons h1 h2 _ ih => exact fun k => .cons (h1.mono k) (h2.mono k) (ih k)
theorem Stream.step {n n' : Nat} {c c' : Core} {ρ ρ' : Env} {ks : List Int} (h : Stream n c' ρ' ks) (hn : n ≤ n') (f : ∀ v, Ev n c' ρ' v → Ev n' c ρ v) : Stream n' c ρ ks := by
  cases h with
  | nil h => exact .nil (f _ h)
  | cons h1 h2 h3 => exact .cons (f _ h1) (h2.mono hn) (h3.mono hn)
noncomputable def RestOK (n : Nat) (rest : Core) (vars : List Nm) (ρ : Env) (ks : List Int) : Prop := ∀ ρ' : Env, (∀ x ∈ vars, ρ'.look x = ρ.look x) → ρ'.len ≤ 150 → Stream n rest ρ' ks
theorem RestOK.move {n : Nat} {rest : Core} {vars : List Nm} {ρ ρ' : Env} {ks : List Int} (h : RestOK n rest vars ρ ks) (e : ∀ x ∈ vars, ρ'.look x = ρ.look x) : RestOK n rest vars ρ' ks :=
  fun ρ'' e' l => h ρ'' (fun x hx => (e' x hx).trans (e x hx)) l
noncomputable def Knows (D : Nat) (dom : List Str) (kn : Kn) (ρ : Env) : Prop := ∀ x ∈ dom, ∃ c ρc, ρ.look x = some (c, ρc) ∧ Ev D c ρc (.int (lookK kn x))
theorem Knows.move {D : Nat} {dom : List Str} {kn : Kn} {ρ ρ' : Env} (h : Knows D dom kn ρ) (e : ∀ x ∈ dom, ρ'.look x = ρ.look x) : Knows D dom kn ρ' := fun x hx => by rw [e x hx]; exact h x hx
theorem Knows.le {D D' : Nat} {dom : List Str} {kn : Kn} {ρ : Env} (h : Knows D dom kn ρ) (k : D ≤ D') : Knows D' dom kn ρ := fun x hx => let ⟨c, ρc, a, b⟩ := h x hx; ⟨c, ρc, a, b.mono k⟩
theorem Knows.add {D : Nat} {dom : List Str} {kn : Kn} {ρ ρ' : Env} {x : Str} {k : Int} {c : Core} {ρc : Env} (h : Knows D dom kn ρ) (e : ∀ y ∈ dom, y ≠ x → ρ'.look y = ρ.look y) (hx : ρ'.look x = some (c, ρc)) (hc : Ev D c ρc (.int k)) : Knows D (x :: dom) ((x, k) :: kn) ρ' := fun y hy => by
  by_cases q : y = x
  · subst q; exact ⟨c, ρc, hx, by simpa [lookK] using hc⟩
  · have hy : y ∈ dom := (List.mem_cons.mp hy).resolve_left q
    rw [e y hy q]
    obtain ⟨c', ρ', h1, h2⟩ := h y hy
    exact ⟨c', ρ', h1, by simpa [lookK, q] using h2⟩
theorem ev_num {D : Nat} {dom : List Str} {kn : Kn} {ρ : Env} (hk : Knows D dom kn ρ) : ∀ (ns : List Str) (c : Core) (n : Nat) (k : Int), (∀ x ∈ ns, x ∈ dom) → D + 1 ≤ n → Ev n c ρ (.int k) → Ev (n + ns.length) (numCore ns c) ρ (.int (sumN kn ns + k))
  | [], c, n, k, _, _, h => by simpa [sumN, numCore] using h
  | x :: ns, c, n, k, hd, hn, h => by
    obtain ⟨c', ρ', h1, h2⟩ := hk x (hd x (.head _))
    have hv : Ev n (.var x) ρ (.int (lookK kn x)) := (Ev.var h1 h2).mono hn
    have := ev_num hk ns (.add (.var x) c) (n + 1) (lookK kn x + k) (fun y hy => hd y (.tail _ hy)) (by omega) (.add hv h)
    have e1 : n + (x :: ns).length = n + 1 + ns.length := by simp only [List.length_cons]; omega
    have e2 : sumN kn (x :: ns) + k = sumN kn ns + (lookK kn x + k) := by simp only [sumN, List.map_cons, List.sum_cons]; omega
    rw [e1, e2]
    exact this
noncomputable def cost : List Row → Nat
  | [] => 30
  | .draw _ its :: rs => 12 + its.length * (12 + cost rs)
  | _ :: rs => 30 + cost rs
noncomputable def goods : List Str := ["x0", "x1", "x2", "l0", "l1", "l2"]
noncomputable def bases : List Str := ["loop", "items", "item", "more"]
theorem names_inj : ∀ b ∈ bases, ∀ b' ∈ bases, ∀ i i' : Fin 4, nameOf b ((i.val : Nat) : Int) = nameOf b' ((i'.val : Nat) : Int) → b = b' ∧ i = i' := by decide +kernel
theorem goods_ne : ∀ x ∈ goods, ∀ b ∈ bases, ∀ i : Fin 4, x ≠ nameOf b ((i.val : Nat) : Int) := by decide +kernel
theorem goods_qw : ∀ x ∈ goods, x ≠ "q" ∧ x ≠ "w" := by decide +kernel
theorem names_qw : ∀ b ∈ bases, ∀ i : Fin 4, nameOf b ((i.val : Nat) : Int) ≠ "q" ∧ nameOf b ((i.val : Nat) : Int) ≠ "w" := by decide +kernel
noncomputable def fits : Pat → It → Prop
  | .any, _ => True
  | .var _, .one _ => True
  | .lit, .one _ => True
  | .pairN _, .two _ _ => True
  | .pairL _, .two _ _ => True
  | _, _ => False
noncomputable def Pat.names : Pat → List Str
  | .var x => [x]
  | .pairN x => [x]
  | .pairL x => [x]
  | _ => []
noncomputable def WF (wanted : List Str) : List Row → List Str → Prop
  | [], dom => ∀ x ∈ wanted, x ∈ dom
  | .draw p its :: rs, dom => (∀ it ∈ its, fits p it) ∧ (∀ x ∈ p.names, x ∈ goods) ∧ WF wanted rs (p.names ++ dom)
  | .bnd x ns _ :: rs, dom => x ∈ goods ∧ (∀ y ∈ ns, y ∈ dom) ∧ ns.length ≤ 2 ∧ WF wanted rs (x :: dom)
  | .cond ns _ :: rs, dom => (∀ y ∈ ns, y ∈ dom) ∧ ns.length ≤ 2 ∧ WF wanted rs dom
noncomputable def VarsOf (j : Nat) (vars : List Nm) : Prop := ∀ v ∈ vars, ∃ i : Nat, i ≤ j ∧ (v = nameOf "loop" i ∨ v = nameOf "more" i)
theorem look_bind_ne {x y : Nm} {c : Core} {ρc ρ : Env} (h : y ≠ x) : (Env.bind x c ρc ρ).look y = ρ.look y := by simp [Env.look, h]
theorem look_bind {x : Nm} {c : Core} {ρc ρ : Env} : (Env.bind x c ρc ρ).look x = some (c, ρc) := by simp [Env.look]
theorem look_rec_ne {x y : Nm} {c : Core} {ρ : Env} (h : y ≠ x) : (Env.recb x c ρ).look y = ρ.look y := by simp [Env.look, h]
theorem look_rec {x : Nm} {c : Core} {ρ : Env} : (Env.recb x c ρ).look x = some (c, .recb x c ρ) := by simp [Env.look]
theorem nm_ne {b b' : Str} {i i' : Nat} (hb : b ∈ bases) (hb' : b' ∈ bases) (hi : i < 4) (hi' : i' < 4) (h : b ≠ b' ∨ i ≠ i') : nameOf b i ≠ nameOf b' i' := fun e => by
  have := names_inj b hb b' hb' ⟨i, hi⟩ ⟨i', hi'⟩ e
  rcases h with h | h
  · exact h this.1
  · exact h (congrArg Fin.val this.2)
theorem vars_ne {j : Nat} {vars : List Nm} (hv : VarsOf j vars) {b : Str} (hb : b ∈ bases) {i : Nat} (hi : j < i) (hi4 : i < 4) : ∀ v ∈ vars, v ≠ nameOf b i := fun v h => by
  obtain ⟨k, hk, rfl | rfl⟩ := hv v h
  · exact nm_ne (by decide) hb (by omega) hi4 (.inr (by omega))
  · exact nm_ne (by decide) hb (by omega) hi4 (.inr (by omega))
theorem vars_good {j : Nat} {vars : List Nm} (hv : VarsOf j vars) (hj : j < 4) {x : Str} (hx : x ∈ goods ∨ x = "q" ∨ x = "w") : ∀ v ∈ vars, v ≠ x := fun v h => by
  obtain ⟨k, hk, rfl | rfl⟩ := hv v h
  · rcases hx with hx | rfl | rfl
    · exact (goods_ne x hx "loop" (by decide) ⟨k, by omega⟩).symm
    · exact (names_qw "loop" (by decide) ⟨k, by omega⟩).1
    · exact (names_qw "loop" (by decide) ⟨k, by omega⟩).2
  · rcases hx with hx | rfl | rfl
    · exact (goods_ne x hx "more" (by decide) ⟨k, by omega⟩).symm
    · exact (names_qw "more" (by decide) ⟨k, by omega⟩).1
    · exact (names_qw "more" (by decide) ⟨k, by omega⟩).2
noncomputable def LV : List It → Val → Prop
  | [], v => v = .con0 "[]"
  | i :: l, v => ∃ ρr, v = .con2 ":" i.core (itemsCore l (.con0 "[]")) ρr
theorem lv_items (l : List It) (ρ : Env) : ∃ v, Ev 1 (itemsCore l (.con0 "[]")) ρ v ∧ LV l v := by
  cases l with
  | nil => exact ⟨_, .con0, rfl⟩
  | cons i l => exact ⟨_, .con2, ρ, rfl⟩
end Mine
end
section
open PySem PySem.W PyProof.Rows PySem.Spec PySem.Calls
set_option maxHeartbeats 2000000
namespace Mine
theorem csum_ok (prog : Program) (w : World) (mk a l : Addr) (vs : List Value) (nl n : Nat) (names : List Str) (news : Led) (k : Int) (t t' : Tok) (m0 : (a, tupO [.str "sum" t', .ref l, .int k t] n) ∈ news) (m1 : (l, listO vs nl) ∈ news) (hs : Strs vs names) :
  Spec prog w 1252 [.ref mk, .ref a] 20 200 news (fun v news' => ∃ a tl, v = .ref a ∧ Pre news' tl news ∧ CoreIn w tl a (numCore names (.lit k)) ∧ Above tl news) := by
  have tg30 : True := True.intro; have tg4 : True := True.intro; have tg7 : True := True.intro
  intro p loose mean mg mb dp un gd cn cs ca ccd cl outer A₀ base h₀ L m s Q E B F X N T hk hd hu ret
  k_dflt first | k_extra "mine enter" | k_extra "mine enterC"
  k_steps
  all_goals (
    k_extra "mine flat"
    refine' ret _ _ _ _ ?eF ?eN ?eP
    case eF => k_asm
    case eN => k_asm
    case eP =>
      refine' (Mine.ex2 _ _ ⟨rfl, ?gp, ?gc, ?gab⟩)
      case gp => k_extra "mine pre"
      case gc => exact (by k_extra "mine core")
      case gab => k_extra "mine above")
end Mine
end
section
open PySem PySem.W PyProof.Rows PySem.Spec PySem.Calls
set_option maxHeartbeats 2000000
namespace Mine
theorem cless_ok (prog : Program) (w : World) (mk a l : Addr) (vs : List Value) (nl n : Nat) (names : List Str) (news : Led) (k : Int) (t t' : Tok) (m0 : (a, tupO [.str "less" t', .ref l, .int k t] n) ∈ news) (m1 : (l, listO vs nl) ∈ news) (hs : Strs vs names) :
  Spec prog w 1252 [.ref mk, .ref a] 20 200 news (fun v news' => ∃ a tl, v = .ref a ∧ Pre news' tl news ∧ CoreIn w tl a (.lt (numCore names (.lit 0)) (.lit k)) ∧ Above tl news) := by
  have tg30 : True := True.intro; have tg4 : True := True.intro; have tg7 : True := True.intro
  intro p loose mean mg mb dp un gd cn cs ca ccd cl outer A₀ base h₀ L m s Q E B F X N T hk hd hu ret
  k_dflt first | k_extra "mine enter" | k_extra "mine enterC"
  k_steps
  all_goals (
    k_extra "mine flat"
    refine' ret _ _ _ _ ?eF ?eN ?eP
    case eF => k_asm
    case eN => k_asm
    case eP =>
      refine' (Mine.ex2 _ _ ⟨rfl, ?gp, ?gc, ?gab⟩)
      case gp => k_extra "mine pre"
      case gc => exact .lt (by k_mem) (by k_mem) (by k_mem) (by k_extra "mine core") (.lit (by k_mem) (by k_mem))
      case gab => k_extra "mine above")
end Mine
end
section
open PySem PySem.W PyProof.Rows PySem.Spec PySem.Calls
set_option genSizeOf false
namespace Mine
section
variable {prog : Program} {w : World} {A : Around} {E : Value → Shared → Prop} {s : Shared} {h₀ : Heap} {L : Addr} {m : Str → Option Value} {news : Led}
theorem len_N {l : Addr} {vs : List Value} {n : Nat} {Q : Value → Shared → Prop} (N : News h₀ L s.heap news) (hm : (l, listO vs n) ∈ news) (hz : vs.length ≤ 1000) (h : ∀ t tk, Q (.int vs.length t) { s with toks := tk }) : wpAny (model prog w) A (call (.builtin "len") [.ref l]) Q E s :=
  call_len_list (isList_of N hm) (by rw [List.size_toArray]; omega) (by rw [List.size_toArray]; exact h _ _)
theorem eq_int_r {a b : Int} {t u : Tok} (r : Bool) {Q : Value → Shared → Prop} (e : (a == b) = r) (h : Q (.bool r) s) : wpAny (model prog w) A (compareOp .Eq (.int a t) (.int b u)) Q E s := eq_int (by rw [e]; exact h)
end
theorem item_at {pre vs : List Value} {v : Value} : (pre ++ v :: vs)[((pre.length : Nat) : Int).toNat]? = some v := by simp
noncomputable def OffM (nd : Addr) (l : Led) : Prop := ∀ q ∈ l, q.1 ≠ nd ∧ q.1 ≠ 1112 ∧ q.1 ≠ 1041
noncomputable def TabSt (qual : Str) (line col : Nat) (ps : Array Value) (imm : Led) : Prop :=
  ps = #[] ∨ ∃ c' oc vs t, ps = #[rawInt line, rawInt col, .ref c'] ∧ (c', oc) ∈ imm ∧ oc.data = .fields vs ∧ vs[1]? = some (.str qual t)
noncomputable abbrev TabL (ps : Array Value) (imm : Led) : Prop := TabSt "loop_body.<locals>.<lambda>" 472 27 ps imm
noncomputable abbrev TabR (ps : Array Value) (imm : Led) : Prop := TabSt "rhs_code.<locals>.<lambda>" 400 11 ps imm
theorem TabSt.mono {q : Str} {a b : Nat} {ps : Array Value} {l l' : Led} (hs : ∀ p ∈ l, p ∈ l') (h : TabSt q a b ps l) : TabSt q a b ps l' := by
  rcases h with h | ⟨c, oc, vs, t, h1, h2, h3⟩
  · exact .inl h
  · exact .inr ⟨c, oc, vs, t, h1, hs _ h2, h3⟩
theorem OffM.cons {nd d : Addr} {o : Obj} {l : Led} (h1 : d ≠ nd) (h2 : d ≠ 1112) (h3 : d ≠ 1041) (k : OffM nd l) : OffM nd ((d, o) :: l) := fun q hq => by
  rcases List.mem_cons.mp hq with rfl | hq
  · exact ⟨h1, h2, h3⟩
  · exact k q hq
theorem OffM.app {nd : Addr} {t R l : Led} {o1 o2 o3 : Obj} (h : Above t R) (m1 : (nd, o1) ∈ R) (m2 : (1112, o2) ∈ R) (m3 : (1041, o3) ∈ R) (k : OffM nd l) : OffM nd (t ++ l) := fun q hq =>
  (List.mem_append.mp hq).elim (fun e => ⟨(h q e _ m1).symm, (h q e _ m2).symm, (h q e _ m3).symm⟩) (k q)
theorem OffM.off1 {nd : Addr} {l : Led} (h : OffM nd l) : ∀ q ∈ l, q.1 ≠ nd := fun q hq => (h q hq).1
theorem OffM.off2 {nd : Addr} {l : Led} (h : OffM nd l) : ∀ q ∈ l, q.1 ≠ 1112 := fun q hq => (h q hq).2.1
theorem OffM.off3 {nd : Addr} {l : Led} (h : OffM nd l) : ∀ q ∈ l, q.1 ≠ 1041 := fun q hq => (h q hq).2.2
theorem news_M3 {h₀ h : Heap} {L : Addr} {all r1 r2 r3 : Led} {p q v : Addr × Obj} (N : News h₀ L h all) (D1 : Drop1 p all r1) (D2 : Drop1 q r1 r2) (D3 : Drop1 v r2 r3) : News h₀ L h (p :: q :: v :: r3) := fun x hx => by
  rcases List.mem_cons.mp hx with rfl | hx
  · exact N _ (D1.mem _ (.head _))
  · rcases List.mem_cons.mp hx with rfl | hx
    · exact N _ (D1.mem _ (.tail _ (D2.mem _ (.head _))))
    · exact N _ (D1.mem _ (.tail _ (D2.mem _ (.tail _ (D3.mem _ hx)))))
noncomputable def ToldPost (prog : Program) (w : World) (nd : Addr) (j : Int) (u : Nat) (c : Core) (imm : Led) (v : Value) (news' : Led) : Prop :=
  ∃ a r tl o' kvs' T1' T2', v = .ref a ∧ news' = (nd, o') :: (1112, tabObj T1') :: (1041, tabObj T2') :: r ∧ Pre r tl imm ∧ OffM nd r ∧ o'.IsDictOf (strKind prog w) kvs' ∧ NumSt kvs' j u ∧ TabL T1' r ∧ TabR T2' r ∧ CoreIn w r a c
noncomputable def ToldSpec (prog : Program) (w : World) (wanted : List Str) (rs : List Row) (j : Int) (rest : Core) : Prop :=
  ∀ (imm : Led) (nd : Addr) (o : Obj) (kvs : List (Str × Value)) (T1 T2 : Array Value) (u : Nat) (mk ex st ra : Addr) (sv svs pre : List Value) (ns : Nat) (at' : Int) (t : Tok),
    OffM nd imm → @LT.lt Nat _ 1112 nd → o.IsDictOf (strKind prog w) kvs → NumSt kvs j u → u + 2 * rs.length ≤ 25 → j + rs.length ≤ 10 → TabL T1 imm → TabR T2 imm → MakerIn w prog imm nd mk → SumIn imm "sum" ex wanted 0 →
    (st, listO sv ns) ∈ imm → sv = pre ++ svs → at' = pre.length → Stats w imm svs rs → pre.length + rs.length ≤ 10 → CoreIn w imm ra rest →
    Spec prog w 1110 [.ref mk, .ref ex, .ref st, .int at' t, .ref ra] (120 + 60 * rs.length) (1000 + 1200 * rs.length) ((nd, o) :: (1112, tabObj T1) :: (1041, tabObj T2) :: imm)
      (ToldPost prog w nd (j + draws rs) (u + 2 * rs.length) (comp wanted rs j rest) imm)
section
variable {prog : Program} {w : World} {p : Program} {loose : List Str} {mean : ExcName → Option Value} {mg mb : Str → Option Value} {dp un : Nat} {gd : Option (List Code)} {cn : Str} {cs : Scope} {ca : Addr} {ccd : Value} {cl : List (Str × Addr)} {outer : List PySem.Env} {A₀ : Around} {base h₀ : Heap} {L : Addr} {m : Str → Option Value} {s : Shared} {Q E : Value → Shared → Prop}
theorem told_use {wanted : List Str} {rs : List Row} {j : Int} {rest : Core} {all r1 r2 imm : Led} {nd : Addr} {o : Obj} {kvs : List (Str × Value)} {T1 T2 : Array Value} {u : Nat} {mk ex st ra : Addr} {sv svs pre : List Value} {ns : Nat} {at' : Int} {t : Tok}
    (B : Below A₀ base outer h₀) (F : Fr h₀ L s.heap m) (X : (Mine.H.KK w.params).In h₀) (N : News h₀ L s.heap all) (T : Top p loose mean mg mb h₀) (hk : cs.kind = .function)
    (D1 : Drop1 (nd, o) all r1) (D2 : Drop1 (1112, tabObj T1) r1 r2) (D3 : Drop1 (1041, tabObj T2) r2 imm) (S : ToldSpec prog w wanted rs j rest)
    (c1 : OffM nd imm) (c2 : @LT.lt Nat _ 1112 nd) (c3 : o.IsDictOf (strKind prog w) kvs) (c4 : NumSt kvs j u) (c5 : u + 2 * rs.length ≤ 25) (c6 : j + rs.length ≤ 10) (c7 : TabL T1 imm) (c8 : TabR T2 imm) (c9 : MakerIn w prog imm nd mk) (c10 : SumIn imm "sum" ex wanted 0)
    (c11 : (st, listO sv ns) ∈ imm) (c12 : sv = pre ++ svs) (c13 : at' = pre.length) (c14 : Stats w imm svs rs) (c15 : pre.length + rs.length ≤ 10) (c16 : CoreIn w imm ra rest)
    (hd : dp + (120 + 60 * rs.length) < recursionLimit) (hu : un + (1000 + 1200 * rs.length) < cLine)
    (ret : ∀ a tl o' kvs' T1' T2' h' tk', Fr h₀ L h' m → News h₀ L h' ((nd, o') :: (1112, tabObj T1') :: (1041, tabObj T2') :: (tl ++ imm)) → OffM nd (tl ++ imm) → o'.IsDictOf (strKind prog w) kvs' → NumSt kvs' (j + draws rs) (u + 2 * rs.length) →
      TabL T1' (tl ++ imm) → TabR T2' (tl ++ imm) → CoreIn w (tl ++ imm) a (comp wanted rs j rest) → Q (.ref a) { s with heap := h', toks := tk' }) :
    wpAny (model prog w) (ktrTop dp un gd cn cs L ca ccd cl outer) (call (.ref 1110) [.ref mk, .ref ex, .ref st, .int at' t, .ref ra]) Q E s := by
  refine spec_use0 B F X (news_M3 N D1 D2 D3) T hk (S imm nd o kvs T1 T2 u mk ex st ra sv svs pre ns at' t c1 c2 c3 c4 c5 c6 c7 c8 c9 c10 c11 c12 c13 c14 c15 c16) hd hu fun v h' tk' news' F' N' P => ?_
  obtain ⟨a, r, tl, o', kvs', T1', T2', rfl, rfl, hp, q1, q2, q3, q4, q5, q6⟩ := P
  have hp := hp.eq
  subst hp
  exact ret a tl o' kvs' T1' T2' h' tk' F' N' q1 q2 q3 q4 q5 q6
theorem next_use {all r : Led} {fr nd : Addr} {o : Obj} {kvs : List (Str × Value)} {b : Str} {t : Tok} {n : Int}
    (B : Below A₀ base outer h₀) (F : Fr h₀ L s.heap m) (X : (Mine.H.KK w.params).In h₀) (N : News h₀ L s.heap all) (T : Top p loose mean mg mb h₀) (hk : cs.kind = .function)
    (D : Drop1 (nd, o) all r) (c1 : FreshIn w prog r nd fr) (off : ∀ q ∈ r, q.1 ≠ nd) (c3 : o.IsDictOf (strKind prog w) kvs) (c4 : NumAt kvs b n) (c5 : kvs.length ≤ 200) (c6 : (PySem.Txt.rfind b (PySem.Str.ofString ".") : Int) = -1) (c7 : b.length ≤ 100) (c8 : 0 ≤ n) (c9 : n ≤ 30) (_c10 : @LT.lt Nat _ 1112 nd)
    (hd : dp + 10 < recursionLimit) (hu : un + 100 < cLine)
    (ret : ∀ t t' o' h' tk', Fr h₀ L h' m → News h₀ L h' ((nd, o') :: r) → o'.IsDictOf (strKind prog w) (stored kvs b (.int (n + 1) t')) → Q (.str (nameOf b (n + 1)) t) { s with heap := h', toks := tk' }) :
    wpAny (model prog w) (ktrTop dp un gd cn cs L ca ccd cl outer) (call (.ref 1217) [.ref fr, .str b t]) Q E s := by
  cases c1 with | mk m1 m2 m3 m4 m5 m6 =>
  refine spec_use0 B F X (fun q hq => N q (D.mem q hq)) T hk (next_ok prog w _ _ nd _ o kvs r b t _ _ _ m1 m2 m3 m4 m5 m6 n c4 c5 c6 c7 c8 c9 off c3) hd hu fun v h' tk' news' F' N' P => ?_
  obtain ⟨t1, t2, o', rfl, rfl, hd'⟩ := P
  exact ret t1 t2 o' h' tk' F' N' hd'
end
theorem NumSt.truthS {kvs : List (Str × Value)} {j : Int} {u : Nat} {n : Int} {t : Tok} (h : NumSt kvs j u) (h1 : 0 ≤ n) (h2 : n ≤ u) : NumSt (stored kvs "truth" (.int (n + 1) t)) j (u + 1) where
  lo := h.lo
  hi := h.hi
  len := Nat.le_trans (stored_len _ _ _) (by have := h.len; omega)
  loop := h.loop.set (by decide)
  items := h.items.set (by decide)
  item := h.item.set (by decide)
  more := h.more.set (by decide)
  truth := ⟨n + 1, .self, by omega, by omega⟩
  worked := let ⟨k, a, b, c⟩ := h.worked; ⟨k, a.set (by decide), b, by omega⟩
theorem NumSt.le {kvs : List (Str × Value)} {j : Int} {u u' : Nat} (h : NumSt kvs j u) (k : u ≤ u') : NumSt kvs j u' where
  lo := h.lo
  hi := h.hi
  len := by have := h.len; omega
  loop := h.loop
  items := h.items
  item := h.item
  more := h.more
  truth := let ⟨k, a, b, c⟩ := h.truth; ⟨k, a, b, by omega⟩
  worked := let ⟨k, a, b, c⟩ := h.worked; ⟨k, a, b, by omega⟩
theorem NumSt.workedS {kvs : List (Str × Value)} {j : Int} {u : Nat} {n : Int} {t : Tok} (h : NumSt kvs j u) (h1 : 0 ≤ n) (h2 : n ≤ u) : NumSt (stored kvs "worked" (.int (n + 1) t)) j (u + 1) where
  lo := h.lo
  hi := h.hi
  len := Nat.le_trans (stored_len _ _ _) (by have := h.len; omega)
  loop := h.loop.set (by decide)
  items := h.items.set (by decide)
  item := h.item.set (by decide)
  more := h.more.set (by decide)
  truth := let ⟨k, a, b, c⟩ := h.truth; ⟨k, a.set (by decide), b, by omega⟩
  worked := ⟨n + 1, .self, by omega, by omega⟩
structure NumQ (kvs : List (Str × Value)) (a b c d : Int) (u e : Nat) : Prop where
  len : kvs.length ≤ 6 * u + e
  loop : NumAt kvs "loop" a
  items : NumAt kvs "items" b
  item : NumAt kvs "item" c
  more : NumAt kvs "more" d
  truth : ∃ n, NumAt kvs "truth" n ∧ 0 ≤ n ∧ n ≤ u
  worked : ∃ n, NumAt kvs "worked" n ∧ 0 ≤ n ∧ n ≤ u
theorem NumSt.q {kvs : List (Str × Value)} {j : Int} {u : Nat} (h : NumSt kvs j u) : NumQ kvs j j j j u 0 := ⟨h.len, h.loop, h.items, h.item, h.more, h.truth, h.worked⟩
theorem NumQ.st {kvs : List (Str × Value)} {j : Int} {u e : Nat} (h : NumQ kvs j j j j u e) (he : e ≤ 6) (h0 : 0 ≤ j) (h1 : j ≤ 10) : NumSt kvs j (u + 1) :=
  ⟨h0, h1, by have := h.len; omega, h.loop, h.items, h.item, h.more, let ⟨k, a, b, c⟩ := h.truth; ⟨k, a, b, by omega⟩, let ⟨k, a, b, c⟩ := h.worked; ⟨k, a, b, by omega⟩⟩
section
variable {kvs : List (Str × Value)} {a b c d : Int} {u e : Nat} {t : Tok}
theorem NumQ.setLoop (h : NumQ kvs a b c d u e) : NumQ (stored kvs "loop" (.int (a + 1) t)) (a + 1) b c d u (e + 1) :=
  ⟨Nat.le_trans (stored_len _ _ _) (by have := h.len; omega), .self, h.items.set (by decide), h.item.set (by decide), h.more.set (by decide), let ⟨k, a, b, c⟩ := h.truth; ⟨k, a.set (by decide), b, c⟩, let ⟨k, a, b, c⟩ := h.worked; ⟨k, a.set (by decide), b, c⟩⟩
theorem NumQ.setItems (h : NumQ kvs a b c d u e) : NumQ (stored kvs "items" (.int (b + 1) t)) a (b + 1) c d u (e + 1) :=
  ⟨Nat.le_trans (stored_len _ _ _) (by have := h.len; omega), h.loop.set (by decide), .self, h.item.set (by decide), h.more.set (by decide), let ⟨k, a, b, c⟩ := h.truth; ⟨k, a.set (by decide), b, c⟩, let ⟨k, a, b, c⟩ := h.worked; ⟨k, a.set (by decide), b, c⟩⟩
theorem NumQ.setItem (h : NumQ kvs a b c d u e) : NumQ (stored kvs "item" (.int (c + 1) t)) a b (c + 1) d u (e + 1) :=
  ⟨Nat.le_trans (stored_len _ _ _) (by have := h.len; omega), h.loop.set (by decide), h.items.set (by decide), .self, h.more.set (by decide), let ⟨k, a, b, c⟩ := h.truth; ⟨k, a.set (by decide), b, c⟩, let ⟨k, a, b, c⟩ := h.worked; ⟨k, a.set (by decide), b, c⟩⟩
theorem NumQ.setMore (h : NumQ kvs a b c d u e) : NumQ (stored kvs "more" (.int (d + 1) t)) a b c (d + 1) u (e + 1) :=
  ⟨Nat.le_trans (stored_len _ _ _) (by have := h.len; omega), h.loop.set (by decide), h.items.set (by decide), h.item.set (by decide), .self, let ⟨k, a, b, c⟩ := h.truth; ⟨k, a.set (by decide), b, c⟩, let ⟨k, a, b, c⟩ := h.worked; ⟨k, a.set (by decide), b, c⟩⟩
end
end Mine
end
section
open PySem PySem.W PyProof.Rows PySem.Spec PySem.Calls
set_option genSizeOf false
namespace Mine
theorem UpdF_same {d : Addr} {o : Obj} {l : Led} {g : Obj → Led} (U : UpdF d o l g) : g o = l := by
  induction U with
  | head _ => rfl
  | tail _ _ ih => simp [ih]
theorem UpdF_mem {d : Addr} {o : Obj} {l : Led} {g : Obj → Led} (U : UpdF d o l g) : (d, o) ∈ l := by
  induction U with
  | head _ => exact .head _
  | tail _ _ ih => exact .tail _ ih
theorem UpdF_keep {d : Addr} {o o' : Obj} {l : Led} {g : Obj → Led} (U : UpdF d o l g) {q : Addr × Obj} (hq : q ∈ l) (hne : q.1 ≠ d) : q ∈ g o' := by
  induction U with
  | head _ =>
    rcases List.mem_cons.mp hq with rfl | hq
    · exact absurd rfl hne
    · exact .tail _ hq
  | tail _ _ ih =>
    rcases List.mem_cons.mp hq with rfl | hq
    · exact .head _
    · exact .tail _ (ih hq)
theorem sub_split {a b l : Led} (h : ∀ q ∈ a, q ∈ l) (k : ∀ q ∈ b, q ∈ l) : ∀ q ∈ a ++ b, q ∈ l := fun q hq => (List.mem_append.mp hq).elim (h q) (k q)
theorem sub_appl {a t l : Led} (h : ∀ q ∈ a, q ∈ t) : ∀ q ∈ a, q ∈ t ++ l := fun q hq => List.mem_append_left _ (h q hq)
theorem ne_left {x : Addr} {t r : Led} (k : ∀ p ∈ t ++ r, p.1 ≠ x) : ∀ p ∈ t, p.1 ≠ x := fun p hp => k p (List.mem_append_left _ hp)
theorem sub_via {A B R : Led} (h : ∀ q ∈ R, q ∈ B) (k : ∀ q ∈ A, q ∈ R) : ∀ q ∈ A, q ∈ B := fun q hq => h q (k q hq)
theorem mem_via {B R : Led} {p : Addr × Obj} (h : ∀ q ∈ R, q ∈ B) (k : p ∈ R) : p ∈ B := h p k
theorem news_M1 {h₀ h : Heap} {L : Addr} {all r : Led} {p : Addr × Obj} (N : News h₀ L h all) (D : Drop1 p all r) : News h₀ L h (p :: r) := fun x hx => by
  rcases List.mem_cons.mp hx with rfl | hx
  · exact N _ (D.mem _ (.head _))
  · exact N _ (D.mem _ (.tail _ hx))
theorem OffM.app' {nd : Addr} {t R l l' : Led} {o1 o2 : Obj} (h : Above t R) (m1 : (nd, o1) ∈ R) (m2 : (1112, o2) ∈ R) (m3 : ∀ q ∈ t ++ l', q.1 ≠ 1041) (k : OffM nd l) : OffM nd (t ++ l) := fun q hq =>
  (List.mem_append.mp hq).elim (fun e => ⟨(h q e _ m1).symm, (h q e _ m2).symm, m3 q (List.mem_append_left _ e)⟩) (k q)
theorem draws_bnd (x : Str) (ns : List Str) (k : Int) (rs : List Row) : draws (.bnd x ns k :: rs) = draws rs := rfl
theorem endU {h₀ : Heap} {L : Addr} {s₁ : Shared} {I : Addr} {it : Obj} {post all : Led} {rest : (Str → Option Value) → Led → Prop} {h' : Heap} {tk : Nat} {m' : Str → Option Value}
    (F : Fr h₀ L h' m') (N : News h₀ L h' all) (D : Drop1 (I, it) all post) (off : ∀ p ∈ post, p.1 ≠ I) (r : rest m' post) : UnrEnd h₀ L s₁ I it rest { s₁ with heap := h', toks := tk } :=
  ⟨h', tk, m', post, rfl, F, news_M1 N D, off, r⟩
theorem in_one {prog : Program} {w : World} {A : Around} {E : Value → Shared → Prop} {s : Shared} {h₀ : Heap} {L l : Addr} {news : Led} {x y : Str} {t u : Tok} {n : Nat} {Q : Value → Shared → Prop} (N : News h₀ L s.heap news) (hm : (l, listO [.str y u] n) ∈ news) (hne : x ≠ y) (h : Q (.bool false) s) :
    wpAny (model prog w) A (compareOp .In (.str x t) (.ref l)) Q E s :=
  in_list_strs (ys := [y]) (isList_of N hm) (.cons y u .nil) (by
    have e : ([y].any (· == x)) = false := by simpa using fun e => hne e.symm
    rw [e]; exact h)
theorem Strs.two {vs : List Value} {xs : List Str} (h : Strs vs xs) (k : vs.length ≤ 2) : (vs = [] ∧ xs = []) ∨ (∃ x t, vs = [.str x t] ∧ xs = [x]) ∨ (∃ x t y u, vs = [.str x t, .str y u] ∧ xs = [x, y]) := by
  cases h with
  | nil => exact .inl ⟨rfl, rfl⟩
  | cons h =>
    cases h with
    | nil => exact .inr (.inl ⟨_, _, rfl, rfl⟩)
    | cons h =>
      cases h with
      | nil => exact .inr (.inr ⟨_, _, _, _, rfl, rfl⟩)
      | cons h => simp at k
structure IsFn (f : Addr) : Prop where
structure CodeAt (c : Addr) (oc : Obj) (l : Led) : Prop where
  mem : (c, oc) ∈ l
section
variable {M : Model} {A : Around} {E : Value → Shared → Prop} {s : Shared} {h₀ : Heap} {L a c P : Addr} {m mg mb : Str → Option Value} {cn : Str} {cs : Scope} {ccd : Value} {cl : List (Str × Addr)} {news imm : Led} {g : Obj → Led}
  {p : Program} {loose : List Str} {mean : ExcName → Option Value} {name qual : Str} {params : Arguments} {body : PySem.Expr} {scope : Scope} {ps : Array Value} {pos : PySem.Pos} {firstLine : Nat} {clos : List (Str × Addr)}
theorem lam_any {Q : Value → Shared → Prop} (F : Fr h₀ L s.heap m) (N : News h₀ L s.heap news) (T : Top p loose mean mg mb h₀) (C : CodeHd h₀ c P) (hcd : ccd = .ref c) (U : UpdF P (tabObj ps) news g) (st : TabSt qual pos.line pos.col ps imm) (sub : ∀ q ∈ imm, q ∈ news) (off : ∀ q ∈ imm, q.1 ≠ P)
    (hcl : closureFor scope (envX cn cs L a ccd cl) = pure clos)
    (h : ∀ f c' oc vs t ctv tl h' tk', Fr h₀ L h' m →
      News h₀ L h' ((f, kla_obj name qual params body scope clos ((mg "__name__").getD .none) c' ctv) :: (tl ++ g (tabObj #[rawInt pos.line, rawInt pos.col, .ref c']))) →
      IsFn f → CodeAt c' oc (tl ++ imm) → TabSt qual pos.line pos.col #[rawInt pos.line, rawInt pos.col, .ref c'] (tl ++ imm) → (c', oc) ∈ tl ++ g (tabObj #[rawInt pos.line, rawInt pos.col, .ref c']) → oc.data = .fields vs → vs[1]? = some (.str qual t) → (∀ q ∈ tl ++ news, @LT.lt Nat _ q.1 f) → Above tl news → Q (.ref f) { s with heap := h', toks := tk' }) :
    wpAny M A (makeFunction name qual params (.expr body) scope (envX cn cs L a ccd cl) [] [] [] pos firstLine) Q E s := by
  rcases st with rfl | ⟨c', oc, vs, t, rfl, hm, hd, hv⟩
  · refine kla_nest (M := M) F N T C hcd U trivial rfl hcl fun f c' oc vs t ctv h' tk F' N' hd hv l1 l2 => ?_
    refine h f c' oc vs t ctv [(c', oc)] h' tk F' N' ⟨⟩ ⟨.head _⟩ (.inr ⟨c', oc, vs, t, rfl, .head _, hd, hv⟩) (.head _) hd hv (fun q hq => ?_) (fun q hq p hp => ?_)
    · rcases List.mem_cons.mp hq with rfl | hq
      · exact l2
      · exact Nat.lt_trans (l1 q hq) l2
    · rw [List.mem_singleton.mp hq]; exact Nat.ne_of_lt (l1 p hp)
  · refine kla_hit (M := M) (c' := c') F N T C hcd (UpdF_mem U) (by simp [TriplesOk, rawInt]) (by simp [codeAmong, rawInt]) hcl fun f ctv h' tk F' N' l1 => ?_
    refine h f c' oc vs t ctv [] h' tk F' ?_ ⟨⟩ ⟨hm⟩ (.inr ⟨c', oc, vs, t, rfl, hm, hd, hv⟩) (UpdF_keep U (sub _ hm) (off _ hm)) hd hv l1 Above.nil
    rw [UpdF_same U]
    exact N'
theorem at_callWith {pos : PySem.Pos} {first : List Value} {q : Addr} {xs kw} {Q : Value → Shared → Prop} (_i : IsFn q) (h : wpAny M A (callWith pos (.ref q) first xs kw) Q E s) : wpAny M A (callWith pos (.ref q) first xs kw) Q E s := h
theorem at_call {q : Addr} {args : List Value} {Q : Value → Shared → Prop} (_i : IsFn q) (h : wpAny M A (call (.ref q) args) Q E s) : wpAny M A (call (.ref q) args) Q E s := h
end
theorem spec_useD1 {prog : Program} {w : World} {f : Addr} {args : List Value} {room units : Nat} {all r : Led} {p₁ : Addr × Obj} {post : Value → Led → Prop} {p : Program} {loose : List Str} {mean : ExcName → Option Value} {mg mb : Str → Option Value} {dp un : Nat} {gd : Option (List Code)} {cn : Str} {cs : Scope} {ca : Addr} {ccd : Value} {cl : List (Str × Addr)} {outer : List PySem.Env} {A₀ : Around} {base h₀ : Heap} {L : Addr} {m : Str → Option Value} {s : Shared} {Q E : Value → Shared → Prop}
    (B : Below A₀ base outer h₀) (F : Fr h₀ L s.heap m) (X : (Mine.H.KK w.params).In h₀) (N : News h₀ L s.heap all) (T : Top p loose mean mg mb h₀) (hk : cs.kind = .function) (D : Drop1 p₁ all r)
    (S : Spec prog w f args room units (p₁ :: r) post)
    (hd : dp + room < recursionLimit) (hu : un + units < cLine)
    (ret : ∀ v h' tk' news', Fr h₀ L h' m → News h₀ L h' news' → post v news' → Q v { s with heap := h', toks := tk' }) :
    wpAny (model prog w) (ktrTop dp un gd cn cs L ca ccd cl outer) (call (.ref f) args) Q E s :=
  spec_use0 B F X (news_M1 N D) T hk S hd hu ret
section
variable {prog : Program} {w : World} {A : Around} {E : Value → Shared → Prop} {s : Shared} {h₀ : Heap} {L : Addr} {news : Led}
theorem len_1 {l : Addr} {v : Value} {n : Nat} {Q : Value → Shared → Prop} (N : News h₀ L s.heap news) (hm : (l, listO [v] n) ∈ news) (h : ∀ t tk, Q (.int 1 t) { s with toks := tk }) : wpAny (model prog w) A (call (.builtin "len") [.ref l]) Q E s :=
  len_N N hm (by simp) fun t tk => h t tk
end
end Mine
end
section
open PySem PySem.W PyProof.Rows PySem.Spec PySem.Calls
namespace Mine
theorem ev_lit {n : Nat} {k : Int} {ρ : Env} (h : 1 ≤ n) : Ev n (.lit k) ρ (.int k) := (Ev.lit (n := 0)).mono h
theorem ev_con2 {n : Nat} {x : Nm} {a b : Core} {ρ : Env} (h : 1 ≤ n) : Ev n (.con2 x a b) ρ (.con2 x a b ρ) := (Ev.con2 (n := 0)).mono h
noncomputable def results (wanted : List Str) (rs : List Row) (p : Pat) (kn : Kn) (l : List It) : List Int := l.flatMap fun it => match takenBy p it with
    | some t => loops wanted rs (t ++ kn)
    | none => []
theorem step_ok {wanted : List Str} {rs : List Row} {p : Pat} {it : It} {kn : Kn} {dom : List Str} {ks : List Int} {m D : Nat} {item L M : Nm} {inner again : Core} {ρ2 ρr : Env}
    (hfit : fits p it) (hp : ∀ x ∈ p.names, x ∈ goods) (hit : ρ2.look item = some (it.core, ρr)) (hkn : Knows D dom kn ρ2) (hD : 3 ≤ D) (hm : 8 ≤ m) (hlen : ρ2.len ≤ 140)
    (hg : ∀ x ∈ dom, x ∈ goods) (hiq : item ≠ "q" ∧ item ≠ "w") (hig : ∀ x ∈ goods, x ≠ item) (hL : ∀ x, (x ∈ goods ∨ x = "q" ∨ x = "w") → L ≠ x) (hM : ∀ x, (x ∈ goods ∨ x = "q" ∨ x = "w") → M ≠ x)
    (hin : ∀ (ρ3 : Env) (t : Kn), takenBy p it = some t → ρ3.len ≤ ρ2.len + 4 → ρ3.look L = ρ2.look L → ρ3.look M = ρ2.look M → Knows D (p.names ++ dom) (t ++ kn) ρ3 → Stream m inner ρ3 (loops wanted rs (t ++ kn) ++ ks))
    (hag : ∀ ρ3 : Env, ρ3.len ≤ 150 → ρ3.look L = ρ2.look L → ρ3.look M = ρ2.look M → Stream m again ρ3 ks) :
    Stream (m + 6) (stepCore p item inner again) ρ2 (results wanted rs p kn [it] ++ ks) := by
  have hL' := fun x (h : x ∈ goods) => hL x (.inl h)
  have hM' := fun x (h : x ∈ goods) => hM x (.inl h)
  have sm : Small ρ2 := Nat.le_trans hlen (by decide)
  have fin : ∀ t, takenBy p it = some t → results wanted rs p kn [it] ++ ks = loops wanted rs (t ++ kn) ++ ks := fun t h => by simp [results, h]
  have finN : takenBy p it = none → results wanted rs p kn [it] ++ ks = ks := fun h => by simp [results, h]
  cases p with
  | any =>
    rw [fin [] rfl]
    exact (hin ρ2 [] rfl (by omega) rfl rfl hkn).mono (by omega)
  | var x =>
    cases it with
    | two a b => exact absurd hfit (by simp [fits])
    | one k =>
      have hx := hp x (.head _)
      rw [fin [(x, k)] rfl]
      refine (hin (.bind x (.var item) ρ2 ρ2) [(x, k)] rfl (by simp only [Env.len]; omega) (look_bind_ne (hL' x hx)) (look_bind_ne (hM' x hx)) ?_).step (by omega) fun v h => ((Ev.letn sm h).mono (by omega))
      exact hkn.add (fun y _ hy => look_bind_ne hy) look_bind ((Ev.var hit (ev_lit (n := 1) (Nat.le_refl _))).mono (by omega))
  | lit =>
    cases it with
    | two a b => exact absurd hfit (by simp [fits])
    | one k =>
      have ev : Ev m (.var item) ρ2 (.int k) := (Ev.var hit (ev_lit (n := 1) (Nat.le_refl _))).mono (by omega)
      have hLw : ∀ k' : Int, (Env.bind "w" (.lit k') .nil ρ2).look L = ρ2.look L := fun _ => look_bind_ne (hL _ (.inr (.inr rfl)))
      have hMw : ∀ k' : Int, (Env.bind "w" (.lit k') .nil ρ2).look M = ρ2.look M := fun _ => look_bind_ne (hM _ (.inr (.inr rfl)))
      by_cases hk : k = 1
      · subst hk
        rw [fin [] (by simp [takenBy])]
        refine (hin (.bind "w" (.lit 1) .nil ρ2) [] (by simp [takenBy]) (by simp only [Env.len]; omega) (hLw _) (hMw _) ?_).step (by omega) fun v h => ((Ev.cLitT sm ev h).mono (by omega))
        exact hkn.move fun y hy => look_bind_ne (goods_qw y (hg y hy)).2
      · rw [finN (by simp [takenBy, hk])]
        exact (hag (.bind "w" (.lit k) .nil ρ2) (by simp only [Env.len]; omega) (hLw _) (hMw _)).step (by omega) fun v h => ((Ev.cLitF sm ev hk h).mono (by omega))
  | pairN x =>
    cases it with
    | one k => exact absurd hfit (by simp [fits])
    | two a b =>
      have hx := hp x (.head _)
      rw [fin [(x, a)] rfl]
      have ev : Ev m (.var item) ρ2 (.con2 "(,)" (.lit a) (.lit b) ρr) := (Ev.var hit (ev_con2 (n := 1) (Nat.le_refl _))).mono (by omega)
      refine (hin (.bind "q" (.lit b) ρr (.bind x (.lit a) ρr ρ2)) [(x, a)] rfl (by simp only [Env.len]; omega) ?_ ?_ ?_).step (by omega) fun v h => ((Ev.cPair sm ev h).mono (by omega))
      · rw [look_bind_ne (hL _ (.inr (.inl rfl))), look_bind_ne (hL' x hx)]
      · rw [look_bind_ne (hM _ (.inr (.inl rfl))), look_bind_ne (hM' x hx)]
      · refine hkn.add (ρc := ρr) (fun y hy hne => ?_) ?_ (ev_lit (by omega))
        · rw [look_bind_ne (goods_qw y (hg y hy)).1, look_bind_ne hne]
        · rw [look_bind_ne (goods_qw x hx).1, look_bind]
  | pairL x =>
    cases it with
    | one k => exact absurd hfit (by simp [fits])
    | two a b =>
      have hx := hp x (.head _)
      have ev : Ev (m + 2) (.var item) ρ2 (.con2 "(,)" (.lit a) (.lit b) ρr) := (Ev.var hit (ev_con2 (n := 1) (Nat.le_refl _))).mono (by omega)
      have evq : Ev m (.var "q") (.bind "q" (.lit b) ρr (.bind x (.lit a) ρr ρ2)) (.int b) := (Ev.var look_bind (ev_lit (n := 1) (Nat.le_refl _))).mono (by omega)
      have sm3 : Small (.bind "q" (.lit b) ρr (.bind x (.lit a) ρr ρ2)) := by simp only [Small, Env.len]; omega
      have hLw : ∀ k' : Int, (Env.bind "w" (.lit k') .nil (.bind "q" (.lit b) ρr (.bind x (.lit a) ρr ρ2))).look L = ρ2.look L := fun _ => by
        rw [look_bind_ne (hL _ (.inr (.inr rfl))), look_bind_ne (hL _ (.inr (.inl rfl))), look_bind_ne (hL' x hx)]
      have hMw : ∀ k' : Int, (Env.bind "w" (.lit k') .nil (.bind "q" (.lit b) ρr (.bind x (.lit a) ρr ρ2))).look M = ρ2.look M := fun _ => by
        rw [look_bind_ne (hM _ (.inr (.inr rfl))), look_bind_ne (hM _ (.inr (.inl rfl))), look_bind_ne (hM' x hx)]
      by_cases hk : b = 1
      · subst hk
        rw [fin [(x, a)] (by simp [takenBy])]
        refine (hin (.bind "w" (.lit 1) .nil (.bind "q" (.lit 1) ρr (.bind x (.lit a) ρr ρ2))) [(x, a)] (by simp [takenBy]) (by simp only [Env.len]; omega) (hLw _) (hMw _) ?_).step (by omega) fun v h => ((Ev.cPair sm ev (Ev.cLitT sm3 evq h)).mono (by omega))
        refine hkn.add (ρc := ρr) (fun y hy hne => ?_) ?_ (ev_lit (by omega))
        · rw [look_bind_ne (goods_qw y (hg y hy)).2, look_bind_ne (goods_qw y (hg y hy)).1, look_bind_ne hne]
        · rw [look_bind_ne (goods_qw x hx).2, look_bind_ne (goods_qw x hx).1, look_bind]
      · rw [finN (by simp [takenBy, hk])]
        exact (hag (.bind "w" (.lit b) .nil (.bind "q" (.lit b) ρr (.bind x (.lit a) ρr ρ2))) (by simp only [Env.len]; omega) (hLw _) (hMw _)).step (by omega) fun v h => ((Ev.cPair sm ev (Ev.cLitF sm3 evq hk h)).mono (by omega))
end Mine
end
section
open PySem PySem.W PyProof.Rows PySem.Spec PySem.Calls
set_option maxHeartbeats 2000000
namespace Mine
theorem fn_ok (prog : Program) (w : World) (a : Addr) (c : Core) (news : Led) (hc : CoreIn w news a c) (hn : Numeric c) (hz : c.sz ≤ 20) (hf : c.fv.length ≤ 2) :
  Spec prog w 401 [.ref a] 20 200 news (fun v news' => ∃ l vs n xs tl, v = .ref l ∧ Pre news' tl news ∧ (l, listO vs n) ∈ tl ∧ Strs vs xs ∧ (∀ z ∈ xs, z ∈ c.fv) ∧ vs.length ≤ 2 ∧ Above tl news) := by
  have tg30 : True := True.intro; have tg38 : True := True.intro; have tg39 : True := True.intro; have tg4 : True := True.intro; have tg8 : True := True.intro
  intro p loose mean mg mb dp un gd cn cs ca ccd cl outer A₀ base h₀ L m s Q E B F X N T hk hd hu ret
  k_dflt first | k_extra "mine enter" | k_extra "mine enterC"
  k_steps
  all_goals skip
  · rename (News _ _ _ (_ :: _ :: _ :: _ :: _)) => N9
    have N8 := Mine.news_drop2 N9 (.tail .head) (.tail (.tail (.tail .head)))
    refine' Mine.Hold.mk (Mine.While_invC (Mine.JFree prog w news c.fv _ _ _) (n₀ := c.sz) ?wF N8 ?wJ ?turn)
    case wF => k_asm
    case wJ =>
      k_extra "mine flat"
      refine' (Mine.ex12 [_] [c] _ _ [] _ _ none none none none none ⟨rfl, ?gp, ?gab, ?g1, ?g2, ?g3, ?g4, ?g5, ?g6, ?g7, ?g8, ?g9, ?g10⟩)
      case gp => k_extra "mine pre"
      case g10 => refine' Mine.shF_init ?_ ?_ ?_ ?_ ?_ <;> first | rfl | (with_unfolding_all rfl) | decide
      case gab => k_extra "mine above"
      case g1 => k_extra "mine off"
      case g2 => k_extra "mine off"
      case g3 => exact .snoc .nil (by k_mem) (hc.mono (by k_extra "mine sub")) hn (by k_mem) (by k_asm) (by k_asm)
      case g4 => simp [szs]
      case g5 => omega
      case g6 => k_asm
      case g7 => simp [fvs]; omega
      case g8 => exact fun _ h => nomatch h
      case g9 => simp [fvs]
    case turn =>
      intro n m₁ news₁ h₁ tk₁ F₁ N₁ hJ
      (k_dflt (refine' Mine.exe12 (hJ) ?_); intro vs cs ln o kvs imm tl o1 o2 o3 o4 o5 hz9; k_dflt (refine' Mine.ane13 hz9 ?_); clear hz9; intro er0 hp hab ol ofd ht er6 hn50 hd hk2 hkn hfn er12; subst er0; subst er6; subst er12; clear hJ)
      cases ht with
      | nil =>
        k_steps
        all_goals (
          k_extra "mine flat"
          refine' ret _ _ _ _ ?eF ?eN ?eP
          case eF => k_asm
          case eN => k_asm
          case eP =>
            refine' (Mine.ex5 _ _ _ _ _ ⟨rfl, ?gp, ?gm, ?gs, ?gk, ?gl, ?gab⟩)
            case gp => k_extra "mine pre"
            case gm => k_mem
            case gs => k_asm
            case gk => exact fun z hz => (by
              have q := ‹∀ z ∈ _, z ∈ List.map _ _› z hz
              obtain ⟨p9, hp9, rfl⟩ := List.mem_map.mp q
              exact hkn p9 hp9)
            case gl => k_asm
            case gab => k_extra "mine above")
      | snoc ht m1 hcc hnn m2 hd2 lo2 =>
        have hb := ht.bound hn50
        cases hnn with
        | lit =>
          refine Mine.CoreIn.inv hcc _ ?_
          intro _ _ _ _ _ n1 n2
          clear hcc
          k_steps
          refine Mine.Hold.mk ?_
          k_extra "mine flat"
          refine' Mine.WStep.next ?wF ?wN ?wl (Mine.ex12 _ _ _ _ _ _ _ _ _ _ _ _ ⟨rfl, ?gp, ?gab, ?g1, ?g2, ?g3, rfl, ?g5, ?g6, ?g7, ?g8, ?g9, ?g10⟩)
          case wF => k_asm
          case wN =>
            refine' Mine.news_drop2 ?n1 ?n2 ?n3
            case n1 => k_asm
            case n2 => k_extra "mine drop"
            case n3 => k_extra "mine drop"
          case g3 => refine' Mine.Tasks.mono ?sb ht; (case sb => k_extra "mine sub")
          case gp => k_extra "mine pre"
          case gab => k_extra "mine above"
          case g1 => k_extra "mine off"
          case g2 => k_extra "mine off"
          case g6 => k_asm
          case g10 => k_extra "mine shF"
          case wl => simp only [szs, List.map_cons, List.sum_cons, Core.sz] at *; omega
          case g5 => simp only [szs, List.map_cons, List.sum_cons, Core.sz] at *; omega
          case g7 => simp only [fvs, List.flatMap_cons, Core.fv, List.nil_append] at hk2 ⊢; exact hk2
          case g8 => exact hkn
          case g9 => exact fun x hx => hfn x (by simp only [fvs, List.flatMap_cons, Core.fv, List.nil_append] at hx ⊢; exact hx)
        | var =>
          refine Mine.CoreIn.inv hcc _ ?_
          intro _ _ _ n1 n2
          clear hcc
          k_steps
          refine Mine.Hold.mk ?_
          k_extra "mine flat"
          refine' Mine.WStep.cont ?wF ?wN ?wl (Mine.ex12 _ _ _ _ _ _ _ _ _ _ _ _ ⟨rfl, ?gp, ?gab, ?g1, ?g2, ?g3, rfl, ?g5, ?g6, ?g7, ?g8, ?g9, ?g10⟩)
          case wF => k_asm
          case wN =>
            refine' Mine.news_drop2 ?n1 ?n2 ?n3
            case n1 => k_asm
            case n2 => k_extra "mine drop"
            case n3 => k_extra "mine drop"
          case g3 => refine' Mine.Tasks.mono ?sb ht; (case sb => k_extra "mine sub")
          case gp => k_extra "mine pre"
          case gab => k_extra "mine above"
          case g1 => k_extra "mine off"
          case g2 => k_extra "mine off"
          case g6 => k_asm
          case g10 => k_extra "mine shF"
          case wl => simp only [szs, List.map_cons, List.sum_cons, Core.sz] at *; omega
          case g5 => simp only [szs, List.map_cons, List.sum_cons, Core.sz] at *; omega
          case g7 =>
            simp only [fvs, List.flatMap_cons, Core.fv, List.length_append, List.length_cons, List.length_nil] at hk2 ⊢
            refine Nat.le_trans (Nat.add_le_add_right (Mine.stored_len kvs _ _) _) ?_
            omega
          case g8 =>
            intro p hp
            rcases Mine.stored_keys p hp with e | ⟨q, hq, e⟩
            · rw [e]; exact hfn _ (by simp [fvs, Core.fv])
            · rw [← e]; exact hkn q hq
          case g9 => exact fun x hx => hfn x (by simp only [fvs, List.flatMap_cons, Core.fv, List.singleton_append] at hx ⊢; exact List.mem_cons_of_mem _ hx)
        | add n6 n7 =>
          refine Mine.CoreIn.inv hcc _ ?_
          intro _ _ _ _ _ _ _ _ n1 n2 n3 n4 n5
          clear hcc
          k_steps
          refine Mine.Hold.mk ?_
          k_extra "mine flat"
          refine' Mine.WStep.next ?wF ?wN ?wl (Mine.ex12 _ _ _ _ _ _ _ _ _ _ _ _ ⟨rfl, ?gp, ?gab, ?g1, ?g2, ?g3, rfl, ?g5, ?g6, ?g7, ?g8, ?g9, ?g10⟩)
          case wF => k_asm
          case wN =>
            refine' Mine.news_drop2 ?n1 ?n2 ?n3
            case n1 => k_asm
            case n2 => k_extra "mine drop"
            case n3 => k_extra "mine drop"
          case g3 =>
            refine' .snoc (.snoc ?q1 ?q2 (Mine.CoreIn.mono ?q3 n4) n6 ?q4 hd2 lo2) ?q5 (Mine.CoreIn.mono ?q6 n5) n7 ?q7 hd2 lo2
            case q1 =>
              refine' Mine.Tasks.mono ?sb ht
              case sb => k_extra "mine sub"
            case q2 => k_mem
            case q3 => k_extra "mine sub"
            case q4 => k_mem
            case q5 => k_mem
            case q6 => k_extra "mine sub"
            case q7 => k_mem
          case gp => k_extra "mine pre"
          case gab => k_extra "mine above"
          case g1 => k_extra "mine off"
          case g2 => k_extra "mine off"
          case g6 => k_asm
          case g10 => k_extra "mine shF"
          case wl => simp only [szs, List.map_cons, List.sum_cons, Core.sz] at *; omega
          case g5 => simp only [szs, List.map_cons, List.sum_cons, Core.sz] at *; omega
          case g7 => simp only [fvs, List.flatMap_cons, Core.fv, List.length_append] at hk2 ⊢; omega
          case g8 => exact hkn
          case g9 => exact fun x hx => hfn x (by simp only [fvs, List.flatMap_cons, Core.fv, List.mem_append] at hx ⊢; rcases hx with h | h | h <;> simp [h])
end Mine
end
section
open PySem PySem.W PyProof.Rows PySem.Spec PySem.Calls
set_option maxHeartbeats 2000000
namespace Mine
theorem m_any (prog : Program) (w : World) (imm : Led) (nd : Addr) (o : Obj) (T1 T2 : Array Value) (j' : Int) (u' R U n0 n1 n2 : Nat) (nl rl row rd pl pa f fa cd fr : Addr) (item : Str) (ti t1 t2 t3 : Tok) (oc : Value) (od : Option Addr) (fd : FuncData) (sl : Array (Option Value)) (inner again : Core)
  (hnl : (nl, listO [.str item ti] n0) ∈ imm) (hrl : (rl, listO [.ref row] n1) ∈ imm) (hrow : (row, instObj 38 rd) ∈ imm) (hrd : (rd, dictOf [at_ w "patterns" t1 (.ref pl), at_ w "body" t2 (.ref f), at_ w "can_fail" t3 (.bool false)] 3) ∈ imm) (hpl : (pl, listO [.ref pa] n2) ∈ imm)
  (hpa : PatIn w imm pa .any) (hf : (f, (⟨oc, od, .func fd, sl⟩ : Obj)) ∈ imm) (hfn : IsFn f) (hfa : CoreIn w imm fa again)
  (S : Spec prog w f [.ref fa] R U ((nd, o) :: (1112, tabObj T1) :: (1041, tabObj T2) :: imm) (ToldPost prog w nd j' u' inner imm)) :
  Spec prog w 1259 [.ref nl, .ref rl, .ref fa, .ref cd, .ref fr] (R + 20) (U + 300) ((nd, o) :: (1112, tabObj T1) :: (1041, tabObj T2) :: imm) (ToldPost prog w nd j' u' (stepCore .any item inner again) imm) := by
  have tg0 : True := True.intro; have tg11 : True := True.intro; have tg12 : True := True.intro; have tg30 : True := True.intro; have tg4 : True := True.intro; have tg40 : True := True.intro; have tg41 : True := True.intro; have tg42 : True := True.intro; have tg43 : True := True.intro
  intro p loose mean mg mb dp un gd cn cs ca ccd cl outer A₀ base h₀ L m s Q E B F X N T hk hd hu ret
  cases hpa with | any m1 =>
  cases m1 with | mk q1 q2 =>
  k_dflt first | k_extra "mine enter" | k_extra "mine enterC"
  k_steps
  all_goals (
    k_extra "mine flat"
    refine' ret _ _ _ _ ?eF ?eN (Mine.ex7 _ _ _ _ _ _ _ ⟨rfl, rfl, ?gp, ?goff, ?gd, ?gnum, ?gt1, ?gt2, ?gcore⟩)
    case eF => k_asm
    case eN =>
      refine' Mine.news_M3 (p := (nd, _)) (q := (1112, _)) (v := (1041, _)) ?n1 ?n2 ?n3 ?n4
      case n1 => k_asm
      case n2 => k_extra "mine drop"
      case n3 => k_extra "mine drop"
      case n4 => k_extra "mine drop"
    case gp => k_extra "mine pre"
    case goff => k_extra "mine offM"
    case gd => k_asm
    case gnum => k_asm
    case gt1 =>
      refine' Mine.TabSt.mono ?sb ?tt
      case tt => with_reducible assumption
      case sb => k_extra "mine sub"
    case gt2 =>
      refine' Mine.TabSt.mono ?sb ?tt
      case tt => with_reducible assumption
      case sb => k_extra "mine sub"
    case gcore => (show CoreIn w _ _ inner; k_extra "mine corem"))
end Mine
end
section
open PySem PySem.W PyProof.Rows PySem.Spec PySem.Calls
set_option maxHeartbeats 2000000
namespace Mine
theorem m_var (prog : Program) (w : World) (x : Str) (imm : Led) (nd : Addr) (o : Obj) (T1 T2 : Array Value) (j' : Int) (u' R U n0 n1 n2 : Nat) (nl rl row rd pl pa f fa cd fr : Addr) (item : Str) (ti t1 t2 t3 : Tok) (oc : Value) (od : Option Addr) (fd : FuncData) (sl : Array (Option Value)) (inner again : Core)
  (hnl : (nl, listO [.str item ti] n0) ∈ imm) (hrl : (rl, listO [.ref row] n1) ∈ imm) (hrow : (row, instObj 38 rd) ∈ imm) (hrd : (rd, dictOf [at_ w "patterns" t1 (.ref pl), at_ w "body" t2 (.ref f), at_ w "can_fail" t3 (.bool false)] 3) ∈ imm) (hpl : (pl, listO [.ref pa] n2) ∈ imm)
  (hpa : PatIn w imm pa (.var x)) (hf : (f, (⟨oc, od, .func fd, sl⟩ : Obj)) ∈ imm) (hfn : IsFn f) (hfa : CoreIn w imm fa again)
  (S : Spec prog w f [.ref fa] R U ((nd, o) :: (1112, tabObj T1) :: (1041, tabObj T2) :: imm) (ToldPost prog w nd j' u' inner imm)) :
  Spec prog w 1259 [.ref nl, .ref rl, .ref fa, .ref cd, .ref fr] (R + 20) (U + 300) ((nd, o) :: (1112, tabObj T1) :: (1041, tabObj T2) :: imm) (ToldPost prog w nd j' u' (stepCore (.var x) item inner again) imm) := by
  have tg0 : True := True.intro; have tg11 : True := True.intro; have tg12 : True := True.intro; have tg30 : True := True.intro; have tg4 : True := True.intro; have tg40 : True := True.intro; have tg41 : True := True.intro; have tg42 : True := True.intro; have tg43 : True := True.intro
  intro p loose mean mg mb dp un gd cn cs ca ccd cl outer A₀ base h₀ L m s Q E B F X N T hk hd hu ret
  cases hpa with | var m1 =>
  cases m1 with | mk q1 q2 =>
  k_dflt first | k_extra "mine enter" | k_extra "mine enterC"
  k_steps
  all_goals (
    k_extra "mine flat"
    refine' ret _ _ _ _ ?eF ?eN (Mine.ex7 _ _ _ _ _ _ _ ⟨rfl, rfl, ?gp, ?goff, ?gd, ?gnum, ?gt1, ?gt2, ?gcore⟩)
    case eF => k_asm
    case eN =>
      refine' Mine.news_M3 (p := (nd, _)) (q := (1112, _)) (v := (1041, _)) ?n1 ?n2 ?n3 ?n4
      case n1 => k_asm
      case n2 => k_extra "mine drop"
      case n3 => k_extra "mine drop"
      case n4 => k_extra "mine drop"
    case gp => k_extra "mine pre"
    case goff => k_extra "mine offM"
    case gd => k_asm
    case gnum => k_asm
    case gt1 =>
      refine' Mine.TabSt.mono ?sb ?tt
      case tt => with_reducible assumption
      case sb => k_extra "mine sub"
    case gt2 =>
      refine' Mine.TabSt.mono ?sb ?tt
      case tt => with_reducible assumption
      case sb => k_extra "mine sub"
    case gcore => exact .letn (by k_mem) (by k_mem) (by k_mem) (by k_mem) (.var (by k_mem) (by k_mem)) (by k_extra "mine corem"))
end Mine
end
section
open PySem PySem.W PyProof.Rows PySem.Spec PySem.Calls
set_option maxHeartbeats 2000000
namespace Mine
theorem rnd_ok (prog : Program) (w : World) (imm : Led) (l t c : Addr) (tx : Tok) (n1 n2 : Nat) (x : Str) (cc : Core) (m1 : (l, listO [.ref t] n1) ∈ imm) (m2 : (t, tupO [.str x tx, .ref c] n2) ∈ imm) (hc : CoreIn w imm c cc) (hn : Numeric cc) (hz : cc.sz ≤ 20) (hf : cc.fv.length ≤ 2) (hx : ∀ z ∈ cc.fv, z ≠ x) :
  Spec prog w 1082 [.ref l] 50 500 imm (fun v news' => ∃ tl, v = .bool false ∧ Pre news' tl imm ∧ Above tl imm) := by
  have tg0 : True := True.intro; have tg30 : True := True.intro; have tg4 : True := True.intro; have tg40 : True := True.intro; have tg9 : True := True.intro
  intro p loose mean mg mb dp un gd cn cs ca ccd cl outer A₀ base h₀ L m s Q E B F X N T hk hd hu ret
  k_dflt first | k_extra "mine enter" | k_extra "mine enterC"
  k_steps
  all_goals (
    k_extra "mine flat"
    refine' ret _ _ _ _ ?eF ?eN ⟨_, rfl, ?gp, ?gab⟩
    case eF => k_asm
    case eN => k_asm
    case gp => k_extra "mine pre"
    case gab => k_extra "mine above")
end Mine
end
section
open PySem PySem.W PyProof.Rows PySem.Spec PySem.Calls
set_option maxHeartbeats 2000000
namespace Mine
theorem m_lit (prog : Program) (w : World) (imm : Led) (nd : Addr) (o : Obj) (T1 T2 : Array Value) (j' : Int) (u' R U n0 n1 n2 : Nat) (nl rl row rd pl pa f fa cd fr : Addr) (item : Str) (ti t1 t2 t3 : Tok) (oc : Value) (od : Option Addr) (fd : FuncData) (sl : Array (Option Value)) (inner again : Core)
  (hnl : (nl, listO [.str item ti] n0) ∈ imm) (hrl : (rl, listO [.ref row] n1) ∈ imm) (hrow : (row, instObj 38 rd) ∈ imm) (hrd : (rd, dictOf [at_ w "patterns" t1 (.ref pl), at_ w "body" t2 (.ref f), at_ w "can_fail" t3 (.bool false)] 3) ∈ imm) (hpl : (pl, listO [.ref pa] n2) ∈ imm)
  (hpa : PatIn w imm pa .lit) (hf : (f, (⟨oc, od, .func fd, sl⟩ : Obj)) ∈ imm) (hfn : IsFn f) (hfa : CoreIn w imm fa again)
  (S : Spec prog w f [.ref fa] R U ((nd, o) :: (1112, tabObj T1) :: (1041, tabObj T2) :: imm) (ToldPost prog w nd j' u' inner imm)) :
  Spec prog w 1259 [.ref nl, .ref rl, .ref fa, .ref cd, .ref fr] (R + 20) (U + 300) ((nd, o) :: (1112, tabObj T1) :: (1041, tabObj T2) :: imm) (ToldPost prog w nd j' u' (stepCore .lit item inner again) imm) := by
  have tg0 : True := True.intro; have tg11 : True := True.intro; have tg12 : True := True.intro; have tg30 : True := True.intro; have tg4 : True := True.intro; have tg40 : True := True.intro; have tg41 : True := True.intro; have tg42 : True := True.intro; have tg43 : True := True.intro
  intro p loose mean mg mb dp un gd cn cs ca ccd cl outer A₀ base h₀ L m s Q E B F X N T hk hd hu ret
  cases hpa with | lit m1 =>
  cases m1 with | mk q1 q2 =>
  k_dflt first | k_extra "mine enter" | k_extra "mine enterC"
  k_steps
  all_goals (
    k_extra "mine flat"
    refine' ret _ _ _ _ ?eF ?eN (Mine.ex7 _ _ _ _ _ _ _ ⟨rfl, rfl, ?gp, ?goff, ?gd, ?gnum, ?gt1, ?gt2, ?gcore⟩)
    case eF => k_asm
    case eN =>
      refine' Mine.news_M3 (p := (nd, _)) (q := (1112, _)) (v := (1041, _)) ?n1 ?n2 ?n3 ?n4
      case n1 => k_asm
      case n2 => k_extra "mine drop"
      case n3 => k_extra "mine drop"
      case n4 => k_extra "mine drop"
    case gp => k_extra "mine pre"
    case goff => k_extra "mine offM"
    case gd => k_asm
    case gnum => k_asm
    case gt1 =>
      refine' Mine.TabSt.mono ?sb ?tt
      case tt => with_reducible assumption
      case sb => k_extra "mine sub"
    case gt2 =>
      refine' Mine.TabSt.mono ?sb ?tt
      case tt => with_reducible assumption
      case sb => k_extra "mine sub"
    case gcore => exact .cLit (by k_mem) (by k_mem) (by k_mem) (by k_mem) (by k_mem) (by k_mem) (by k_mem) (.var (by k_mem) (by k_mem)) (by k_extra "mine corem") (by k_extra "mine corem"))
end Mine
end
section
open PySem PySem.W PyProof.Rows PySem.Spec PySem.Calls
namespace Mine
theorem results_cons {wanted : List Str} {rs : List Row} {p : Pat} {kn : Kn} {it : It} {l : List It} {ks : List Int} : results wanted rs p kn (it :: l) ++ ks = results wanted rs p kn [it] ++ (results wanted rs p kn l ++ ks) := by
  simp [results]
theorem loops_draw {wanted : List Str} {rs : List Row} {p : Pat} {kn : Kn} {its : List It} : loops wanted (.draw p its :: rs) kn = results wanted rs p kn its := rfl
theorem comp_ok (wanted : List Str) (hw : wanted.length ≤ 3) : ∀ (rs : List Row) (j : Nat) (rest : Core) (vars : List Nm) (ρ : Env) (dom : List Str) (kn : Kn) (ks : List Int) (n D : Nat),
    WF wanted rs dom → Knows D dom kn ρ → (∀ x ∈ dom, x ∈ goods) → VarsOf j vars → j + rs.length ≤ 3 → ρ.len + 12 * rs.length ≤ 100 → 3 ≤ D → D + 4 * rs.length ≤ 24 → RestOK n rest vars ρ ks →
    Stream (n + cost rs) (comp wanted rs (j : Nat) rest) ρ (loops wanted rs kn ++ ks)
  | [], j, rest, vars, ρ, dom, kn, ks, n, D, hwf, hk, hg, hv, hj, hl, hD, hD2, hr => by
    have e := ev_num hk wanted (.lit 0) (D + 1) 0 hwf (Nat.le_refl _) (ev_lit (by omega))
    have hr' := hr ρ (fun _ _ => rfl) (by omega)
    simp only [Int.add_zero] at e
    simp only [List.length_nil, Nat.mul_zero] at hD2
    exact .cons (ev_con2 (by simp only [cost]; omega)) (e.mono (by simp only [cost]; omega)) (hr'.mono (by omega))
  | .bnd x ns k :: rs, j, rest, vars, ρ, dom, kn, ks, n, D, hwf, hk, hg, hv, hj, hl, hD, hD2, hr => by
    obtain ⟨hx, hns, hl2, hwf⟩ := hwf
    simp only [List.length_cons] at hj hl hD2
    have sm : Small ρ := by simp only [Small]; omega
    have e := ev_num hk ns (.lit k) (D + 1) k hns (Nat.le_refl _) (ev_lit (by omega))
    have hvx := vars_good hv (by omega) (.inl hx)
    have hk' : Knows (D + 4) (x :: dom) ((x, sumN kn ns + k) :: kn) (.bind x (numCore ns (.lit k)) ρ ρ) :=
      (hk.le (by omega)).add (fun y _ hy => look_bind_ne hy) look_bind (e.mono (by omega))
    have := comp_ok wanted hw rs j rest vars (.bind x (numCore ns (.lit k)) ρ ρ) (x :: dom) ((x, sumN kn ns + k) :: kn) ks n (D + 4) hwf hk' (fun y hy => by
      rcases List.mem_cons.mp hy with rfl | hy
      · exact hx
      · exact hg y hy) hv (by omega) (by simp only [Env.len]; omega) (by omega) (by omega) (hr.move fun v hv => look_bind_ne (hvx v hv))
    exact this.step (by simp only [cost]; omega) fun v h => (Ev.letn sm h).mono (by simp only [cost]; omega)
  | .cond ns k :: rs, j, rest, vars, ρ, dom, kn, ks, n, D, hwf, hk, hg, hv, hj, hl, hD, hD2, hr => by
    obtain ⟨hns, hl2, hwf⟩ := hwf
    simp only [List.length_cons] at hj hl hD2
    have sm : Small ρ := by simp only [Small]; omega
    have e := ev_num hk ns (.lit 0) (D + 1) 0 hns (Nat.le_refl _) (ev_lit (by omega))
    have hr' := hr ρ (fun _ _ => rfl) (by omega)
    simp only [Int.add_zero] at e
    have elt : ∀ m, 28 ≤ m → Ev m (.lt (numCore ns (.lit 0)) (.lit k)) ρ (.con0 (if sumN kn ns < k then "Prelude.True" else "Prelude.False")) := fun m hm =>
      (Ev.lt e (ev_lit (by omega))).mono (by omega)
    by_cases h : sumN kn ns < k
    · have := comp_ok wanted hw rs j rest vars ρ dom kn ks n D hwf hk hg hv (by omega) (by omega) (by omega) (by omega) hr
      simp only [loops, if_pos h]
      refine this.step (by simp only [cost]; omega) fun v hh => ((Ev.cTrueT (n := n + cost rs + 28) sm ?_ (hh.mono (by omega))).mono (by simp only [cost]; omega))
      have := elt (n + cost rs + 28) (by omega)
      rwa [if_pos h] at this
    · simp only [loops, if_neg h, List.nil_append]
      refine hr'.step (by simp only [cost]; omega) fun v hh => ((Ev.cTrueF (n := n + cost rs + 28) sm ?_ (hh.mono (by omega))).mono (by simp only [cost]; omega))
      have := elt (n + cost rs + 28) (by omega)
      rwa [if_neg h] at this
  | .draw p its :: rs, j, rest, vars, ρ, dom, kn, ks, n, D, hwf, hk, hg, hv, hj, hl, hD, hD2, hr => by
    obtain ⟨hfit, hp, hwf⟩ := hwf
    simp only [List.length_cons] at hj hl hD2
    have ej : ((j : Nat) : Int) + 1 = ((j + 1 : Nat) : Int) := by omega
    simp only [comp, ej]
    generalize hL : nameOf "loop" ((j + 1 : Nat) : Int) = L
    generalize hI : nameOf "items" ((j + 1 : Nat) : Int) = I
    generalize hH : nameOf "item" ((j + 1 : Nat) : Int) = H
    generalize hM : nameOf "more" ((j + 1 : Nat) : Int) = M
    have hIL : L ≠ I := by rw [← hI, ← hL]; exact nm_ne (by decide) (by decide) (by omega) (by omega) (.inl (by decide))
    have hHL : L ≠ H := by rw [← hH, ← hL]; exact nm_ne (by decide) (by decide) (by omega) (by omega) (.inl (by decide))
    have hML : L ≠ M := by rw [← hM, ← hL]; exact nm_ne (by decide) (by decide) (by omega) (by omega) (.inl (by decide))
    have hMI : I ≠ M := by rw [← hM, ← hI]; exact nm_ne (by decide) (by decide) (by omega) (by omega) (.inl (by decide))
    have hMH : H ≠ M := by rw [← hM, ← hH]; exact nm_ne (by decide) (by decide) (by omega) (by omega) (.inl (by decide))
    have vL : ∀ v ∈ vars, v ≠ L := by rw [← hL]; exact vars_ne hv (by decide) (by omega) (by omega)
    have vI : ∀ v ∈ vars, v ≠ I := by rw [← hI]; exact vars_ne hv (by decide) (by omega) (by omega)
    have gne : ∀ b ∈ bases, ∀ x ∈ goods, x ≠ nameOf b ((j + 1 : Nat) : Int) := fun b hb x hx => goods_ne x hx b hb ⟨j + 1, by omega⟩
    have qne : ∀ b ∈ bases, nameOf b ((j + 1 : Nat) : Int) ≠ "q" ∧ nameOf b ((j + 1 : Nat) : Int) ≠ "w" := fun b hb => names_qw b hb ⟨j + 1, by omega⟩
    have gL : ∀ x ∈ goods, x ≠ L := by rw [← hL]; exact gne _ (by decide)
    have gI : ∀ x ∈ goods, x ≠ I := by rw [← hI]; exact gne _ (by decide)
    have gH : ∀ x ∈ goods, x ≠ H := by rw [← hH]; exact gne _ (by decide)
    have gM : ∀ x ∈ goods, x ≠ M := by rw [← hM]; exact gne _ (by decide)
    have qL : L ≠ "q" ∧ L ≠ "w" := by rw [← hL]; exact qne _ (by decide)
    have qM : M ≠ "q" ∧ M ≠ "w" := by rw [← hM]; exact qne _ (by decide)
    have qH : H ≠ "q" ∧ H ≠ "w" := by rw [← hH]; exact qne _ (by decide)
    have aL : ∀ x, (x ∈ goods ∨ x = "q" ∨ x = "w") → L ≠ x := fun x h => by
      rcases h with h | rfl | rfl
      · exact (gL x h).symm
      · exact qL.1
      · exact qL.2
    have aM : ∀ x, (x ∈ goods ∨ x = "q" ∨ x = "w") → M ≠ x := fun x h => by
      rcases h with h | rfl | rfl
      · exact (gM x h).symm
      · exact qM.1
      · exact qM.2
    generalize hag : Core.app (.var L) (.var M) = again
    generalize hin : comp wanted rs ((j + 1 : Nat) : Int) again = inner
    generalize hbody : Core.cList (.var I) rest H M (stepCore p H inner again) = body
    have key : ∀ (l : List It), (∀ it ∈ l, fits p it) → ∀ (arg : Core) (ρa : Env) (v : Val), Ev 3 arg ρa v → LV l v →
        Stream (n + (8 + l.length * (12 + cost rs))) body (.bind I arg ρa (.recb L (.lam I body) ρ)) (results wanted rs p kn l ++ ks) := by
      intro l
      induction l with
      | nil =>
        intro _ arg ρa v hv' hlv
        cases hlv
        have hr' := (hr.move (ρ' := .bind I arg ρa (.recb L (.lam I body) ρ)) (fun x hx => by rw [look_bind_ne (vI x hx), look_rec_ne (vL x hx)])) _ (fun _ _ => rfl) (by simp only [Env.len]; omega)
        have sm : Small (.bind I arg ρa (.recb L (.lam I body) ρ)) := by simp only [Small, Env.len]; omega
        have ev : Ev (n + 4) (.var I) (.bind I arg ρa (.recb L (.lam I body) ρ)) (.con0 "[]") := (Ev.var look_bind hv').mono (by omega)
        rw [show results wanted rs p kn [] ++ ks = ks from rfl, ← hbody]
        rw [← hbody] at hr' sm ev
        exact hr'.step (by omega) fun v h => (Ev.cNil sm ev (h.mono (by omega))).mono (by simp only [List.length_nil]; omega)
      | cons it l ih =>
        intro hf arg ρa v hv' hlv
        obtain ⟨ρr, rfl⟩ := hlv
        have ih := ih (fun i hi => hf i (.tail _ hi))
        have sm : Small (.bind I arg ρa (.recb L (.lam I body) ρ)) := by simp only [Small, Env.len]; omega
        have smr : Small (.recb L (.lam I body) ρ) := by simp only [Small, Env.len]; omega
        generalize hρ2 : Env.bind M (itemsCore l (.con0 "[]")) ρr (.bind H it.core ρr (.bind I arg ρa (.recb L (.lam I body) ρ))) = ρ2
        have len2 : ρ2.len = ρ.len + 4 := by rw [← hρ2]; simp only [Env.len]
        have lkL : ρ2.look L = some (.lam I body, .recb L (.lam I body) ρ) := by rw [← hρ2, look_bind_ne hML, look_bind_ne hHL, look_bind_ne hIL, look_rec]
        have lkM : ρ2.look M = some (itemsCore l (.con0 "[]"), ρr) := by rw [← hρ2, look_bind]
        have lkH : ρ2.look H = some (it.core, ρr) := by rw [← hρ2, look_bind_ne hMH, look_bind]
        have kn2 : Knows D dom kn ρ2 := hk.move fun x hx => by
          have := hg x hx
          rw [← hρ2, look_bind_ne (gM x this), look_bind_ne (gH x this), look_bind_ne (gI x this), look_rec_ne (gL x this)]
        obtain ⟨vt, evt, lvt⟩ := lv_items l ρr
        have hagain : ∀ ρ3 : Env, ρ3.look L = ρ2.look L → ρ3.look M = ρ2.look M → Stream (n + (8 + l.length * (12 + cost rs)) + 1) again ρ3 (results wanted rs p kn l ++ ks) := by
          intro ρ3 e1 e2
          rw [lkL] at e1
          rw [lkM] at e2
          have := ih (.var M) ρ3 vt ((Ev.var e2 evt).mono (by omega)) lvt
          rw [← hag]
          exact this.step (by omega) fun v h => Ev.app smr ((Ev.var e1 (.lam (n := 0))).mono (by omega)) h
        have st := step_ok (wanted := wanted) (rs := rs) (inner := inner) (again := again) (ks := results wanted rs p kn l ++ ks) (m := n + (8 + l.length * (12 + cost rs)) + 1 + cost rs) (L := L) (M := M)
          (hf it (.head _)) hp lkH kn2 hD (by omega) (by omega) hg qH gH aL aM
          (fun ρ3 t ht hl3 e1 e2 hk3 => by
            rw [← hin]
            refine comp_ok wanted hw rs (j + 1) again [L, M] ρ3 (p.names ++ dom) (t ++ kn) (results wanted rs p kn l ++ ks) (n + (8 + l.length * (12 + cost rs)) + 1) D hwf hk3 (fun x hx => ?_) (fun x hx => ?_) (by omega) (by omega) hD (by omega) (fun ρ4 e _ => ?_)
            · rcases List.mem_append.mp hx with h | h
              · exact hp x h
              · exact hg x h
            · simp only [List.mem_cons, List.mem_nil_iff, or_false] at hx
              rcases hx with rfl | rfl
              · exact ⟨j + 1, Nat.le_refl _, .inl hL.symm⟩
              · exact ⟨j + 1, Nat.le_refl _, .inr hM.symm⟩
            · exact hagain ρ4 ((e L (.head _)).trans e1) ((e M (.tail _ (.head _))).trans e2))
          (fun ρ3 _ e1 e2 => (hagain ρ3 e1 e2).mono (by omega))
        rw [results_cons]
        have ev : Ev (n + (8 + l.length * (12 + cost rs)) + 1 + cost rs + 6) (.var I) (.bind I arg ρa (.recb L (.lam I body) ρ)) (.con2 ":" it.core (itemsCore l (.con0 "[]")) ρr) := (Ev.var look_bind hv').mono (by omega)
        have e3 : 8 + (it :: l).length * (12 + cost rs) = 8 + l.length * (12 + cost rs) + (12 + cost rs) := by
          rw [List.length_cons, Nat.add_mul, Nat.one_mul]; omega
        rw [e3]
        subst hρ2
        rw [← hbody] at ev sm st ⊢
        exact st.step (by omega) fun v h => (Ev.cCons sm ev h).mono (by omega)
    obtain ⟨v0, ev0, lv0⟩ := lv_items its (.recb L (.lam I body) ρ)
    have := key its hfit (itemsCore its (.con0 "[]")) (.recb L (.lam I body) ρ) v0 (ev0.mono (by omega)) lv0
    have sm : Small ρ := by simp only [Small]; omega
    have smr : Small (.recb L (.lam I body) ρ) := by simp only [Small, Env.len]; omega
    rw [loops_draw]
    exact this.step (by simp only [cost]; omega) fun v h => ((Ev.letr sm (Ev.app smr ((Ev.var look_rec (.lam (n := 0))).mono (by omega)) h)).mono (by simp only [cost]; omega))
end Mine
end
section
open PySem PySem.W PyProof.Rows PySem.Spec PySem.Calls
set_option maxHeartbeats 2000000
namespace Mine
theorem m_pairN (prog : Program) (w : World) (x : Str) (imm : Led) (nd : Addr) (o : Obj) (T1 T2 : Array Value) (j' : Int) (u' R U n0 n1 n2 : Nat) (nl rl row rd pl pa f fa cd fr : Addr) (item : Str) (ti t1 t2 t3 : Tok) (oc : Value) (od : Option Addr) (fd : FuncData) (sl : Array (Option Value)) (inner again : Core)
  (hnl : (nl, listO [.str item ti] n0) ∈ imm) (hrl : (rl, listO [.ref row] n1) ∈ imm) (hrow : (row, instObj 38 rd) ∈ imm) (hrd : (rd, dictOf [at_ w "patterns" t1 (.ref pl), at_ w "body" t2 (.ref f), at_ w "can_fail" t3 (.bool false)] 3) ∈ imm) (hpl : (pl, listO [.ref pa] n2) ∈ imm)
  (hpa : PatIn w imm pa (.pairN x)) (hf : (f, (⟨oc, od, .func fd, sl⟩ : Obj)) ∈ imm) (hfn : IsFn f) (hfa : CoreIn w imm fa again)
  (S : Spec prog w f [.ref fa] R U ((nd, o) :: (1112, tabObj T1) :: (1041, tabObj T2) :: imm) (ToldPost prog w nd j' u' inner imm)) :
  Spec prog w 1259 [.ref nl, .ref rl, .ref fa, .ref cd, .ref fr] (R + 20) (U + 300) ((nd, o) :: (1112, tabObj T1) :: (1041, tabObj T2) :: imm) (ToldPost prog w nd j' u' (stepCore (.pairN x) item inner again) imm) := by
  have tg0 : True := True.intro; have tg11 : True := True.intro; have tg12 : True := True.intro; have tg30 : True := True.intro; have tg4 : True := True.intro; have tg40 : True := True.intro; have tg41 : True := True.intro; have tg42 : True := True.intro; have tg43 : True := True.intro
  intro p loose mean mg mb dp un gd cn cs ca ccd cl outer A₀ base h₀ L m s Q E B F X N T hk hd hu ret
  cases hpa with | pairN m1 m2 m3 m4 m5 =>
  cases m4 with | mk q1 q2 =>
  cases m5 with | mk q3 q4 =>
  k_dflt first | k_extra "mine enter" | k_extra "mine enterC"
  k_steps
  all_goals (
    k_extra "mine flat"
    refine' ret _ _ _ _ ?eF ?eN (Mine.ex7 _ _ _ _ _ _ _ ⟨rfl, rfl, ?gp, ?goff, ?gd, ?gnum, ?gt1, ?gt2, ?gcore⟩)
    case eF => k_asm
    case eN =>
      refine' Mine.news_M3 (p := (nd, _)) (q := (1112, _)) (v := (1041, _)) ?n1 ?n2 ?n3 ?n4
      case n1 => k_asm
      case n2 => k_extra "mine drop"
      case n3 => k_extra "mine drop"
      case n4 => k_extra "mine drop"
    case gp => k_extra "mine pre"
    case goff => k_extra "mine offM"
    case gd => k_asm
    case gnum => k_asm
    case gt1 =>
      refine' Mine.TabSt.mono ?sb ?tt
      case tt => with_reducible assumption
      case sb => k_extra "mine sub"
    case gt2 =>
      refine' Mine.TabSt.mono ?sb ?tt
      case tt => with_reducible assumption
      case sb => k_extra "mine sub"
    case gcore => exact .cPair (by k_mem) (by k_mem) (by k_mem) (by k_mem) (by k_mem) (by k_mem) (by k_mem) (.var (by k_mem) (by k_mem)) (by k_extra "mine corem") (by k_extra "mine corem"))
end Mine
end
section
open PySem PySem.W PyProof.Rows PySem.Spec PySem.Calls
set_option maxHeartbeats 2000000
namespace Mine
theorem told_end (prog : Program) (w : World) (wanted : List Str) (j : Int) (rest : Core) : ToldSpec prog w wanted [] j rest := by
  have tg10 : True := True.intro; have tg30 : True := True.intro; have tg4 : True := True.intro; have tg40 : True := True.intro; have tg41 : True := True.intro
  intro imm nd o kvs T1 T2 u mk ex st ra sv svs pre ns at' t off hnd hdo hns hu25 hj10 hT1 hT2 hmk hex hst hsv hat hss hpl hra
  subst hsv
  subst hat
  cases hss
  intro p loose mean mg mb dp un gd cn cs ca ccd cl outer A₀ base h₀ L m s Q E B F X N T hk hd hu ret
  cases hex with | mk e1 e2 e3 =>
  cases hmk with | mk k1 k2 k3 k4 k5 k6 =>
  k_dflt first | k_extra "mine enter" | k_extra "mine enterC"
  k_steps
  all_goals (
    k_extra "mine flat"
    refine' ret _ _ _ _ ?eF ?eN (Mine.ex7 _ _ _ _ _ _ _ ⟨rfl, rfl, ?gp, ?goff, ?gd, ?gnum, ?gt1, ?gt2, ?gcore⟩)
    case eF => k_asm
    case eN =>
      refine' Mine.news_M3 (p := (nd, _)) (q := (1112, _)) (v := (1041, _)) ?n1 ?n2 ?n3 ?n4
      case n1 => k_asm
      case n2 => k_extra "mine drop"
      case n3 => k_extra "mine drop"
      case n4 => k_extra "mine drop"
    case gp => k_extra "mine pre"
    case goff => k_extra "mine offM"
    case gd => k_asm
    case gnum => simpa [draws] using hns
    case gt1 =>
      refine' Mine.TabSt.mono ?sb ?tt
      case tt => with_reducible assumption
      case sb => k_extra "mine sub"
    case gt2 =>
      refine' Mine.TabSt.mono ?sb ?tt
      case tt => with_reducible assumption
      case sb => k_extra "mine sub"
    case gcore => exact .con2 (by k_mem) (by k_mem) (by k_mem) (by k_extra "mine core") (by k_extra "mine core"))
end Mine
end
section
open PySem PySem.W PyProof.Rows PySem.Spec PySem.Calls
set_option maxHeartbeats 2000000
namespace Mine
theorem bp_ok (prog : Program) (w : World) (imm imm0 : Led) (sub0 : ∀ q ∈ imm0, q ∈ imm) (T2 : Array Value) (nd mk fb : Addr) (x : Str) (ns : List Str) (k : Int) (off : ∀ q ∈ imm, q.1 ≠ 1041) (hT2 : TabR T2 imm0) (hmk : MakerIn w prog imm nd mk) (hfb : FBIn w imm fb x ns k) :
  Spec prog w 1070 [.ref mk, .ref fb] 40 400 ((1041, tabObj T2) :: imm) (fun v news' => ∃ l r tl T2' t tx c n1 n2, v = .ref l ∧ news' = (1041, tabObj T2') :: r ∧ Pre r tl imm ∧ Above tl imm ∧ (∀ q ∈ r, q.1 ≠ 1041) ∧ TabR T2' (tl ++ imm0) ∧ (l, listO [.ref t] n1) ∈ tl ∧ (t, tupO [.str x tx, .ref c] n2) ∈ tl ∧ CoreIn w tl c (numCore ns (.lit k))) := by
  have tg0 : True := True.intro; have tg10 : True := True.intro; have tg11 : True := True.intro; have tg30 : True := True.intro; have tg34 : True := True.intro; have tg4 : True := True.intro; have tg40 : True := True.intro
  intro p loose mean mg mb dp un gd cn cs ca ccd cl outer A₀ base h₀ L m s Q E B F X N T hk hd hu ret
  have off0 : ∀ q ∈ imm0, q.1 ≠ 1041 := fun q hq => off q (sub0 q hq)
  cases hfb with | mk s7 s8 s9 s10 s11 s12 s13 s14 s15 s16 s17 s18 s19 s20 s21 =>
  cases s21 with | mk e1 e2 e3 =>
  have hmk' := hmk
  cases hmk with | mk k1 k2 k3 k4 k5 k6 =>
  k_dflt first | k_extra "mine enter" | k_extra "mine enterC"
  k_steps
  all_goals (
    k_extra "mine flat"
    refine' ret _ _ _ _ ?eF ?eN (Mine.ex9 _ _ _ _ _ _ _ _ _ ⟨rfl, rfl, ?gp, ?gab, ?goff, ?gt, ?f0, ?f1, ?f2⟩)
    case eF => k_asm
    case eN =>
      refine' Mine.news_M1 (p := (1041, _)) ?n1 ?n2
      case n1 => k_asm
      case n2 => k_extra "mine drop"
    case gp => k_extra "mine pre"
    case gab => k_extra "mine above"
    case goff => k_extra "mine off"
    case gt =>
      refine' Mine.TabSt.mono ?sb ?tt
      case tt => k_asm
      case sb => k_extra "mine subs"
    case f0 => k_mem
    case f1 => k_mem
    case f2 => k_extra "mine core")
end Mine
end
section
open PySem PySem.W PyProof.Rows PySem.Spec PySem.Calls
set_option maxHeartbeats 2000000
namespace Mine
theorem told_say (prog : Program) (w : World) (wanted ns : List Str) (k : Int) (rs : List Row) (j : Int) (rest : Core) (ih : ∀ j rest, ToldSpec prog w wanted rs j rest) : ToldSpec prog w wanted (.cond ns k :: rs) j rest := by
  have tg13 : True := True.intro; have tg14 : True := True.intro; have tg30 : True := True.intro; have tg4 : True := True.intro; have tg40 : True := True.intro; have tg41 : True := True.intro
  intro imm nd o kvs T1 T2 u mk ex st ra sv svs pre ns at' t off hnd hdo hns hu25 hj10 hT1 hT2 hmk hex hst hsv hat hss hpl hra
  subst hsv
  subst hat
  cases hss with | cons hst1 hss =>
  have hlen := hss.len
  simp only [List.length_cons] at hu25 hj10 hpl
  cases hst1 with | cond s1 s2 s3 =>
  cases s3 with | mk e1 e2 e3 =>
  intro p loose mean mg mb dp un gd cn cs ca ccd cl outer A₀ base h₀ L m s Q E B F X N T hk hd hu ret
  simp only [List.length_cons] at hd hu
  have hmk' := hmk
  cases hmk with | mk k1 k2 k3 k4 k5 k6 =>
  have hfr := k6
  cases k6 with | mk f1 f2 f3 f4 f5 f6 =>
  k_dflt first | k_extra "mine enter" | k_extra "mine enterC"
  k_steps
  all_goals (
    k_extra "mine flat"
    refine' ret _ _ _ _ ?eF ?eN (Mine.ex7 _ _ _ _ _ _ _ ⟨rfl, rfl, ?gp, ?goff, ?gd, ?gnum, ?gt1, ?gt2, ?gcore⟩)
    case eF => k_asm
    case eN =>
      refine' Mine.news_M3 (p := (nd, _)) (q := (1112, _)) (v := (1041, _)) ?n1 ?n2 ?n3 ?n4
      case n1 => k_asm
      case n2 => k_extra "mine drop"
      case n3 => k_extra "mine drop"
      case n4 => k_extra "mine drop"
    case gp => k_extra "mine pre"
    case goff => k_extra "mine offM"
    case gd => k_asm
    case gnum => exact NumSt.le (by k_asm) (by simp only [List.length_cons]; omega)
    case gt1 =>
      refine' Mine.TabSt.mono ?sb ?tt
      case tt => with_reducible assumption
      case sb => k_extra "mine sub"
    case gt2 =>
      refine' Mine.TabSt.mono ?sb ?tt
      case tt => with_reducible assumption
      case sb => k_extra "mine sub"
    case gcore => exact .cTrue (by k_mem) (by k_mem) (by k_mem) (by k_mem) (by k_mem) (by k_mem) (by k_mem) (by k_extra "mine core") (by k_extra "mine core") (by k_extra "mine core"))
end Mine
end
section
open PySem PySem.W PyProof.Rows PySem.Spec PySem.Calls
set_option maxHeartbeats 2000000
namespace Mine
theorem m_pairL (prog : Program) (w : World) (x : Str) (imm : Led) (nd : Addr) (o : Obj) (T1 T2 : Array Value) (j' : Int) (u' R U n0 n1 n2 : Nat) (nl rl row rd pl pa f fa cd fr : Addr) (item : Str) (ti t1 t2 t3 : Tok) (oc : Value) (od : Option Addr) (fd : FuncData) (sl : Array (Option Value)) (inner again : Core)
  (hnl : (nl, listO [.str item ti] n0) ∈ imm) (hrl : (rl, listO [.ref row] n1) ∈ imm) (hrow : (row, instObj 38 rd) ∈ imm) (hrd : (rd, dictOf [at_ w "patterns" t1 (.ref pl), at_ w "body" t2 (.ref f), at_ w "can_fail" t3 (.bool false)] 3) ∈ imm) (hpl : (pl, listO [.ref pa] n2) ∈ imm)
  (hpa : PatIn w imm pa (.pairL x)) (hf : (f, (⟨oc, od, .func fd, sl⟩ : Obj)) ∈ imm) (hfn : IsFn f) (hfa : CoreIn w imm fa again)
  (S : Spec prog w f [.ref fa] R U ((nd, o) :: (1112, tabObj T1) :: (1041, tabObj T2) :: imm) (ToldPost prog w nd j' u' inner imm)) :
  Spec prog w 1259 [.ref nl, .ref rl, .ref fa, .ref cd, .ref fr] (R + 20) (U + 300) ((nd, o) :: (1112, tabObj T1) :: (1041, tabObj T2) :: imm) (ToldPost prog w nd j' u' (stepCore (.pairL x) item inner again) imm) := by
  have tg0 : True := True.intro; have tg11 : True := True.intro; have tg12 : True := True.intro; have tg30 : True := True.intro; have tg4 : True := True.intro; have tg40 : True := True.intro; have tg41 : True := True.intro; have tg42 : True := True.intro; have tg43 : True := True.intro
  intro p loose mean mg mb dp un gd cn cs ca ccd cl outer A₀ base h₀ L m s Q E B F X N T hk hd hu ret
  cases hpa with | pairL m1 m2 m3 m4 m5 =>
  cases m4 with | mk q1 q2 =>
  cases m5 with | mk q3 q4 =>
  k_dflt first | k_extra "mine enter" | k_extra "mine enterC"
  k_steps
  all_goals (
    k_extra "mine flat"
    refine' ret _ _ _ _ ?eF ?eN (Mine.ex7 _ _ _ _ _ _ _ ⟨rfl, rfl, ?gp, ?goff, ?gd, ?gnum, ?gt1, ?gt2, ?gcore⟩)
    case eF => k_asm
    case eN =>
      refine' Mine.news_M3 (p := (nd, _)) (q := (1112, _)) (v := (1041, _)) ?n1 ?n2 ?n3 ?n4
      case n1 => k_asm
      case n2 => k_extra "mine drop"
      case n3 => k_extra "mine drop"
      case n4 => k_extra "mine drop"
    case gp => k_extra "mine pre"
    case goff => k_extra "mine offM"
    case gd => k_asm
    case gnum => k_asm
    case gt1 =>
      refine' Mine.TabSt.mono ?sb ?tt
      case tt => with_reducible assumption
      case sb => k_extra "mine sub"
    case gt2 =>
      refine' Mine.TabSt.mono ?sb ?tt
      case tt => with_reducible assumption
      case sb => k_extra "mine sub"
    case gcore => exact .cPair (by k_mem) (by k_mem) (by k_mem) (by k_mem) (by k_mem) (by k_mem) (by k_mem) (.var (by k_mem) (by k_mem)) (.cLit (by k_mem) (by k_mem) (by k_mem) (by k_mem) (by k_mem) (by k_mem) (by k_mem) (.var (by k_mem) (by k_mem)) (by k_extra "mine corem") (by k_extra "mine corem")) (by k_extra "mine corem"))
end Mine
end
section
open PySem PySem.W PyProof.Rows PySem.Spec PySem.Calls
namespace Mine
theorem matched_ok (prog : Program) (w : World) (p : Pat) (imm : Led) (nd : Addr) (o : Obj) (T1 T2 : Array Value) (j' : Int) (u' R U n0 n1 n2 : Nat) (nl rl row rd pl pa f fa cd fr : Addr) (item : Str) (ti t1 t2 t3 : Tok) (oc : Value) (od : Option Addr) (fd : FuncData) (sl : Array (Option Value)) (inner again : Core)
  (hnl : (nl, listO [.str item ti] n0) ∈ imm) (hrl : (rl, listO [.ref row] n1) ∈ imm) (hrow : (row, instObj 38 rd) ∈ imm) (hrd : (rd, dictOf [at_ w "patterns" t1 (.ref pl), at_ w "body" t2 (.ref f), at_ w "can_fail" t3 (.bool false)] 3) ∈ imm) (hpl : (pl, listO [.ref pa] n2) ∈ imm)
  (hpa : PatIn w imm pa p) (hf : (f, (⟨oc, od, .func fd, sl⟩ : Obj)) ∈ imm) (hfn : IsFn f) (hfa : CoreIn w imm fa again)
  (S : Spec prog w f [.ref fa] R U ((nd, o) :: (1112, tabObj T1) :: (1041, tabObj T2) :: imm) (ToldPost prog w nd j' u' inner imm)) :
  Spec prog w 1259 [.ref nl, .ref rl, .ref fa, .ref cd, .ref fr] (R + 20) (U + 300) ((nd, o) :: (1112, tabObj T1) :: (1041, tabObj T2) :: imm) (ToldPost prog w nd j' u' (stepCore p item inner again) imm) := by
  cases p with
  | any => exact m_any prog w imm nd o T1 T2 j' u' R U n0 n1 n2 nl rl row rd pl pa f fa cd fr item ti t1 t2 t3 oc od fd sl inner again hnl hrl hrow hrd hpl hpa hf hfn hfa S
  | var x => exact m_var prog w x imm nd o T1 T2 j' u' R U n0 n1 n2 nl rl row rd pl pa f fa cd fr item ti t1 t2 t3 oc od fd sl inner again hnl hrl hrow hrd hpl hpa hf hfn hfa S
  | lit => exact m_lit prog w imm nd o T1 T2 j' u' R U n0 n1 n2 nl rl row rd pl pa f fa cd fr item ti t1 t2 t3 oc od fd sl inner again hnl hrl hrow hrd hpl hpa hf hfn hfa S
  | pairN x => exact m_pairN prog w x imm nd o T1 T2 j' u' R U n0 n1 n2 nl rl row rd pl pa f fa cd fr item ti t1 t2 t3 oc od fd sl inner again hnl hrl hrow hrd hpl hpa hf hfn hfa S
  | pairL x => exact m_pairL prog w x imm nd o T1 T2 j' u' R U n0 n1 n2 nl rl row rd pl pa f fa cd fr item ti t1 t2 t3 oc od fd sl inner again hnl hrl hrow hrd hpl hpa hf hfn hfa S
noncomputable def LamOK (prog : Program) (w : World) (wanted : List Str) (rs : List Row) (j : Int) (rest : Core) (nd f : Addr) (imm : Led) : Prop :=
  ∀ (imm' : Led) (o : Obj) (kvs : List (Str × Value)) (T1 T2 : Array Value) (u : Nat) (fall : Addr), (∀ q ∈ imm, q ∈ imm') → OffM nd imm' → o.IsDictOf (strKind prog w) kvs → NumSt kvs j u → u + 2 * rs.length ≤ 25 → TabL T1 imm' → TabR T2 imm' →
    Spec prog w f [.ref fall] (125 + 60 * rs.length) (1100 + 1200 * rs.length) ((nd, o) :: (1112, tabObj T1) :: (1041, tabObj T2) :: imm') (ToldPost prog w nd (j + draws rs) (u + 2 * rs.length) (comp wanted rs j rest) imm')
theorem lam_step {prog : Program} {w : World} {wanted : List Str} {rs : List Row} {jj : Int} {rest : Core} {nd f ra c' mk ca1 ca2 pl pa : Addr} {npl : Nat} {oc' of' oc1 oc2 : Obj} {kvs : List (Str × Value)} {u e : Nat} {h₀ h : Heap} {L : Addr} {all imm tl1 r0 r1 r2 r3 : Led} {o : Obj} {T1 T2 : Array Value} {P : Prop}
  (_ih : ∀ j rest, ToldSpec prog w wanted rs j rest) (_q : NumQ kvs jj jj jj jj u e) (_i : IsFn f) (cm : CodeAt c' oc' r0) (N : News h₀ L h all) (D1 : Drop1 (nd, o) all r1) (D2 : Drop1 (1112, tabObj T1) r1 r2) (D3 : Drop1 (1041, tabObj T2) r2 r3) (C : CoreIn w r3 ra rest) (sb : ∀ q ∈ r0, q ∈ r3)
  (hf : (f, of') ∈ r3) (hp : Pre r3 tl1 imm) (off : OffM nd r3) (t1 : TabL T1 r3) (t2 : TabR T2 r3)
  (d1 : oc1.data = .cell (some (.ref mk))) (m1 : (ca1, oc1) ∈ r3) (d2 : oc2.data = .cell (some (.ref ra))) (m2 : (ca2, oc2) ∈ r3) (m3 : (pl, listO [.ref pa] npl) ∈ r3)
  (S : CoreIn w r3 ra rest → (c', oc') ∈ r3 → LamOK prog w wanted rs jj rest nd f r3)
  (k : ∀ imm1, News h₀ L h ((nd, o) :: (1112, tabObj T1) :: (1041, tabObj T2) :: imm1) → (f, of') ∈ imm1 → Pre imm1 tl1 imm → (∀ q ∈ imm, q ∈ imm1) → OffM nd imm1 → TabL T1 imm1 → TabR T2 imm1 → (ca1, oc1) ∈ imm1 → (ca2, oc2) ∈ imm1 → (pl, listO [.ref pa] npl) ∈ imm1 → CoreIn w imm1 ra rest → LamOK prog w wanted rs jj rest nd f imm1 → P) : P :=
  k r3 (news_M3 N D1 D2 D3) hf hp (fun _ h => hp.mem h) off t1 t2 m1 m2 m3 C (S C (sb _ cm.mem))
theorem OffM.app2 {nd : Addr} {t R l l' : Led} {o2 o3 : Obj} (h : Above t R) (m2 : (1112, o2) ∈ R) (m3 : (1041, o3) ∈ R) (m1 : ∀ q ∈ t ++ l', q.1 ≠ nd) (k : OffM nd l) : OffM nd (t ++ l) := fun q hq =>
  (List.mem_append.mp hq).elim (fun e => ⟨m1 q (List.mem_append_left _ e), (h q e _ m2).symm, (h q e _ m3).symm⟩) (k q)
theorem spec_useD {prog : Program} {w : World} {f nd : Addr} {o : Obj} {args : List Value} {room units : Nat} {all r : Led} {post : Value → Led → Prop} {p : Program} {loose : List Str} {mean : ExcName → Option Value} {mg mb : Str → Option Value} {dp un : Nat} {gd : Option (List Code)} {cn : Str} {cs : Scope} {ca : Addr} {ccd : Value} {cl : List (Str × Addr)} {outer : List PySem.Env} {A₀ : Around} {base h₀ : Heap} {L : Addr} {m : Str → Option Value} {s : Shared} {Q E : Value → Shared → Prop}
    (_n : @LT.lt Nat _ 1112 nd) (B : Below A₀ base outer h₀) (F : Fr h₀ L s.heap m) (X : (Mine.H.KK w.params).In h₀) (N : News h₀ L s.heap all) (T : Top p loose mean mg mb h₀) (hk : cs.kind = .function) (D : Drop1 (nd, o) all r)
    (S : Spec prog w f args room units ((nd, o) :: r) post)
    (hd : dp + room < recursionLimit) (hu : un + units < cLine)
    (ret : ∀ v h' tk' news', Fr h₀ L h' m → News h₀ L h' news' → post v news' → Q v { s with heap := h', toks := tk' }) :
    wpAny (model prog w) (ktrTop dp un gd cn cs L ca ccd cl outer) (call (.ref f) args) Q E s :=
  spec_use0 B F X (news_M1 N D) T hk S hd hu ret
theorem ltd_all {d : Addr} {l : Led} (h : AllLt d l) : ∀ p ∈ l, @LT.lt Nat _ p.1 d := lt_all h
theorem ltd_succ {d : Addr} {l : Led} (h : ∀ p ∈ l, @LT.lt Nat _ p.1 d) : ∀ p ∈ l, @LT.lt Nat _ p.1 (@HAdd.hAdd Nat Nat Nat _ d 1) := fun p hp => Nat.lt_succ_of_lt (h p hp)
theorem ltd_ne {d : Addr} {l : Led} (h : ∀ p ∈ l, @LT.lt Nat _ p.1 d) : ∀ p ∈ l, p.1 ≠ d := fun p hp => Nat.ne_of_lt (h p hp)
section
variable {prog : Program} {w : World} {p : Program} {loose : List Str} {mean : ExcName → Option Value} {mg mb : Str → Option Value} {dp un : Nat} {gd : Option (List Code)} {cn : Str} {cs : Scope} {ca : Addr} {ccd : Value} {cl : List (Str × Addr)} {outer : List PySem.Env} {A₀ : Around} {base h₀ : Heap} {L : Addr} {m : Str → Option Value} {s : Shared} {Q E : Value → Shared → Prop}
theorem matched_use {wanted : List Str} {rs : List Row} {jj : Int} {ag : Core} {all r1 r2 imm r : Led} {nd : Addr} {o : Obj} {kvs : List (Str × Value)} {T1 T2 : Array Value} {u e : Nat} {pt : Pat} {n0 n1 n2 : Nat} {nl rl row rd pl pa f fa cd fr : Addr} {item : Str} {ti t1 t2 t3 : Tok} {oc : Value} {od : Option Addr} {fd : FuncData} {sl : Array (Option Value)}
    (B : Below A₀ base outer h₀) (F : Fr h₀ L s.heap m) (X : (Mine.H.KK w.params).In h₀) (N : News h₀ L s.heap all) (T : Top p loose mean mg mb h₀) (hk : cs.kind = .function)
    (D1 : Drop1 (nd, o) all r1) (D2 : Drop1 (1112, tabObj T1) r1 r2) (D3 : Drop1 (1041, tabObj T2) r2 imm) (hlam : LamOK prog w wanted rs jj ag nd f r) (sub : ∀ q ∈ r, q ∈ imm)
    (c1 : OffM nd imm) (c3 : o.IsDictOf (strKind prog w) kvs) (c4 : NumQ kvs jj jj jj jj u e) (he : e ≤ 6) (h0 : 0 ≤ jj) (h1 : jj ≤ 10) (c5 : u + 1 + 2 * rs.length ≤ 25) (c7 : TabL T1 imm) (c8 : TabR T2 imm)
    (hnl : (nl, listO [.str item ti] n0) ∈ imm) (hrl : (rl, listO [.ref row] n1) ∈ imm) (hrow : (row, instObj 38 rd) ∈ imm) (hrd : (rd, dictOf [at_ w "patterns" t1 (.ref pl), at_ w "body" t2 (.ref f), at_ w "can_fail" t3 (.bool false)] 3) ∈ imm) (hpl : (pl, listO [.ref pa] n2) ∈ imm)
    (hpa : PatIn w imm pa pt) (hf : (f, (⟨oc, od, .func fd, sl⟩ : Obj)) ∈ imm) (hfn : IsFn f) (hfa : CoreIn w imm fa ag)
    (hd : dp + (150 + 60 * rs.length) < recursionLimit) (hu : un + (1500 + 1200 * rs.length) < cLine)
    (ret : ∀ a tl o' kvs' T1' T2' h' tk', Fr h₀ L h' m → News h₀ L h' ((nd, o') :: (1112, tabObj T1') :: (1041, tabObj T2') :: (tl ++ imm)) → OffM nd (tl ++ imm) → o'.IsDictOf (strKind prog w) kvs' → NumSt kvs' (jj + draws rs) (u + 1 + 2 * rs.length) →
      TabL T1' (tl ++ imm) → TabR T2' (tl ++ imm) → CoreIn w (tl ++ imm) a (stepCore pt item (comp wanted rs jj ag) ag) → Q (.ref a) { s with heap := h', toks := tk' }) :
    wpAny (model prog w) (ktrTop dp un gd cn cs L ca ccd cl outer) (call (.ref 1259) [.ref nl, .ref rl, .ref fa, .ref cd, .ref fr]) Q E s := by
  refine spec_use0 B F X (news_M3 N D1 D2 D3) T hk (matched_ok prog w pt imm nd o T1 T2 _ _ _ _ n0 n1 n2 nl rl row rd pl pa f fa cd fr item ti t1 t2 t3 oc od fd sl _ ag hnl hrl hrow hrd hpl hpa hf hfn hfa
    (hlam imm o kvs T1 T2 (u + 1) fa sub c1 c3 (c4.st he h0 h1) c5 c7 c8)) (by omega) (by omega) fun v h' tk' news' F' N' P => ?_
  obtain ⟨a, r, tl, o', kvs', T1', T2', rfl, rfl, hp, q1, q2, q3, q4, q5, q6⟩ := P
  have hp := hp.eq
  subst hp
  exact ret a tl o' kvs' T1' T2' h' tk' F' N' q1 q2 q3 q4 q5 q6
end
end Mine
end
section
open PySem PySem.W PyProof.Rows PySem.Spec PySem.Calls
set_option maxHeartbeats 2000000
namespace Mine
theorem gp_ok (prog : Program) (w : World) (imm imm0 : Led) (sub0 : ∀ q ∈ imm0, q ∈ imm) (T2 : Array Value) (nd mk g fb : Addr) (n0 : Nat) (x : Str) (ns : List Str) (k : Int) (off : ∀ q ∈ imm, q.1 ≠ 1041) (hT2 : TabR T2 imm0) (hmk : MakerIn w prog imm nd mk) (mg0 : (g, listO [.ref fb] n0) ∈ imm) (hfb : FBIn w imm fb x ns k) :
  Spec prog w 1077 [.ref mk, .ref g] 50 500 ((1041, tabObj T2) :: imm) (fun v news' => ∃ l r tl T2' t tx c n1 n2, v = .ref l ∧ news' = (1041, tabObj T2') :: r ∧ Pre r tl imm ∧ Above tl imm ∧ (∀ q ∈ r, q.1 ≠ 1041) ∧ TabR T2' (tl ++ imm0) ∧ (l, listO [.ref t] n1) ∈ tl ∧ (t, tupO [.str x tx, .ref c] n2) ∈ tl ∧ CoreIn w tl c (numCore ns (.lit k))) := by
  have tg0 : True := True.intro; have tg15 : True := True.intro; have tg30 : True := True.intro; have tg4 : True := True.intro; have tg40 : True := True.intro
  intro p loose mean mg mb dp un gd cn cs ca ccd cl outer A₀ base h₀ L m s Q E B F X N T hk hd hu ret
  k_dflt first | k_extra "mine enter" | k_extra "mine enterC"
  k_steps
  all_goals (
    k_extra "mine flat"
    refine' ret _ _ _ _ ?eF ?eN (Mine.ex9 _ _ _ _ _ _ _ _ _ ⟨rfl, rfl, ?gp, ?gab, ?goff, ?gt, ?f0, ?f1, ?f2⟩)
    case eF => k_asm
    case eN =>
      refine' Mine.news_M1 (p := (1041, _)) ?n1 ?n2
      case n1 => k_asm
      case n2 => k_extra "mine drop"
    case gp => k_extra "mine pre"
    case gab => k_extra "mine above"
    case goff => k_extra "mine off"
    case gt =>
      refine' Mine.TabSt.mono ?sb ?tt
      case tt => k_asm
      case sb => k_extra "mine subs"
    case f0 => k_mem
    case f1 => k_mem
    case f2 => k_extra "mine core")
end Mine
end
section
open PySem PySem.W PyProof.Rows PySem.Spec PySem.Calls
set_option maxHeartbeats 2000000
namespace Mine
theorem lc_ok (prog : Program) (w : World) (imm imm0 : Led) (sub0 : ∀ q ∈ imm0, q ∈ imm) (nd : Addr) (o : Obj) (kvs : List (Str × Value)) (u : Nat) (j : Int) (mk ra sa : Addr) (c1 c2 : Core) (items item more : Str) (ta tb tc : Tok)
  (off : ∀ q ∈ imm, q.1 ≠ nd) (hnd : @LT.lt Nat _ 1112 nd) (hdo : o.IsDictOf (strKind prog w) kvs) (hns : NumSt kvs j u) (hu25 : u ≤ 25) (hmk : MakerIn w prog imm nd mk) (hc1 : CoreIn w imm0 ra c1) (hc2 : CoreIn w imm0 sa c2) :
  Spec prog w 1166 [.ref mk, .str items ta, .ref ra, .str item tb, .str more tc, .ref sa] 30 400 ((nd, o) :: imm)
   (fun v news' => ∃ a r tl o' kvs', v = .ref a ∧ news' = (nd, o') :: r ∧ Pre r tl imm ∧ Above tl imm ∧ (∀ q ∈ r, q.1 ≠ nd) ∧ o'.IsDictOf (strKind prog w) kvs' ∧ NumSt kvs' j (u + 1) ∧ CoreIn w (tl ++ imm0) a (.cList (.var items) c1 item more c2)) := by
  have tg0 : True := True.intro; have tg20 : True := True.intro; have tg30 : True := True.intro; have tg4 : True := True.intro; have tg40 : True := True.intro; have tg43 : True := True.intro; have tg44 : True := True.intro
  intro p loose mean mg mb dp un gd cn cs ca ccd cl outer A₀ base h₀ L m s Q E B F X N T hk hd hu ret
  have hmk' := hmk
  cases hmk with | mk k1 k2 k3 k4 k5 k6 =>
  have hfr := k6
  cases k6 with | mk f1 f2 f3 f4 f5 f6 =>
  k_dflt first | k_extra "mine enter" | k_extra "mine enterC"
  k_steps
  all_goals (
    k_extra "mine flat"
    refine' ret _ _ _ _ ?eF ?eN (Mine.ex5 _ _ _ _ _ ⟨rfl, rfl, ?gp, ?gab, ?goff, ?gd, ?gnum, ?gcore⟩)
    case eF => k_asm
    case eN =>
      refine' Mine.news_M1 (p := (nd, _)) ?n1 ?n2
      case n1 => k_asm
      case n2 => k_extra "mine drop"
    case gp => k_extra "mine pre"
    case gab => k_extra "mine above"
    case goff => k_extra "mine offnd"
    case gd => k_asm
    case gnum => k_asm
    case gcore => exact .cList (by k_mem) (by k_mem) (by k_mem) (by k_mem) (by k_mem) (by k_mem) (by k_mem) (by k_mem) (by k_mem) (by k_mem) (by k_mem) (.var (by k_mem) (by k_mem)) (by k_extra "mine corem") (by k_extra "mine corem"))
end Mine
end
section
open PySem PySem.W PyProof.Rows PySem.Spec PySem.Calls
set_option maxHeartbeats 2000000
namespace Mine
theorem bound_ok (prog : Program) (w : World) (imm imm0 : Led) (sub0 : ∀ q ∈ imm0, q ∈ imm) (T2 : Array Value) (nd mk b ra : Addr) (x : Str) (ns : List Str) (k : Int) (cb : Core) (off : ∀ q ∈ imm, q.1 ≠ 1041) (hT2 : TabR T2 imm0) (hmk : MakerIn w prog imm nd mk) (hfb : BindsIn w imm b x ns k) (hl2 : ns.length ≤ 2) (hxn : x ∉ ns) (hcb : CoreIn w imm0 ra cb) :
  Spec prog w 1096 [.ref mk, .ref b, .ref ra] 80 900 ((1041, tabObj T2) :: imm) (fun v news' => ∃ l r tl T2' , v = .ref l ∧ news' = (1041, tabObj T2') :: r ∧ Pre r tl imm ∧ Above tl imm ∧ (∀ q ∈ r, q.1 ≠ 1041) ∧ TabR T2' (tl ++ imm0) ∧ CoreIn w (tl ++ imm0) l (.letn x (numCore ns (.lit k)) cb)) := by
  have tg0 : True := True.intro; have tg16 : True := True.intro; have tg30 : True := True.intro; have tg4 : True := True.intro; have tg40 : True := True.intro; have tg43 : True := True.intro
  intro p loose mean mg mb dp un gd cn cs ca ccd cl outer A₀ base h₀ L m s Q E B F X N T hk hd hu ret
  cases hfb with | mk s1 s2 s3 s4 s5 =>
  have hnum : Numeric (numCore ns (.lit k)) := numeric_num .lit
  have hsz : (numCore ns (.lit k)).sz ≤ 20 := by rw [fv_num.2.2]; simp only [Core.sz]; omega
  have hfv : (numCore ns (.lit k)).fv.length ≤ 2 := by rw [fv_num.2.1]; simp only [Core.fv, List.length_nil]; omega
  have hxx : ∀ z ∈ (numCore ns (.lit k)).fv, z ≠ x := fun z hz e => by
    rcases fv_num.1 z hz with h | h
    · exact hxn (e ▸ h)
    · exact nomatch h
  k_dflt first | k_extra "mine enter" | k_extra "mine enterC"
  k_steps
  all_goals (
    k_extra "mine flat"
    refine' ret _ _ _ _ ?eF ?eN (Mine.ex4 _ _ _ _ ⟨rfl, rfl, ?gp, ?gab, ?goff, ?gt, ?f0⟩)
    case eF => k_asm
    case eN =>
      refine' Mine.news_M1 (p := (1041, _)) ?n1 ?n2
      case n1 => k_asm
      case n2 => k_extra "mine drop"
    case gp => k_extra "mine pre"
    case gab => k_extra "mine above"
    case goff => k_extra "mine off"
    case gt =>
      refine' Mine.TabSt.mono ?sb ?tt
      case tt => k_asm
      case sb => k_extra "mine subs"
    case f0 => exact .letn (by k_mem) (by k_mem) (by k_mem) (by k_mem) (by k_extra "mine corem") (by k_extra "mine corem"))
end Mine
end
section
open PySem PySem.W PyProof.Rows PySem.Spec PySem.Calls
set_option maxHeartbeats 2000000
namespace Mine
theorem told_let (prog : Program) (w : World) (wanted ns : List Str) (x : Str) (k : Int) (rs : List Row) (j : Int) (rest : Core) (ih : ∀ j rest, ToldSpec prog w wanted rs j rest) : ToldSpec prog w wanted (.bnd x ns k :: rs) j rest := by
  have tg0 : True := True.intro; have tg14 : True := True.intro; have tg17 : True := True.intro; have tg30 : True := True.intro; have tg4 : True := True.intro; have tg40 : True := True.intro; have tg41 : True := True.intro; have tg42 : True := True.intro; have tg43 : True := True.intro
  intro imm nd o kvs T1 T2 u mk ex st ra sv svs pre ns at' t off hnd hdo hns hu25 hj10 hT1 hT2 hmk hex hst hsv hat hss hpl hra
  subst hsv
  subst hat
  cases hss with | cons hst1 hss =>
  have hlen := hss.len
  simp only [List.length_cons] at hu25 hj10 hpl
  cases hst1 with | bnd s1 s2 s3 s4 s5 =>
  intro p loose mean mg mb dp un gd cn cs ca ccd cl outer A₀ base h₀ L m s Q E B F X N T hk hd hu ret
  simp only [List.length_cons] at hd hu
  k_dflt first | k_extra "mine enter" | k_extra "mine enterC"
  k_steps
  all_goals (
    k_extra "mine flat"
    refine' ret _ _ _ _ ?eF ?eN (Mine.ex7 _ _ _ _ _ _ _ ⟨rfl, rfl, ?gp, ?goff, ?gd, ?gnum, ?gt1, ?gt2, ?gcore⟩)
    case eF => k_asm
    case eN =>
      refine' Mine.news_M3 (p := (nd, _)) (q := (1112, _)) (v := (1041, _)) ?n1 ?n2 ?n3 ?n4
      case n1 => k_asm
      case n2 => k_extra "mine drop"
      case n3 => k_extra "mine drop"
      case n4 => k_extra "mine drop"
    case gp => k_extra "mine pre"
    case goff => k_extra "mine offM"
    case gd => k_asm
    case gnum => exact NumSt.le (by k_asm) (by simp only [List.length_cons]; omega)
    case gt1 =>
      refine' Mine.TabSt.mono ?sb ?tt
      case tt => with_reducible assumption
      case sb => k_extra "mine sub"
    case gt2 =>
      refine' Mine.TabSt.mono ?sb ?tt
      case tt => with_reducible assumption
      case sb => k_extra "mine sub"
    case gcore => k_asm)
end Mine
end
section
open PySem PySem.W PyProof.Rows PySem.Spec PySem.Calls
set_option maxHeartbeats 2000000
namespace Mine
theorem lb_ok (prog : Program) (w : World) (wanted : List Str) (rs : List Row) (ih : ∀ j rest, ToldSpec prog w wanted rs j rest) (j : Int) (p : Pat) (rest : Core) (imm : Led) (nd : Addr) (o : Obj) (kvs : List (Str × Value)) (T1 T2 : Array Value) (u : Nat) (mk ex st ra pa a0 : Addr) (svs pre : List Value) (ns : Nat) (t ta tb : Tok)
  (off : OffM nd imm) (hnd : @LT.lt Nat _ 1112 nd) (hdo : o.IsDictOf (strKind prog w) kvs) (hns : NumQ kvs (j + 1) (j + 1) j j u 2) (hj0 : 0 ≤ j) (hu25 : u + 1 + 2 * rs.length ≤ 25) (hj10 : j + 1 + rs.length ≤ 10) (hT1 : TabL T1 imm) (hT2 : TabR T2 imm) (hmk : MakerIn w prog imm nd mk) (hex : SumIn imm "sum" ex wanted 0)
  (hst : (st, listO (pre ++ .ref a0 :: svs) ns) ∈ imm) (hss : Stats w imm svs rs) (hpl : pre.length + (rs.length + 1) ≤ 10) (hra : CoreIn w imm ra rest) (hpa : PatIn w imm pa p) :
  Spec prog w 1117 [.ref mk, .ref pa, .str (nameOf "loop" (j + 1)) ta, .str (nameOf "items" (j + 1)) tb, .ref ex, .ref st, .int pre.length t, .ref ra] (160 + 60 * rs.length) (1900 + 1200 * rs.length) ((nd, o) :: (1112, tabObj T1) :: (1041, tabObj T2) :: imm)
   (ToldPost prog w nd (j + 1 + draws rs) (u + 2 + 2 * rs.length) (.cList (.var (nameOf "items" (j + 1))) rest (nameOf "item" (j + 1)) (nameOf "more" (j + 1))
      (stepCore p (nameOf "item" (j + 1)) (comp wanted rs (j + 1) (.app (.var (nameOf "loop" (j + 1))) (.var (nameOf "more" (j + 1))))) (.app (.var (nameOf "loop" (j + 1))) (.var (nameOf "more" (j + 1)))))) imm) := by
  have tg0 : True := True.intro; have tg11 : True := True.intro; have tg14 : True := True.intro; have tg19 : True := True.intro; have tg20 : True := True.intro; have tg30 : True := True.intro; have tg4 : True := True.intro; have tg40 : True := True.intro; have tg41 : True := True.intro; have tg42 : True := True.intro; have tg43 : True := True.intro; have tg6 : True := True.intro
  intro p loose mean mg mb dp un gd cn cs ca ccd cl outer A₀ base h₀ L m s Q E B F X N T hk hd hu ret
  have hlen := hss.len
  have hmk' := hmk
  cases hmk with | mk k1 k2 k3 k4 k5 k6 =>
  have hfr := k6
  cases k6 with | mk f1 f2 f3 f4 f5 f6 =>
  k_dflt first | k_extra "mine enter" | k_extra "mine enterC"
  k_steps
  refine Mine.Hold.mk ?_
  rename IsFn _ => ifn
  rename CodeAt _ _ _ => hca
  rename NumQ _ _ _ _ _ _ _ => hq9
  rename News _ _ _ _ => N9
  refine' Mine.lam_step (nd := nd) (imm := imm) (mk := mk) (pa := pa) ih hq9 ifn hca N9 ?D1 ?D2 ?D3 ?C ?sb ?hf ?hp ?hoff ?t1 ?t2 ?d1 ?m1 ?d2 ?m2 ?m3 ?S ?go
  case D1 => k_extra "mine drop"
  case D2 => k_extra "mine drop"
  case D3 => k_extra "mine drop"
  case C => exact .app (by k_mem) (by k_mem) (by k_mem) (.var (by k_mem) (by k_mem)) (.var (by k_mem) (by k_mem))
  case sb => k_extra "mine subs"
  case hf => k_mem
  case hp => k_extra "mine pre"
  case hoff => k_extra "mine flat"; k_extra "mine offM"
  case t1 =>
    refine' Mine.TabSt.mono ?sb ?tt
    case tt => k_asm
    case sb => k_extra "mine subs"
  case t2 => exact hT2.mono (by k_extra "mine subs")
  case d1 => k_asm
  case m1 => k_mem
  case d2 => k_asm
  case m2 => k_mem
  case m3 => k_mem
  case S =>
    intro hra' hca' imm' o1 kvs1 T11 T21 u1 fall sub hoff hd1 hns1 hu1 hT11 hT21
    intro p loose mean mg mb dp un gd cn cs ca ccd cl outer A₀ base h₀ L m s Q E B F X N T hk hd hu ret
    refine wpAny_call ?_
    k_extra "mine kla"
    k_extra "mine boxS"
    k_steps
    all_goals (
      k_extra "mine flat"
      refine' ret _ _ _ _ ?eF ?eN (Mine.ex7 _ _ _ _ _ _ _ ⟨rfl, rfl, ?gp, ?goff, ?gd, ?gnum, ?gt1, ?gt2, ?gcore⟩)
      case eF => k_asm
      case eN =>
        refine' Mine.news_M3 (p := (nd, _)) (q := (1112, _)) (v := (1041, _)) ?n1 ?n2 ?n3 ?n4
        case n1 => k_asm
        case n2 => k_extra "mine drop"
        case n3 => k_extra "mine drop"
        case n4 => k_extra "mine drop"
      case gp => k_extra "mine pre"
      case goff => k_extra "mine offM"
      case gd => k_asm
      case gnum => k_asm
      case gt1 =>
        refine' Mine.TabSt.mono ?sb ?tt
        case tt => with_reducible assumption
        case sb => k_extra "mine sub"
      case gt2 =>
        refine' Mine.TabSt.mono ?sb ?tt
        case tt => with_reducible assumption
        case sb => k_extra "mine sub"
      case gcore => k_asm)
  intro imm1 N1 hf1 hpre1 hsub1 hoff1 hT11 hT21 hcm hca1 hcpl hag hlam
  have hk9 := Hold.mk (And.intro N1 (And.intro hnd (And.intro hd hu)))
  clear hlen N9
  repeat (rename And _ _ => h9; clear h9)
  repeat (rename News _ _ _ _ => h9; clear h9)
  repeat (rename @LT.lt Nat _ _ _ => h9; clear h9)
  repeat (rename Above _ _ => h9; clear h9)
  obtain ⟨N1, hnd, hd, hu⟩ := hk9.out
  k_steps
  all_goals (
    k_extra "mine flat"
    refine' ret _ _ _ _ ?eF ?eN (Mine.ex7 _ _ _ _ _ _ _ ⟨rfl, rfl, ?gp, ?goff, ?gd, ?gnum, ?gt1, ?gt2, ?gcore⟩)
    case eF => k_asm
    case eN =>
      refine' Mine.news_M3 (p := (nd, _)) (q := (1112, _)) (v := (1041, _)) ?n1 ?n2 ?n3 ?n4
      case n1 => k_asm
      case n2 => k_extra "mine drop"
      case n3 => k_extra "mine drop"
      case n4 => k_extra "mine drop"
    case gp => k_extra "mine pre"
    case goff => k_extra "mine offM"
    case gd => k_asm
    case gnum => exact NumSt.le (by k_asm) (by omega)
    case gt1 =>
      refine' Mine.TabSt.mono ?sb ?tt
      case tt => with_reducible assumption
      case sb => k_extra "mine sub"
    case gt2 =>
      refine' Mine.TabSt.mono ?sb ?tt
      case tt => with_reducible assumption
      case sb => k_extra "mine sub"
    case gcore => k_asm)
end Mine
end
section
open PySem PySem.W PyProof.Rows PySem.Spec PySem.Calls
namespace Mine
theorem NumSt.draw {kvs : List (Str × Value)} {j : Int} {u : Nat} {p : Pat} {its : List It} {rs : List Row} (h : NumSt kvs (j + 1 + draws rs) u) : NumSt kvs (j + draws (.draw p its :: rs)) u := by
  have e : j + draws (.draw p its :: rs) = j + 1 + draws rs := by simp only [draws]; omega
  rw [e]; exact h
section
variable {prog : Program} {w : World} {p : Program} {loose : List Str} {mean : ExcName → Option Value} {mg mb : Str → Option Value} {dp un : Nat} {gd : Option (List Code)} {cn : Str} {cs : Scope} {ca : Addr} {ccd : Value} {cl : List (Str × Addr)} {outer : List PySem.Env} {A₀ : Around} {base h₀ : Heap} {L : Addr} {m : Str → Option Value} {s : Shared} {Q E : Value → Shared → Prop}
theorem lb_use {wanted : List Str} {rs : List Row} {j : Int} {rest : Core} {pt : Pat} {all r1 r2 imm : Led} {nd : Addr} {o : Obj} {kvs : List (Str × Value)} {T1 T2 : Array Value} {u : Nat} {mk ex st ra pa a0 : Addr} {svs pre : List Value} {ns : Nat} {t ta tb : Tok}
    (ih : ∀ j rest, ToldSpec prog w wanted rs j rest) (B : Below A₀ base outer h₀) (F : Fr h₀ L s.heap m) (X : (Mine.H.KK w.params).In h₀) (N : News h₀ L s.heap all) (T : Top p loose mean mg mb h₀) (hk : cs.kind = .function)
    (D1 : Drop1 (nd, o) all r1) (D2 : Drop1 (1112, tabObj T1) r1 r2) (D3 : Drop1 (1041, tabObj T2) r2 imm)
    (off : OffM nd imm) (hnd : @LT.lt Nat _ 1112 nd) (hdo : o.IsDictOf (strKind prog w) kvs) (hns : NumQ kvs (j + 1) (j + 1) j j u 2) (hj0 : 0 ≤ j) (hu25 : u + 1 + 2 * rs.length ≤ 25) (hj10 : j + 1 + rs.length ≤ 10) (hT1 : TabL T1 imm) (hT2 : TabR T2 imm) (hmk : MakerIn w prog imm nd mk) (hex : SumIn imm "sum" ex wanted 0)
    (hst : (st, listO (pre ++ .ref a0 :: svs) ns) ∈ imm) (hss : Stats w imm svs rs) (hpl : pre.length + (rs.length + 1) ≤ 10) (hra : CoreIn w imm ra rest) (hpa : PatIn w imm pa pt)
    (hd : dp + (160 + 60 * rs.length) < recursionLimit) (hu : un + (1900 + 1200 * rs.length) < cLine)
    (ret : ∀ a tl o' kvs' T1' T2' h' tk', Fr h₀ L h' m → News h₀ L h' ((nd, o') :: (1112, tabObj T1') :: (1041, tabObj T2') :: (tl ++ imm)) → OffM nd (tl ++ imm) → o'.IsDictOf (strKind prog w) kvs' → NumSt kvs' (j + 1 + draws rs) (u + 2 + 2 * rs.length) →
      TabL T1' (tl ++ imm) → TabR T2' (tl ++ imm) → CoreIn w (tl ++ imm) a (.cList (.var (nameOf "items" (j + 1))) rest (nameOf "item" (j + 1)) (nameOf "more" (j + 1))
      (stepCore pt (nameOf "item" (j + 1)) (comp wanted rs (j + 1) (.app (.var (nameOf "loop" (j + 1))) (.var (nameOf "more" (j + 1))))) (.app (.var (nameOf "loop" (j + 1))) (.var (nameOf "more" (j + 1)))))) → Q (.ref a) { s with heap := h', toks := tk' }) :
    wpAny (model prog w) (ktrTop dp un gd cn cs L ca ccd cl outer) (call (.ref 1117) [.ref mk, .ref pa, .str (nameOf "loop" (j + 1)) ta, .str (nameOf "items" (j + 1)) tb, .ref ex, .ref st, .int pre.length t, .ref ra]) Q E s := by
  refine spec_use0 B F X (news_M3 N D1 D2 D3) T hk (lb_ok prog w wanted rs ih j pt rest imm nd o kvs T1 T2 u mk ex st ra pa a0 svs pre ns t ta tb off hnd hdo hns hj0 hu25 hj10 hT1 hT2 hmk hex hst hss hpl hra hpa) hd hu fun v h' tk' news' F' N' P => ?_
  obtain ⟨a, r, tl, o', kvs', T1', T2', rfl, rfl, hp, q1, q2, q3, q4, q5, q6⟩ := P
  have hp := hp.eq
  subst hp
  exact ret a tl o' kvs' T1' T2' h' tk' F' N' q1 q2 q3 q4 q5 q6
end
end Mine
end
section
open PySem PySem.W PyProof.Rows PySem.Spec PySem.Calls
set_option maxHeartbeats 2000000
namespace Mine
theorem told_draw (prog : Program) (w : World) (wanted : List Str) (p : Pat) (its : List It) (rs : List Row) (j : Int) (rest : Core) (ih : ∀ j rest, ToldSpec prog w wanted rs j rest) : ToldSpec prog w wanted (.draw p its :: rs) j rest := by
  have tg0 : True := True.intro; have tg18 : True := True.intro; have tg19 : True := True.intro; have tg30 : True := True.intro; have tg4 : True := True.intro; have tg40 : True := True.intro; have tg41 : True := True.intro; have tg42 : True := True.intro; have tg43 : True := True.intro
  intro imm nd o kvs T1 T2 u mk ex st ra sv svs pre ns at' t off hnd hdo hns hu25 hj10 hT1 hT2 hmk hex hst hsv hat hss hpl hra
  have hq := hns.q
  have hj0 := hns.lo
  subst hsv
  subst hat
  cases hss with | cons hst1 hss =>
  have hlen := hss.len
  simp only [List.length_cons] at hu25 hj10 hpl
  cases hst1 with | draw s1 s2 s3 s4 s5 s6 s7 =>
  intro p loose mean mg mb dp un gd cn cs ca ccd cl outer A₀ base h₀ L m s Q E B F X N T hk hd hu ret
  simp only [List.length_cons] at hd hu
  have hmk' := hmk
  cases hmk with | mk k1 k2 k3 k4 k5 k6 =>
  have hfr := k6
  cases k6 with | mk f1 f2 f3 f4 f5 f6 =>
  k_dflt first | k_extra "mine enter" | k_extra "mine enterC"
  k_steps
  all_goals (
    k_extra "mine flat"
    refine' ret _ _ _ _ ?eF ?eN (Mine.ex7 _ _ _ _ _ _ _ ⟨rfl, rfl, ?gp, ?goff, ?gd, ?gnum, ?gt1, ?gt2, ?gcore⟩)
    case eF => k_asm
    case eN =>
      refine' Mine.news_M3 (p := (nd, _)) (q := (1112, _)) (v := (1041, _)) ?n1 ?n2 ?n3 ?n4
      case n1 => k_asm
      case n2 => k_extra "mine drop"
      case n3 => k_extra "mine drop"
      case n4 => k_extra "mine drop"
    case gp => k_extra "mine pre"
    case goff => k_extra "mine offM"
    case gd => k_asm
    case gnum => exact NumSt.draw (NumSt.le (by k_asm) (by simp only [List.length_cons]; omega))
    case gt1 =>
      refine' Mine.TabSt.mono ?sb ?tt
      case tt => with_reducible assumption
      case sb => k_extra "mine sub"
    case gt2 =>
      refine' Mine.TabSt.mono ?sb ?tt
      case tt => with_reducible assumption
      case sb => k_extra "mine sub"
    case gcore => exact .letr (by k_mem) (by k_mem) (by k_mem) (by k_mem) (.lam (by k_mem) (by k_mem) (by k_mem) (by k_extra "mine corem")) (.app (by k_mem) (by k_mem) (by k_mem) (.var (by k_mem) (by k_mem) ) (by k_extra "mine corem")))
end Mine
end
section
open PySem PySem.W PyProof.Rows PySem.Spec PySem.Calls
namespace Mine
theorem told_ok (prog : Program) (w : World) (wanted : List Str) : ∀ (rs : List Row) (j : Int) (rest : Core), ToldSpec prog w wanted rs j rest
  | [], j, rest => told_end prog w wanted j rest
  | .draw p its :: rs, j, rest => told_draw prog w wanted p its rs j rest (told_ok prog w wanted rs)
  | .cond ns k :: rs, j, rest => told_say prog w wanted ns k rs j rest (told_ok prog w wanted rs)
  | .bnd x ns k :: rs, j, rest => told_let prog w wanted ns x k rs j rest (told_ok prog w wanted rs)
end Mine
end
section
open PySem PySem.W PyProof.Rows PySem.Spec PySem.Calls
set_option genSizeOf false
namespace Mine
structure Sub0 (news0 news : Led) : Prop where
  h : ∀ q ∈ news0, q ∈ news
noncomputable def ValSpec (prog : Program) (w : World) (n : Nat) (c : Core) (ρ : Env) (r : Val) : Prop :=
  ∀ (p : Program) (loose : List Str) (mean : ExcName → Option Value) (mg mb : Str → Option Value) (dp un : Nat) (gd : Option (List Code)) (cn : Str) (cs : Scope) (ca : Addr) (ccd : Value) (cl : List (Str × Addr)) (outer : List PySem.Env) (A₀ : Around) (base h₀ : Heap) (L : Addr) (m : Str → Option Value) (news news0 : Led) (s : Shared) (vc ve : Addr) (Q E : Value → Shared → Prop),
    Below A₀ base outer h₀ → Fr h₀ L s.heap m → (Mine.H.KK w.params).In h₀ → Sub0 news0 news → News h₀ L s.heap news → Top p loose mean mg mb h₀ → cs.kind = .function → CoreIn w news0 vc c → EnvIn prog w news0 ve ρ →
    dp + n + 10 < recursionLimit → un + 16 * n + 100 < cLine →
    (∀ v tl h' tk', Fr h₀ L h' m → News h₀ L h' (tl ++ news) → Above tl news → ValIn prog w (tl ++ news0) v r → Q v { s with heap := h', toks := tk' }) →
    wpAny (model prog w) (ktrTop dp un gd cn cs L ca ccd cl outer) (call (.ref 1271) [.ref vc, .ref ve]) Q E s
theorem val_use {prog : Program} {w : World} {n : Nat} {c : Core} {ρ : Env} {r : Val} {p : Program} {loose : List Str} {mean : ExcName → Option Value} {mg mb : Str → Option Value} {dp un : Nat} {gd : Option (List Code)} {cn : Str} {cs : Scope} {ca : Addr} {ccd : Value} {cl : List (Str × Addr)} {outer : List PySem.Env} {A₀ : Around} {base h₀ : Heap} {L : Addr} {m : Str → Option Value} {news news0 led tl0 : Led} {s : Shared} {vc ve : Addr} {Q E : Value → Shared → Prop}
    (B : Below A₀ base outer h₀) (F : Fr h₀ L s.heap m) (X : (Mine.H.KK w.params).In h₀) (S0 : Sub0 news0 news) (N : News h₀ L s.heap led) (P : Pre led tl0 news) (T : Top p loose mean mg mb h₀) (hk : cs.kind = .function) (hc : CoreIn w (tl0 ++ news0) vc c) (he : EnvIn prog w (tl0 ++ news0) ve ρ) (S : ValSpec prog w n c ρ r)
    (hd : dp + n + 10 < recursionLimit) (hu : un + 16 * n + 100 < cLine)
    (ret : ∀ v tl h' tk', Fr h₀ L h' m → News h₀ L h' (tl ++ led) → Above tl led → (∀ q ∈ tl ++ (tl0 ++ news0), q ∈ tl ++ led) → ValIn prog w (tl ++ (tl0 ++ news0)) v r → Q v { s with heap := h', toks := tk' }) :
    wpAny (model prog w) (ktrTop dp un gd cn cs L ca ccd cl outer) (call (.ref 1271) [.ref vc, .ref ve]) Q E s := by
  have P := P.eq
  subst P
  have S1 : Sub0 (tl0 ++ news0) (tl0 ++ news) := ⟨fun q hq => (List.mem_append.mp hq).elim (List.mem_append_left _) fun h => List.mem_append_right _ (S0.h q h)⟩
  refine S _ _ _ _ _ _ _ _ _ _ _ _ _ _ _ _ _ _ _ _ _ _ _ _ _ _ B F X S1 N T hk hc he hd hu fun v tl h' tk' F' N' A' V' => ret v tl h' tk' F' N' A' (fun q hq => ?_) V'
  exact (List.mem_append.mp hq).elim (List.mem_append_left _) fun h => List.mem_append_right _ (S1.h q h)
theorem end8 {prog : Program} {w : World} {h₀ h' : Heap} {L : Addr} {m : Str → Option Value} {news news0 led tl : Led} {s : Shared} {v : Value} {r : Val} {tk : Nat} {Q : Value → Shared → Prop}
    (ret : ∀ v tl h' tk', Fr h₀ L h' m → News h₀ L h' (tl ++ news) → Above tl news → ValIn prog w (tl ++ news0) v r → Q v { s with heap := h', toks := tk' })
    (F : Fr h₀ L h' m) (N : News h₀ L h' led) (P : Pre led tl news) (A : Above tl news) (V : ValIn prog w (tl ++ news0) v r) : Q v { s with heap := h', toks := tk } := by
  have P := P.eq
  subst P
  exact ret v tl h' tk F N A V
theorem vs_split {a b l : Led} (h : ∀ q ∈ a, q ∈ l) (k : ∀ q ∈ b, q ∈ l) : ∀ q ∈ a ++ b, q ∈ l := fun q hq => (List.mem_append.mp hq).elim (h q) (k q)
theorem vs_via {A B R : Led} (h : ∀ q ∈ R, q ∈ B) (k : ∀ q ∈ A, q ∈ R) : ∀ q ∈ A, q ∈ B := fun q hq => h q (k q hq)
theorem vs_mem {B R : Led} {p : Addr × Obj} (h : ∀ q ∈ R, q ∈ B) (k : p ∈ R) : p ∈ B := h p k
theorem vs_mem3 {B R : Led} {p : Addr × Obj} (k : p ∈ R) (h : ∀ q ∈ R, q ∈ B) : p ∈ B := h p k
theorem vs_appl {a t l : Led} (h : ∀ q ∈ a, q ∈ t) : ∀ q ∈ a, q ∈ t ++ l := fun q hq => List.mem_append_left _ (h q hq)
theorem vs_consA {x : Addr × Obj} {a l : Led} (h : x ∈ l) (k : ∀ q ∈ a, q ∈ l) : ∀ q ∈ x :: a, q ∈ l := fun q hq => by
  rcases List.mem_cons.mp hq with rfl | hq
  · exact h
  · exact k q hq
end Mine
end
section
open PySem PySem.W PyProof.Rows PySem.Spec PySem.Calls
set_option maxHeartbeats 2000000
namespace Mine
theorem v_lit (prog : Program) (w : World) (n : Nat) (k : Int) (ρ : Env) : ValSpec prog w (n+1) (.lit k) ρ (.int k) := by
  have tg5 : True := True.intro
  intro p loose mean mg mb dp un gd cn cs ca ccd cl outer A₀ base h₀ L m news news0 s vc ve Q E B F X S0 N T hk hc he hd hu ret
  have sub0 := S0.h
  refine Mine.CoreIn.inv hc _ ?_
  intro _ _ _ _ _ m1 m2
  clear hc
  k_dflt k_extra "mine enterC"
  k_steps
  all_goals (k_extra "mine end")
end Mine
end
section
open PySem PySem.W PyProof.Rows PySem.Spec PySem.Calls
set_option maxHeartbeats 2000000
namespace Mine
theorem v_con0 (prog : Program) (w : World) (n : Nat) (nm : Nm) (ρ : Env) : ValSpec prog w (n+1) (.con0 nm) ρ (.con0 nm) := by
  have tg5 : True := True.intro
  intro p loose mean mg mb dp un gd cn cs ca ccd cl outer A₀ base h₀ L m news news0 s vc ve Q E B F X S0 N T hk hc he hd hu ret
  have sub0 := S0.h
  refine Mine.CoreIn.inv hc _ ?_
  intro _ _ _ _ _ _ m1 m2 m3
  clear hc
  k_dflt k_extra "mine enterC"
  k_steps
  all_goals (k_extra "mine end")
end Mine
end
section
open PySem PySem.W PyProof.Rows PySem.Spec PySem.Calls
set_option maxHeartbeats 2000000
namespace Mine
theorem v_lam (prog : Program) (w : World) (n : Nat) (x : Nm) (b : Core) (ρ : Env) : ValSpec prog w (n+1) (.lam x b) ρ (.fn x b ρ) := by
  have tg5 : True := True.intro
  intro p loose mean mg mb dp un gd cn cs ca ccd cl outer A₀ base h₀ L m news news0 s vc ve Q E B F X S0 N T hk hc he hd hu ret
  have sub0 := S0.h
  refine Mine.CoreIn.inv hc _ ?_
  intro _ _ _ _ _ _ _ m1 m2 m3 m4
  clear hc
  k_dflt k_extra "mine enterC"
  k_steps
  all_goals (k_extra "mine end")
end Mine
end
section
open PySem PySem.W PyProof.Rows PySem.Spec PySem.Calls
set_option maxHeartbeats 2000000
namespace Mine
theorem v_var (prog : Program) (w : World) (n : Nat) (x : Nm) (c : Core) (ρ ρ' : Env) (r : Val) (hl : ρ.look x = some (c, ρ')) (ih : ValSpec prog w n c ρ' r) : ValSpec prog w (n+1) (.var x) ρ r := by
  have tg5 : True := True.intro
  intro p loose mean mg mb dp un gd cn cs ca ccd cl outer A₀ base h₀ L m news news0 s vc ve Q E B F X S0 N T hk hc he hd hu ret
  have sub0 := S0.h
  refine Mine.CoreIn.inv hc _ ?_
  intro _ _ _ m1 m2
  clear hc
  (k_dflt (refine' Mine.exe2 (he.step) ?_); intro o kvs hz9; k_dflt (refine' Mine.ane4 hz9 ?_); clear hz9; intro e1 e2 e3 e4)
  (k_dflt (refine' Mine.exe4 (e4.2 _ _ _ hl) ?_); intro t n va ve hz9; k_dflt (refine' Mine.ane4 hz9 ?_); clear hz9; intro e5 e6 e7 e8)
  k_dflt k_extra "mine enterC"
  k_steps
  all_goals (k_extra "mine end")
end Mine
end
section
open PySem PySem.W PyProof.Rows PySem.Spec PySem.Calls
set_option maxHeartbeats 2000000
namespace Mine
theorem v_con2 (prog : Program) (w : World) (n : Nat) (nm : Nm) (a b : Core) (ρ : Env) : ValSpec prog w (n+1) (.con2 nm a b) ρ (.con2 nm a b ρ) := by
  have tg5 : True := True.intro
  intro p loose mean mg mb dp un gd cn cs ca ccd cl outer A₀ base h₀ L m news news0 s vc ve Q E B F X S0 N T hk hc he hd hu ret
  have sub0 := S0.h
  refine Mine.CoreIn.inv hc _ ?_
  intro _ _ _ _ _ _ _ _ m1 m2 m3 m4 m5
  clear hc
  k_dflt k_extra "mine enterC"
  k_steps
  all_goals (k_extra "mine end")
end Mine
end
section
open PySem PySem.W PyProof.Rows PySem.Spec PySem.Calls
set_option maxHeartbeats 2000000
namespace Mine
theorem v_letr (prog : Program) (w : World) (n : Nat) (x : Nm) (e b : Core) (ρ : Env) (r : Val) (hs : Small ρ) (ih : ValSpec prog w n b (.recb x e ρ) r) : ValSpec prog w (n+1) (.letr x e b) ρ r := by
  have tg5 : True := True.intro
  intro p loose mean mg mb dp un gd cn cs ca ccd cl outer A₀ base h₀ L m news news0 s vc ve Q E B F X S0 N T hk hc he hd hu ret
  have sub0 := S0.h
  refine Mine.CoreIn.inv hc _ ?_
  intro _ _ _ _ _ _ _ _ _ _ _ m1 m2 m3 m4 m5 m6
  clear hc
  k_dflt k_extra "mine enterC"
  k_steps
  all_goals (k_extra "mine end")
end Mine
end
section
open PySem PySem.W PyProof.Rows PySem.Spec PySem.Calls
set_option maxHeartbeats 2000000
namespace Mine
theorem v_letn (prog : Program) (w : World) (n : Nat) (x : Nm) (e b : Core) (ρ : Env) (r : Val) (hs : Small ρ) (ih : ValSpec prog w n b (.bind x e ρ ρ) r) : ValSpec prog w (n+1) (.letn x e b) ρ r := by
  have tg5 : True := True.intro
  intro p loose mean mg mb dp un gd cn cs ca ccd cl outer A₀ base h₀ L m news news0 s vc ve Q E B F X S0 N T hk hc he hd hu ret
  have sub0 := S0.h
  refine Mine.CoreIn.inv hc _ ?_
  intro _ _ _ _ _ _ _ _ _ _ _ m1 m2 m3 m4 m5 m6
  clear hc
  k_dflt k_extra "mine enterC"
  k_steps
  all_goals (k_extra "mine end")
end Mine
end
section
open PySem PySem.W PyProof.Rows PySem.Spec PySem.Calls
set_option maxHeartbeats 2000000
namespace Mine
theorem v_add (prog : Program) (w : World) (n : Nat) (a b : Core) (ρ : Env) (i j : Int) (ih1 : ValSpec prog w n a ρ (.int i)) (ih2 : ValSpec prog w n b ρ (.int j)) : ValSpec prog w (n+1) (.add a b) ρ (.int (i + j)) := by
  have tg5 : True := True.intro
  intro p loose mean mg mb dp un gd cn cs ca ccd cl outer A₀ base h₀ L m news news0 s vc ve Q E B F X S0 N T hk hc he hd hu ret
  have sub0 := S0.h
  refine Mine.CoreIn.inv hc _ ?_
  intro _ _ _ _ _ _ _ _ m1 m2 m3 m4 m5
  clear hc
  k_dflt k_extra "mine enterC"
  k_steps
  all_goals (k_extra "mine end")
end Mine
end
section
open PySem PySem.W PyProof.Rows PySem.Spec PySem.Calls
set_option maxHeartbeats 2000000
namespace Mine
theorem v_lt (prog : Program) (w : World) (n : Nat) (a b : Core) (ρ : Env) (i j : Int) (ih1 : ValSpec prog w n a ρ (.int i)) (ih2 : ValSpec prog w n b ρ (.int j)) : ValSpec prog w (n+1) (.lt a b) ρ (.con0 (if i < j then "Prelude.True" else "Prelude.False")) := by
  have tg5 : True := True.intro
  intro p loose mean mg mb dp un gd cn cs ca ccd cl outer A₀ base h₀ L m news news0 s vc ve Q E B F X S0 N T hk hc he hd hu ret
  have sub0 := S0.h
  refine Mine.CoreIn.inv hc _ ?_
  intro _ _ _ _ _ _ _ _ m1 m2 m3 m4 m5
  clear hc
  k_dflt k_extra "mine enterC"
  k_steps
  all_goals first | ((rw [if_pos (by k_asm)] at ret); k_extra "mine end") | ((rw [if_neg (by k_asm)] at ret); k_extra "mine end")
end Mine
end
section
open PySem PySem.W PyProof.Rows PySem.Spec PySem.Calls
set_option maxHeartbeats 2000000
namespace Mine
theorem v_app (prog : Program) (w : World) (n : Nat) (f a : Core) (ρ ρ' : Env) (x : Nm) (b : Core) (r : Val) (hs : Small ρ') (ih1 : ValSpec prog w n f ρ (.fn x b ρ')) (ih2 : ValSpec prog w n b (.bind x a ρ ρ') r) : ValSpec prog w (n+1) (.app f a) ρ r := by
  have tg5 : True := True.intro
  intro p loose mean mg mb dp un gd cn cs ca ccd cl outer A₀ base h₀ L m news news0 s vc ve Q E B F X S0 N T hk hc he hd hu ret
  have sub0 := S0.h
  refine Mine.CoreIn.inv hc _ ?_
  intro _ _ _ _ _ _ _ m1 m2 m3 m4 m5
  clear hc
  k_dflt k_extra "mine enterC"
  k_steps
  all_goals (k_extra "mine end")
end Mine
end
section
open PySem PySem.W PyProof.Rows PySem.Spec PySem.Calls
set_option maxHeartbeats 2000000
namespace Mine
theorem v_cLitT (prog : Program) (w : World) (n : Nat) (s t o : Core) (k : Int) (ρ : Env) (r : Val) (hs : Small ρ) (ih1 : ValSpec prog w n s ρ (.int k)) (ih2 : ValSpec prog w n t (.bind "w" (.lit k) .nil ρ) r) : ValSpec prog w (n+2) (.cLit s k t o) ρ r := by
  have tg5 : True := True.intro
  intro p loose mean mg mb dp un gd cn cs ca ccd cl outer A₀ base h₀ L m news news0 s vc ve Q E B F X S0 N T hk hc he hd hu ret
  have sub0 := S0.h
  refine Mine.CoreIn.inv hc _ ?_
  intro _ _ _ _ _ _ _ _ _ _ _ _ _ _ _ _ _ _ _ _ _ _ _ m1 m2 m3 m4 m5 m6 m7 m8 m9 m10
  clear hc
  k_dflt k_extra "mine enterC"
  k_steps
  all_goals (k_extra "mine end")
end Mine
end
section
open PySem PySem.W PyProof.Rows PySem.Spec PySem.Calls
set_option maxHeartbeats 2000000
namespace Mine
theorem v_cLitF (prog : Program) (w : World) (n : Nat) (s t o : Core) (k j : Int) (ρ : Env) (r : Val) (hs : Small ρ) (ih1 : ValSpec prog w n s ρ (.int j)) (hj : j ≠ k) (ih2 : ValSpec prog w n o (.bind "w" (.lit j) .nil ρ) r) : ValSpec prog w (n+2) (.cLit s k t o) ρ r := by
  have tg5 : True := True.intro
  intro p loose mean mg mb dp un gd cn cs ca ccd cl outer A₀ base h₀ L m news news0 s vc ve Q E B F X S0 N T hk hc he hd hu ret
  have sub0 := S0.h
  refine Mine.CoreIn.inv hc _ ?_
  intro _ _ _ _ _ _ _ _ _ _ _ _ _ _ _ _ _ _ _ _ _ _ _ m1 m2 m3 m4 m5 m6 m7 m8 m9 m10
  clear hc
  k_dflt k_extra "mine enterC"
  k_steps
  all_goals (k_extra "mine end")
end Mine
end
section
open PySem PySem.W PyProof.Rows PySem.Spec PySem.Calls
set_option maxHeartbeats 2000000
namespace Mine
theorem v_cTrueT (prog : Program) (w : World) (n : Nat) (s t o : Core) (ρ : Env) (r : Val) (hs : Small ρ) (ih1 : ValSpec prog w n s ρ (.con0 "Prelude.True")) (ih2 : ValSpec prog w n t ρ r) : ValSpec prog w (n+2) (.cTrue s t o) ρ r := by
  have tg5 : True := True.intro
  intro p loose mean mg mb dp un gd cn cs ca ccd cl outer A₀ base h₀ L m news news0 s vc ve Q E B F X S0 N T hk hc he hd hu ret
  have sub0 := S0.h
  refine Mine.CoreIn.inv hc _ ?_
  intro _ _ _ _ _ _ _ _ _ _ _ _ _ _ _ _ _ _ _ _ _ _ _ m1 m2 m3 m4 m5 m6 m7 m8 m9 m10
  clear hc
  k_dflt k_extra "mine enterC"
  k_steps
  all_goals (k_extra "mine end")
end Mine
end
section
open PySem PySem.W PyProof.Rows PySem.Spec PySem.Calls
set_option maxHeartbeats 2000000
namespace Mine
theorem v_cTrueF (prog : Program) (w : World) (n : Nat) (s t o : Core) (ρ : Env) (r : Val) (hs : Small ρ) (ih1 : ValSpec prog w n s ρ (.con0 "Prelude.False")) (ih2 : ValSpec prog w n o ρ r) : ValSpec prog w (n+2) (.cTrue s t o) ρ r := by
  have tg5 : True := True.intro
  intro p loose mean mg mb dp un gd cn cs ca ccd cl outer A₀ base h₀ L m news news0 s vc ve Q E B F X S0 N T hk hc he hd hu ret
  have sub0 := S0.h
  refine Mine.CoreIn.inv hc _ ?_
  intro _ _ _ _ _ _ _ _ _ _ _ _ _ _ _ _ _ _ _ _ _ _ _ m1 m2 m3 m4 m5 m6 m7 m8 m9 m10
  clear hc
  k_dflt k_extra "mine enterC"
  k_steps
  all_goals (k_extra "mine end")
end Mine
end
section
open PySem PySem.W PyProof.Rows PySem.Spec PySem.Calls
set_option maxHeartbeats 2000000
namespace Mine
theorem v_cNil (prog : Program) (w : World) (n : Nat) (s e t : Core) (h r' : Nm) (ρ : Env) (r : Val) (hs : Small ρ) (ih1 : ValSpec prog w n s ρ (.con0 "[]")) (ih2 : ValSpec prog w n e ρ r) : ValSpec prog w (n+2) (.cList s e h r' t) ρ r := by
  have tg5 : True := True.intro
  intro p loose mean mg mb dp un gd cn cs ca ccd cl outer A₀ base h₀ L m news news0 s vc ve Q E B F X S0 N T hk hc he hd hu ret
  have sub0 := S0.h
  refine Mine.CoreIn.inv hc _ ?_
  intro _ _ _ _ _ _ _ _ _ _ _ _ _ _ _ _ _ _ _ _ _ _ _ _ _ _ _ _ _ _ _ _ _ _ _ _ m1 m2 m3 m4 m5 m6 m7 m8 m9 m10 m11 m12 m13 m14
  clear hc
  k_dflt k_extra "mine enterC"
  k_steps
  all_goals (k_extra "mine end")
end Mine
end
section
open PySem PySem.W PyProof.Rows PySem.Spec PySem.Calls
set_option maxHeartbeats 2000000
namespace Mine
theorem v_cPair (prog : Program) (w : World) (n : Nat) (s t o a b : Core) (x y : Nm) (ρ ρ' : Env) (r : Val) (hs : Small ρ) (ih1 : ValSpec prog w n s ρ (.con2 "(,)" a b ρ')) (ih2 : ValSpec prog w n t (.bind y b ρ' (.bind x a ρ' ρ)) r) : ValSpec prog w (n+2) (.cPair s x y t o) ρ r := by
  have tg5 : True := True.intro
  intro p loose mean mg mb dp un gd cn cs ca ccd cl outer A₀ base h₀ L m news news0 s vc ve Q E B F X S0 N T hk hc he hd hu ret
  have sub0 := S0.h
  refine Mine.CoreIn.inv hc _ ?_
  intro _ _ _ _ _ _ _ _ _ _ _ _ _ _ _ _ _ _ _ _ _ _ _ _ m1 m2 m3 m4 m5 m6 m7 m8 m9 m10
  clear hc
  k_dflt k_extra "mine enterC"
  k_steps
  all_goals (k_extra "mine end")
end Mine
end
section
open PySem PySem.W PyProof.Rows PySem.Spec PySem.Calls
set_option maxHeartbeats 2000000
namespace Mine
theorem v_cCons (prog : Program) (w : World) (n : Nat) (s e t a b : Core) (h r' : Nm) (ρ ρ' : Env) (r : Val) (hs : Small ρ) (ih1 : ValSpec prog w n s ρ (.con2 ":" a b ρ')) (ih2 : ValSpec prog w n t (.bind r' b ρ' (.bind h a ρ' ρ)) r) : ValSpec prog w (n+2) (.cList s e h r' t) ρ r := by
  have tg5 : True := True.intro
  intro p loose mean mg mb dp un gd cn cs ca ccd cl outer A₀ base h₀ L m news news0 s vc ve Q E B F X S0 N T hk hc he hd hu ret
  have sub0 := S0.h
  refine Mine.CoreIn.inv hc _ ?_
  intro _ _ _ _ _ _ _ _ _ _ _ _ _ _ _ _ _ _ _ _ _ _ _ _ _ _ _ _ _ _ _ _ _ _ _ _ m1 m2 m3 m4 m5 m6 m7 m8 m9 m10 m11 m12 m13 m14
  clear hc
  k_dflt k_extra "mine enterC"
  k_steps
  all_goals (k_extra "mine end")
end Mine
end
section
open PySem PySem.W PyProof.Rows PySem.Spec PySem.Calls
namespace Mine
theorem value_ok (prog : Program) (w : World) {n : Nat} {c : Core} {ρ : Env} {r : Val} (h : Ev n c ρ r) : ValSpec prog w n c ρ r := by
  induction h with
  | lit => exact v_lit prog w _ _ _
  | var hl _ ih => exact v_var prog w _ _ _ _ _ _ hl ih
  | con0 => exact v_con0 prog w _ _ _
  | con2 => exact v_con2 prog w _ _ _ _ _
  | lam => exact v_lam prog w _ _ _ _
  | letr hs _ ih => exact v_letr prog w _ _ _ _ _ _ hs ih
  | letn hs _ ih => exact v_letn prog w _ _ _ _ _ _ hs ih
  | add _ _ ih1 ih2 => exact v_add prog w _ _ _ _ _ _ ih1 ih2
  | lt _ _ ih1 ih2 => exact v_lt prog w _ _ _ _ _ _ ih1 ih2
  | app hs _ _ ih1 ih2 => exact v_app prog w _ _ _ _ _ _ _ _ hs ih1 ih2
  | cLitT hs _ _ ih1 ih2 => exact v_cLitT prog w _ _ _ _ _ _ _ hs ih1 ih2
  | cLitF hs _ hj _ ih1 ih2 => exact v_cLitF prog w _ _ _ _ _ _ _ _ hs ih1 hj ih2
  | cPair hs _ _ ih1 ih2 => exact v_cPair prog w _ _ _ _ _ _ _ _ _ _ _ hs ih1 ih2
  | cTrueT hs _ _ ih1 ih2 => exact v_cTrueT prog w _ _ _ _ _ _ hs ih1 ih2
  | cTrueF hs _ _ ih1 ih2 => exact v_cTrueF prog w _ _ _ _ _ _ hs ih1 ih2
  | cNil hs _ _ ih1 ih2 => exact v_cNil prog w _ _ _ _ _ _ _ _ hs ih1 ih2
  | cCons hs _ _ ih1 ih2 => exact v_cCons prog w _ _ _ _ _ _ _ _ _ _ _ hs ih1 ih2
end Mine
end
section
open PySem PySem.W PyProof.Rows PySem.Spec PySem.Calls
set_option genSizeOf false
namespace Mine
inductive SV (n : Nat) : Val → List Int → Prop where
  | nil : SV n (.con0 "[]") []
  | cons {a b : Core} {ρ' : Env} {k : Int} {ks : List Int} : Ev n a ρ' (.int k) → Stream n b ρ' ks → SV n (.con2 ":" a b ρ') (k :: ks)
theorem Stream.sv {n : Nat} {c : Core} {ρ : Env} {ks : List Int} (h : Stream n c ρ ks) : ∃ r, Ev n c ρ r ∧ SV n r ks := by
  cases h with
  | nil h => exact ⟨_, h, .nil⟩
  | cons h1 h2 h3 => exact ⟨_, h1, .cons h2 h3⟩
theorem ints_snoc {vs : List Value} {ks : List Int} {k : Int} {t : Tok} (h : IntsAre vs ks) : IntsAre (vs ++ [.int k t]) (ks ++ [k]) := by
  induction h with
  | nil => exact .cons k t .nil
  | cons n u _ ih => exact .cons n u ih
theorem ints_len {vs : List Value} {ks : List Int} (h : IntsAre vs ks) : vs.length = ks.length := by
  induction h with
  | nil => rfl
  | cons n u _ ih => simp [ih]
noncomputable def shV (v : Value) (m₀ : Str → Option Value) : Str → Option Value := fun y => if y = "value" then some v else m₀ y
theorem shV_step {v v' : Value} {m₀ : Str → Option Value} : (fun (y : Str) => if y = "value" then some v' else shV v m₀ y) = shV v' m₀ := by
  funext y
  unfold shV
  by_cases h : y = "value" <;> simp [h]
theorem shV_init {v : Value} {m₀ : Str → Option Value} (h : m₀ "value" = some v) : m₀ = shV v m₀ := by
  funext y
  unfold shV
  by_cases e : y = "value"
  · rw [if_pos e, e, h]
  · rw [if_neg e]
noncomputable def JItems (prog : Program) (w : World) (base : Led) (l : Addr) (d : Nat) (total : List Int) (m₀ : Str → Option Value) (n : Nat) (m : Str → Option Value) (led : Led) : Prop :=
  ∃ vs ms ks1 ks2 r v imm, led = (l, listO vs ms) :: imm ∧ (∀ q ∈ base, q ∈ imm) ∧ (∀ q ∈ imm, q.1 ≠ l) ∧ IntsAre vs ks1 ∧ total = ks1 ++ ks2 ∧ n = ks2.length ∧ SV d r ks2 ∧ ValIn prog w imm v r ∧ m = shV v m₀
theorem ne_memlt {D l : Addr} {o : Obj} {R : Led} (h : ∀ p ∈ R, @LT.lt Nat _ p.1 D) (m : (l, o) ∈ R) : D ≠ l := Nat.ne_of_gt (h _ m)
theorem drop_sub {p : Addr × Obj} {l r : Led} (D : Drop1 p l r) : ∀ q ∈ r, q ∈ l := fun q hq => D.mem q (.tail _ hq)
theorem val_useL {prog : Program} {w : World} {n : Nat} {c : Core} {ρ : Env} {r : Val} {p : Program} {loose : List Str} {mean : ExcName → Option Value} {mg mb : Str → Option Value} {dp un : Nat} {gd : Option (List Code)} {cn : Str} {cs : Scope} {ca : Addr} {ccd : Value} {cl : List (Str × Addr)} {outer : List PySem.Env} {A₀ : Around} {base h₀ : Heap} {L l : Addr} {m : Str → Option Value} {led imm0 : Led} {vs : List Value} {ms : Nat} {s : Shared} {vc ve : Addr} {Q E : Value → Shared → Prop}
    (B : Below A₀ base outer h₀) (F : Fr h₀ L s.heap m) (X : (Mine.H.KK w.params).In h₀) (N : News h₀ L s.heap led) (D : Drop1 (l, listO vs ms) led imm0) (T : Top p loose mean mg mb h₀) (hk : cs.kind = .function) (hc : CoreIn w imm0 vc c) (he : EnvIn prog w imm0 ve ρ) (S : ValSpec prog w n c ρ r)
    (hd : dp + n + 10 < recursionLimit) (hu : un + 16 * n + 100 < cLine)
    (ret : ∀ v tl h' tk', Fr h₀ L h' m → News h₀ L h' (tl ++ led) → Above tl led → (∀ q ∈ tl ++ imm0, q ∈ tl ++ led) → ValIn prog w (tl ++ imm0) v r → Q v { s with heap := h', toks := tk' }) :
    wpAny (model prog w) (ktrTop dp un gd cn cs L ca ccd cl outer) (call (.ref 1271) [.ref vc, .ref ve]) Q E s := by
  refine S _ _ _ _ _ _ _ _ _ _ _ _ _ _ _ _ _ _ _ _ _ _ _ _ _ _ B F X ⟨drop_sub D⟩ N T hk hc he hd hu fun v tl h' tk' F' N' A' V' => ret v tl h' tk' F' N' A' (fun q hq => ?_) V'
  exact (List.mem_append.mp hq).elim (List.mem_append_left _) fun h => List.mem_append_right _ (drop_sub D q h)
end Mine
end
section
open PySem PySem.W PyProof.Rows PySem.Spec PySem.Calls
set_option maxHeartbeats 2000000
namespace Mine
theorem items_ok (prog : Program) (w : World) (a : Addr) (c : Core) (n : Nat) (ks : List Int) (news : Led) (hc : CoreIn w news a c) (hs : Stream n c .nil ks) (hn : n ≤ 560) (hz : ks.length ≤ 500) :
  Spec prog w 1285 [.ref a] (n + 30) (16 * n + 600) news (fun v news' => ∃ l vs ms imm, v = .ref l ∧ news' = (l, listO vs ms) :: imm ∧ (∀ q ∈ news, q ∈ imm) ∧ IntsAre vs ks) := by
  have tg1 : True := True.intro; have tg30 : True := True.intro; have tg38 : True := True.intro; have tg39 : True := True.intro; have tg5 : True := True.intro
  intro p loose mean mg mb dp un gd cn cs ca ccd cl outer A₀ base h₀ L m s Q E B F X N T hk hd hu ret
  obtain ⟨r0, ev0, sv0⟩ := hs.sv
  have S1 := value_ok prog w ev0
  have S0 : Sub0 news news := ⟨fun _ h => h⟩
  k_dflt first | k_extra "mine enter" | k_extra "mine enterC"
  k_steps
  all_goals skip
  · rename (News _ _ _ (_ :: _)) => N9
    have N8 := Mine.news_M1 (p := (_, listO [] _)) N9 (by k_extra "mine drop")
    refine' Mine.Hold.mk (Mine.While_invC (Mine.JItems prog w news _ n ks _) (n₀ := ks.length) ?wF N8 ?wJ ?turn)
    case wF => k_asm
    case wJ =>
      k_extra "mine flat"
      refine' (Mine.ex7 [] _ [] ks r0 _ _ ⟨rfl, ?g1, ?g2, .nil, rfl, rfl, sv0, ?g3, ?g4⟩)
      case g1 => k_extra "mine subs"
      case g2 => k_extra "mine off"
      case g3 =>
        refine' Mine.ValIn.mono ?s ?c
        case c => with_reducible assumption
        case s => k_extra "mine subs"
      case g4 =>
        refine' Mine.shV_init ?_
        first | rfl | (with_unfolding_all rfl)
    case turn =>
      intro n1 m₁ news₁ h₁ tk₁ F₁ N₁ hJ
      (k_dflt (refine' Mine.exe7 (hJ) ?_); intro vs ms ks1 ks2 r v imm hz9; k_dflt (refine' Mine.ane9 hz9 ?_); clear hz9; intro er0 hb hof hi ht er5 hsv hv er8; subst er0; subst er5; subst er8; clear hJ)
      have hlen := ints_len hi
      have htl : ks.length = ks1.length + ks2.length := by rw [ht, List.length_append]
      cases hsv with
      | nil =>
        (k_dflt (refine' Mine.exe6 (Mine.ValIn.con0_inv hv) ?_); intro a9 li9 t91 t92 n91 n92 hz9; k_dflt (refine' Mine.ane3 hz9 ?_); clear hz9; intro er0 m91 m92; subst er0)
        k_steps
        all_goals (
          refine' ret _ _ _ _ ?eF ?eN (Mine.ex4 _ _ _ _ ⟨rfl, rfl, hb, ?g⟩)
          case eF => k_asm
          case eN => k_asm
          case g => rw [ht, List.append_nil]; exact hi)
      | cons ev1 st1 =>
        (k_dflt (refine' Mine.exe13 (Mine.ValIn.con2_inv hv) ?_); intro a9 li9 t91 t92 n91 n92 p9 q9 x9 y9 ev9 n93 n94 hz9; k_dflt (refine' Mine.ane8 hz9 ?_); clear hz9; intro er0 m91 m92 m93 m94 c91 c92 ce9; subst er0)
        obtain ⟨r2, ev2, sv2⟩ := st1.sv
        have S1 := value_ok prog w ev1
        have S2 := value_ok prog w ev2
        simp only [List.length_cons] at htl
        k_steps
        refine Mine.Hold.mk ?_
        k_extra "mine flat"
        refine' Mine.WStep.next ?wF ?wN ?wl (Mine.ex7 _ _ _ _ _ _ _ ⟨rfl, ?g1, ?g2, ints_snoc hi, ?g3, rfl, sv2, ?g4, ?g5⟩)
        case wF => k_asm
        case wN =>
          refine' Mine.news_M1 (p := (_, listO _ _)) ?n1 ?n2
          case n1 => k_asm
          case n2 => k_extra "mine drop"
        case wl => simp only [List.length_cons]; omega
        case g1 => k_extra "mine subs"
        case g2 => k_extra "mine off"
        case g3 => rw [ht]; simp
        case g4 => with_reducible assumption
        case g5 => exact Mine.shV_step
end Mine
end
section
open PySem PySem.W PyProof.Rows PySem.Spec PySem.Calls
set_option genSizeOf false
namespace Mine
inductive PatT (news : Led) : Addr → Pat → Prop where
  | any {a t n} : (a, tupO [.str "any" t] n) ∈ news → PatT news a .any
  | var {a x t u n} : (a, tupO [.str "var" t, .str x u] n) ∈ news → PatT news a (.var x)
  | lit {a t u n} : (a, tupO [.str "lit" t, .int 1 u] n) ∈ news → PatT news a .lit
  | pairN {a x t u n} : (a, tupO [.str "pair" t, .str x u, .none] n) ∈ news → PatT news a (.pairN x)
  | pairL {a x t u v n} : (a, tupO [.str "pair" t, .str x u, .int 1 v] n) ∈ news → PatT news a (.pairL x)
inductive RowT (news : Led) : Addr → Row → Prop where
  | draw {a pa l p its vs nl n t} : (a, tupO [.str "draw" t, .ref pa, .ref l] n) ∈ news → PatT news pa p → (l, listO vs nl) ∈ news → Its news vs its → vs.length ≤ 2 → RowT news a (.draw p its)
  | cond {a l ns k vs nl n t u} : (a, tupO [.str "if" t, .ref l, .int k u] n) ∈ news → (l, listO vs nl) ∈ news → Strs vs ns → RowT news a (.cond ns k)
  | bnd {a l x ns k vs nl n t u v} : (a, tupO [.str "let" t, .str x u, .ref l, .int k v] n) ∈ news → (l, listO vs nl) ∈ news → Strs vs ns → RowT news a (.bnd x ns k)
inductive RowsT (news : Led) : List Value → List Row → Prop where
  | nil : RowsT news [] []
  | cons {a r vs rs} : RowT news a r → RowsT news vs rs → RowsT news (.ref a :: vs) (r :: rs)
theorem PatT.mono {l l' : Led} (hs : ∀ q ∈ l, q ∈ l') {a : Addr} {p : Pat} (h : PatT l a p) : PatT l' a p := by
  cases h with
  | any a => exact .any (hs _ a)
  | var a => exact .var (hs _ a)
  | lit a => exact .lit (hs _ a)
  | pairN a => exact .pairN (hs _ a)
  | pairL a => exact .pairL (hs _ a)
theorem RowT.mono {l l' : Led} (hs : ∀ q ∈ l, q ∈ l') {a : Addr} {r : Row} (h : RowT l a r) : RowT l' a r := by
  cases h with
  | draw a b c d e => exact .draw (hs _ a) (b.mono hs) (hs _ c) (d.mono hs) e
  | cond a b c => exact .cond (hs _ a) (hs _ b) c
  | bnd a b c => exact .bnd (hs _ a) (hs _ b) c
theorem RowsT.mono {l l' : Led} (hs : ∀ q ∈ l, q ∈ l') {vs : List Value} {rs : List Row} (h : RowsT l vs rs) : RowsT l' vs rs := by
  induction h with
  | nil => exact .nil
  | cons a _ ih => exact .cons (a.mono hs) ih
theorem RowsT.len {l : Led} {vs : List Value} {rs : List Row} (h : RowsT l vs rs) : vs.length = rs.length := by
  induction h with
  | nil => rfl
  | cons _ _ ih => simp [ih]
noncomputable def KnownD (kvs : List (Str × Value)) (dom : List Str) (kn : Kn) : Prop := ∀ x ∈ dom, ∃ t, valueAt kvs x = some (.int (lookK kn x) t)
theorem KnownD.set {kvs : List (Str × Value)} {dom : List Str} {kn : Kn} {x : Str} {k : Int} {t : Tok} (h : KnownD kvs dom kn) : KnownD (stored kvs x (.int k t)) (x :: dom) ((x, k) :: kn) := fun y hy => by
  rw [valueAt_stored]
  by_cases e : y = x
  · subst e; exact ⟨t, by simp [lookK]⟩
  · obtain ⟨u, hu⟩ := h y ((List.mem_cons.mp hy).resolve_left e)
    exact ⟨u, by simpa [lookK, e] using hu⟩
theorem Strs.three {vs : List Value} {xs : List Str} (h : Strs vs xs) (k : vs.length ≤ 3) : (vs = [] ∧ xs = []) ∨ (∃ x t, vs = [.str x t] ∧ xs = [x]) ∨ (∃ x t y u, vs = [.str x t, .str y u] ∧ xs = [x, y]) ∨ (∃ x t y u z v, vs = [.str x t, .str y u, .str z v] ∧ xs = [x, y, z]) := by
  cases h with
  | nil => exact .inl ⟨rfl, rfl⟩
  | cons h =>
    cases h with
    | nil => exact .inr (.inl ⟨_, _, rfl, rfl⟩)
    | cons h =>
      cases h with
      | nil => exact .inr (.inr (.inl ⟨_, _, _, _, rfl, rfl⟩))
      | cons h =>
        cases h with
        | nil => exact .inr (.inr (.inr ⟨_, _, _, _, _, _, rfl, rfl⟩))
        | cons h => simp at k
section
variable {prog : Program} {w : World} {A : Around} {E : Value → Shared → Prop} {s : Shared} {h₀ : Heap} {L : Addr} {m : Str → Option Value} {news : Led}
theorem dict_copy {d : Addr} {o : Obj} {kvs : List (Str × Value)} {Q : Value → Shared → Prop} (F : Fr h₀ L s.heap m) (N : News h₀ L s.heap news) (hbig : h₀.NoLimit) (hp : (d, o) ∈ news) (lo : (d == sysModules) = false) (hd : o.IsDictOf (strKind prog w) kvs) (hsz : kvs.length ≤ 100)
    (k : ∀ d' h' o', Fr h₀ L h' m → News h₀ L h' ((d', o') :: news) → (∀ p ∈ news, p.1 < d') → (d' == sysModules) = false → o'.IsDictOf (strKind prog w) kvs → Q (.ref d') { s with heap := h' }) :
    wpAny (model prog w) A (call (.type "dict") [.ref d]) Q E s := by
  refine kt_call_dict lo (Heap.dictOf_iff.mpr ⟨o, (N _ hp).1, hd⟩) (by rw [sizeLine_eq]; omega) fun h' hm hs => ?_
  obtain ⟨o', ho', hd'⟩ := Heap.dictOf_iff.mp hm
  have N1 := News.push F N { cls := .type "dict", data := .dict #[] }
  exact k _ h' o' ((F.push _).change hs (N1 _ (.head _)).2.1 (N1.fresh (.head _))) (N1.setHead N.apart hs ho') (fun p hp => Heap.lt_size (N p hp).1) (F.notModules (modules_low hbig)) hd'
theorem upd_dict {fd md : Addr} {o om : Obj} {kvs more : List (Str × Value)} {g : Obj → Led} {Q : Value → Shared → Prop} (F : Fr h₀ L s.heap m) (N : News h₀ L s.heap news) (U : UpdF fd o news g) (hd : o.IsDictOf (strKind prog w) kvs) (hm : (md, om) ∈ news) (hmd : om.IsDictOf (strKind prog w) more) (lo : (md == sysModules) = false) (hne : fd ≠ md) (hz : kvs.length + more.length ≤ 1000)
    (h : ∀ h' o', Fr h₀ L h' m → News h₀ L h' (g o') → o'.IsDictOf (strKind prog w) (PySem.merged kvs more) → Q .none { s with heap := h' }) : wpAny (model prog w) A (call (.builtin "dict.update") [.ref fd, .ref md]) Q E s := by
  obtain ⟨own, rest, rfl, hg, h1, h2⟩ := U.split
  have hmem := N (fd, o) (List.mem_append_right _ (.head _))
  have hD : s.heap.DictOf (strKind prog w) fd kvs := Heap.dictOf_iff.mpr ⟨o, hmem.1, hd⟩
  have hM : s.heap.DictOf (strKind prog w) md more := Heap.dictOf_iff.mpr ⟨om, (N _ hm).1, hmd⟩
  refine call_meetsIn PySem.F.slot_dict_update hD.typeIs PySem.F.entry_dict_update (PySem.F.args_dict_update_2 _ _) (meets_dict_update (strKind prog w) fd md hne lo)
    ⟨kvs, more, hD, hM, (by rw [sizeLine_eq]; omega), fun h' hmm _ hs => ?_⟩
  obtain ⟨o', ho', hd'⟩ := Heap.dictOf_iff.mp hmm
  exact h h' o' (F.change hs hmem.2.1 hmem.2.2) (hg o' ▸ N.setIn h1 h2 hs ho') hd'
end
theorem ne_memL {D l : Addr} {o : Obj} {R : Led} (h : ∀ p ∈ R, @LT.lt Nat _ p.1 D) (m : (l, o) ∈ R) : D ≠ l := Nat.ne_of_gt (h _ m)
theorem ne_memA {D l : Addr} {o : Obj} {R : Led} (h : AllLt D R) (m : (l, o) ∈ R) : D ≠ l := Nat.ne_of_gt (lt_all h _ m)
theorem Strs.len {vs : List Value} {xs : List Str} (h : Strs vs xs) : vs.length = xs.length := by
  induction h with
  | nil => rfl
  | cons _ ih => simp [ih]
section
variable {prog : Program} {w : World} {A : Around} {E : Value → Shared → Prop} {s : Shared} {h₀ : Heap} {L : Addr} {news : Led}
theorem known_item {value slice : PySem.Expr} {d : Addr} {o : Obj} {kvs : List (Str × Value)} {dom : List Str} {kn : Kn} {x : Str} {t : Tok} {Q : Value → Shared → Prop} (N : News h₀ L s.heap news) (hp : (d, o) ∈ news) (lo : (d == sysModules) = false) (hd : o.IsDictOf (strKind prog w) kvs) (hk : KnownD kvs dom kn) (hx : x ∈ dom)
    (h : ∀ u, Q (.int (lookK kn x) u) { s with toks := s.toks + 1 }) (hs : subscripted slice false (.ref d) (.str x t) = operate [.ref d, .str x t] (getItem (.ref d) (.str x t)) := by with_unfolding_all rfl) (hg : ∀ r, letTemporaryGo value (.ref d) r = pure () := by intro _; with_unfolding_all rfl) :
    wpAny (model prog w) A (subscriptTail value slice (.ref d) (.str x t)) Q E s := by
  obtain ⟨u, hu⟩ := hk x hx
  exact kda_item (knd := PySem.strKind _ _) N hp hd (strKind_is _ _ _ _) hu (h u) hs hg
end
noncomputable def DictK (mk : List (Str × Value)) (t : Kn) : Prop := (mk = [] ∧ t = []) ∨ ∃ x k tk, mk = [(x, .int k tk)] ∧ t = [(x, k)]
noncomputable def TakenPost (prog : Program) (w : World) (r : Option Kn) (imm : Led) (v : Value) (news' : Led) : Prop :=
  ∃ tl, Pre news' tl imm ∧ Above tl imm ∧ match r with
    | none => v = .none
    | some t => ∃ d o mk, v = .ref d ∧ (d, o) ∈ tl ∧ (d == sysModules) = false ∧ o.IsDictOf (strKind prog w) mk ∧ DictK mk t
end Mine
end
section
open PySem PySem.W PyProof.Rows PySem.Spec PySem.Calls
set_option maxHeartbeats 2000000
namespace Mine
theorem with_ok (prog : Program) (w : World) (imm : Led) (kd md : Addr) (ok om : Obj) (kvs more : List (Str × Value)) (m1 : (kd, ok) ∈ imm) (m2 : (md, om) ∈ imm) (lo1 : (kd == sysModules) = false) (lo2 : (md == sysModules) = false) (hk1 : ok.IsDictOf (strKind prog w) kvs) (hm1 : om.IsDictOf (strKind prog w) more) (hz1 : kvs.length ≤ 100) (hz2 : more.length ≤ 10) :
  Spec prog w 1266 [.ref kd, .ref md] 20 300 imm (fun v news' => ∃ d o tl, v = .ref d ∧ Pre news' tl imm ∧ Above tl imm ∧ (d, o) ∈ tl ∧ (d == sysModules) = false ∧ o.IsDictOf (strKind prog w) (PySem.merged kvs more)) := by
  have tg0 : True := True.intro; have tg30 : True := True.intro; have tg35 : True := True.intro; have tg4 : True := True.intro; have tg40 : True := True.intro
  intro p loose mean mg mb dp un gd cn cs ca ccd cl outer A₀ base h₀ L m s Q E B F X N T hk hd hu ret
  k_dflt first | k_extra "mine enter" | k_extra "mine enterC"
  k_steps
  all_goals (
    k_extra "mine flat"
    refine' ret _ _ _ _ ?eF ?eN (Mine.ex3 _ _ _ ⟨rfl, ?gp, ?gab, ?gm, ?gl, ?gd⟩)
    case eF => k_asm
    case eN => k_asm
    case gp => k_extra "mine pre"
    case gab => k_extra "mine above"
    case gm => k_mem
    case gl => k_asm
    case gd => with_reducible assumption)
end Mine
end
section
open PySem PySem.W PyProof.Rows PySem.Spec PySem.Calls
set_option maxHeartbeats 2000000
namespace Mine
theorem taken_any (prog : Program) (w : World) (imm : Led) (pa : Addr) (item : Value) (i : It) (hp : PatT imm pa .any) : Spec prog w 1318 [.ref pa, item] 20 300 imm (TakenPost prog w (takenBy .any i) imm) := by
  have tg0 : True := True.intro; have tg30 : True := True.intro; have tg35 : True := True.intro; have tg4 : True := True.intro; have tg40 : True := True.intro
  intro p loose mean mg mb dp un gd cn cs ca ccd cl outer A₀ base h₀ L m s Q E B F X N T hk hd hu ret
  cases hp with | any m1 =>
  k_dflt first | k_extra "mine enter" | k_extra "mine enterC"
  k_steps
  all_goals (
    k_extra "mine flat"
    refine' ret _ _ _ _ ?eF ?eN ⟨_, ?gp, ?gab, ?gs⟩
    case eF => k_asm
    case eN => k_asm
    case gp => k_extra "mine pre"
    case gab => k_extra "mine above"
    case gs => exact (Mine.ex3 _ _ _ ⟨rfl, by k_mem, by k_asm, by with_reducible assumption, .inl ⟨rfl, rfl⟩⟩))
end Mine
end
section
open PySem PySem.W PyProof.Rows PySem.Spec PySem.Calls
set_option maxHeartbeats 2000000
namespace Mine
theorem taken_var (prog : Program) (w : World) (imm : Led) (pa : Addr) (x : Str) (k : Int) (tk : Tok) (hp : PatT imm pa (.var x)) : Spec prog w 1318 [.ref pa, .int k tk] 20 300 imm (TakenPost prog w (takenBy (.var x) (.one k)) imm) := by
  have tg0 : True := True.intro; have tg30 : True := True.intro; have tg35 : True := True.intro; have tg4 : True := True.intro; have tg40 : True := True.intro
  intro p loose mean mg mb dp un gd cn cs ca ccd cl outer A₀ base h₀ L m s Q E B F X N T hk hd hu ret
  cases hp with | var m1 =>
  k_dflt first | k_extra "mine enter" | k_extra "mine enterC"
  k_steps
  all_goals (
    k_extra "mine flat"
    refine' ret _ _ _ _ ?eF ?eN ⟨_, ?gp, ?gab, ?gs⟩
    case eF => k_asm
    case eN => k_asm
    case gp => k_extra "mine pre"
    case gab => k_extra "mine above"
    case gs => exact (Mine.ex3 _ _ _ ⟨rfl, by k_mem, by k_asm, by k_asm, .inr (Mine.ex3 _ _ _ ⟨rfl, rfl⟩)⟩))
end Mine
end
section
open PySem PySem.W PyProof.Rows PySem.Spec PySem.Calls
set_option maxHeartbeats 2000000
namespace Mine
theorem taken_litT (prog : Program) (w : World) (imm : Led) (pa : Addr) (tk : Tok) (hp : PatT imm pa .lit) : Spec prog w 1318 [.ref pa, .int 1 tk] 20 300 imm (TakenPost prog w (takenBy .lit (.one 1)) imm) := by
  have tg0 : True := True.intro; have tg30 : True := True.intro; have tg35 : True := True.intro; have tg4 : True := True.intro; have tg40 : True := True.intro
  intro p loose mean mg mb dp un gd cn cs ca ccd cl outer A₀ base h₀ L m s Q E B F X N T hk hd hu ret
  cases hp with | lit m1 =>
  k_dflt first | k_extra "mine enter" | k_extra "mine enterC"
  k_steps
  all_goals (
    k_extra "mine flat"
    refine' ret _ _ _ _ ?eF ?eN ⟨_, ?gp, ?gab, ?gs⟩
    case eF => k_asm
    case eN => k_asm
    case gp => k_extra "mine pre"
    case gab => k_extra "mine above"
    case gs => (simp only [takenBy, if_true]; exact (Mine.ex3 _ _ _ ⟨rfl, by k_mem, by k_asm, by with_reducible assumption, .inl ⟨rfl, rfl⟩⟩)))
end Mine
end
section
open PySem PySem.W PyProof.Rows PySem.Spec PySem.Calls
set_option maxHeartbeats 2000000
namespace Mine
theorem taken_litF (prog : Program) (w : World) (imm : Led) (pa : Addr) (k : Int) (tk : Tok) (hne : k ≠ 1) (hp : PatT imm pa .lit) : Spec prog w 1318 [.ref pa, .int k tk] 20 300 imm (TakenPost prog w (takenBy .lit (.one k)) imm) := by
  have tg0 : True := True.intro; have tg30 : True := True.intro; have tg35 : True := True.intro; have tg4 : True := True.intro; have tg40 : True := True.intro
  intro p loose mean mg mb dp un gd cn cs ca ccd cl outer A₀ base h₀ L m s Q E B F X N T hk hd hu ret
  cases hp with | lit m1 =>
  k_dflt first | k_extra "mine enter" | k_extra "mine enterC"
  k_steps
  all_goals (
    k_extra "mine flat"
    refine' ret _ _ _ _ ?eF ?eN ⟨_, ?gp, ?gab, ?gs⟩
    case eF => k_asm
    case eN => k_asm
    case gp => k_extra "mine pre"
    case gab => k_extra "mine above"
    case gs => simp only [takenBy, if_neg hne])
end Mine
end
section
open PySem PySem.W PyProof.Rows PySem.Spec PySem.Calls
set_option maxHeartbeats 2000000
namespace Mine
theorem taken_pairN (prog : Program) (w : World) (imm : Led) (pa : Addr) (x : Str) (q : Addr) (a b : Int) (ta tb : Tok) (nq : Nat) (mq : (q, tupO [.int a ta, .int b tb] nq) ∈ imm) (hp : PatT imm pa (.pairN x)) : Spec prog w 1318 [.ref pa, .ref q] 20 300 imm (TakenPost prog w (takenBy (.pairN x) (.two a b)) imm) := by
  have tg0 : True := True.intro; have tg30 : True := True.intro; have tg35 : True := True.intro; have tg4 : True := True.intro; have tg40 : True := True.intro
  intro p loose mean mg mb dp un gd cn cs ca ccd cl outer A₀ base h₀ L m s Q E B F X N T hk hd hu ret
  cases hp with | pairN m1 =>
  k_dflt first | k_extra "mine enter" | k_extra "mine enterC"
  k_steps
  all_goals (
    k_extra "mine flat"
    refine' ret _ _ _ _ ?eF ?eN ⟨_, ?gp, ?gab, ?gs⟩
    case eF => k_asm
    case eN => k_asm
    case gp => k_extra "mine pre"
    case gab => k_extra "mine above"
    case gs => exact (Mine.ex3 _ _ _ ⟨rfl, by k_mem, by k_asm, by k_asm, .inr (Mine.ex3 _ _ _ ⟨rfl, rfl⟩)⟩))
end Mine
end
section
open PySem PySem.W PyProof.Rows PySem.Spec PySem.Calls
set_option maxHeartbeats 2000000
namespace Mine
theorem taken_pairT (prog : Program) (w : World) (imm : Led) (pa : Addr) (x : Str) (q : Addr) (a : Int) (ta tb : Tok) (nq : Nat) (mq : (q, tupO [.int a ta, .int 1 tb] nq) ∈ imm) (hp : PatT imm pa (.pairL x)) : Spec prog w 1318 [.ref pa, .ref q] 20 300 imm (TakenPost prog w (takenBy (.pairL x) (.two a 1)) imm) := by
  have tg0 : True := True.intro; have tg30 : True := True.intro; have tg35 : True := True.intro; have tg4 : True := True.intro; have tg40 : True := True.intro
  intro p loose mean mg mb dp un gd cn cs ca ccd cl outer A₀ base h₀ L m s Q E B F X N T hk hd hu ret
  cases hp with | pairL m1 =>
  k_dflt first | k_extra "mine enter" | k_extra "mine enterC"
  k_steps
  all_goals (
    k_extra "mine flat"
    refine' ret _ _ _ _ ?eF ?eN ⟨_, ?gp, ?gab, ?gs⟩
    case eF => k_asm
    case eN => k_asm
    case gp => k_extra "mine pre"
    case gab => k_extra "mine above"
    case gs => (simp only [takenBy, if_true]; exact (Mine.ex3 _ _ _ ⟨rfl, by k_mem, by k_asm, by k_asm, .inr (Mine.ex3 _ _ _ ⟨rfl, rfl⟩)⟩)))
end Mine
end
section
open PySem PySem.W PyProof.Rows PySem.Spec PySem.Calls
set_option maxHeartbeats 2000000
namespace Mine
theorem taken_pairF (prog : Program) (w : World) (imm : Led) (pa : Addr) (x : Str) (q : Addr) (a b : Int) (ta tb : Tok) (nq : Nat) (mq : (q, tupO [.int a ta, .int b tb] nq) ∈ imm) (hne : b ≠ 1) (hp : PatT imm pa (.pairL x)) : Spec prog w 1318 [.ref pa, .ref q] 20 300 imm (TakenPost prog w (takenBy (.pairL x) (.two a b)) imm) := by
  have tg0 : True := True.intro; have tg30 : True := True.intro; have tg35 : True := True.intro; have tg4 : True := True.intro; have tg40 : True := True.intro
  intro p loose mean mg mb dp un gd cn cs ca ccd cl outer A₀ base h₀ L m s Q E B F X N T hk hd hu ret
  cases hp with | pairL m1 =>
  k_dflt first | k_extra "mine enter" | k_extra "mine enterC"
  k_steps
  all_goals (
    k_extra "mine flat"
    refine' ret _ _ _ _ ?eF ?eN ⟨_, ?gp, ?gab, ?gs⟩
    case eF => k_asm
    case eN => k_asm
    case gp => k_extra "mine pre"
    case gab => k_extra "mine above"
    case gs => simp only [takenBy, if_neg hne])
end Mine
end
section
open PySem PySem.W PyProof.Rows PySem.Spec PySem.Calls
set_option maxHeartbeats 2000000
namespace Mine
theorem pany_ok (prog : Program) (w : World) (pa : Addr) (news : Led) (hp : PatT news pa (.any)) :
  Spec prog w 1304 [.ref pa] 20 200 news (fun v news' => ∃ a tl, v = .ref a ∧ Pre news' tl news ∧ PatIn w tl a (.any) ∧ Above tl news) := by
  have tg0 : True := True.intro; have tg30 : True := True.intro; have tg4 : True := True.intro; have tg40 : True := True.intro
  intro p loose mean mg mb dp un gd cn cs ca ccd cl outer A₀ base h₀ L m s Q E B F X N T hk hd hu ret
  cases hp with | any m1 =>
  k_dflt first | k_extra "mine enter" | k_extra "mine enterC"
  k_steps
  all_goals (
    k_extra "mine flat"
    refine' ret _ _ _ _ ?eF ?eN (Mine.ex2 _ _ ⟨rfl, ?gp, ?gc, ?gab⟩)
    case eF => k_asm
    case eN => k_asm
    case gp => k_extra "mine pre"
    case gab => k_extra "mine above"
    case gc => exact .any (.mk (by k_mem) (by k_mem)))
end Mine
end
section
open PySem PySem.W PyProof.Rows PySem.Spec PySem.Calls
set_option maxHeartbeats 2000000
namespace Mine
theorem pvar_ok (prog : Program) (w : World) (pa : Addr) (x : Str) (news : Led) (hp : PatT news pa (.var x)) :
  Spec prog w 1304 [.ref pa] 20 200 news (fun v news' => ∃ a tl, v = .ref a ∧ Pre news' tl news ∧ PatIn w tl a (.var x) ∧ Above tl news) := by
  have tg0 : True := True.intro; have tg30 : True := True.intro; have tg4 : True := True.intro; have tg40 : True := True.intro
  intro p loose mean mg mb dp un gd cn cs ca ccd cl outer A₀ base h₀ L m s Q E B F X N T hk hd hu ret
  cases hp with | var m1 =>
  k_dflt first | k_extra "mine enter" | k_extra "mine enterC"
  k_steps
  all_goals (
    k_extra "mine flat"
    refine' ret _ _ _ _ ?eF ?eN (Mine.ex2 _ _ ⟨rfl, ?gp, ?gc, ?gab⟩)
    case eF => k_asm
    case eN => k_asm
    case gp => k_extra "mine pre"
    case gab => k_extra "mine above"
    case gc => exact .var (.mk (by k_mem) (by k_mem)))
end Mine
end
section
open PySem PySem.W PyProof.Rows PySem.Spec PySem.Calls
set_option maxHeartbeats 2000000
namespace Mine
theorem plit_ok (prog : Program) (w : World) (pa : Addr) (news : Led) (hp : PatT news pa (.lit)) :
  Spec prog w 1304 [.ref pa] 20 200 news (fun v news' => ∃ a tl, v = .ref a ∧ Pre news' tl news ∧ PatIn w tl a (.lit) ∧ Above tl news) := by
  have tg0 : True := True.intro; have tg30 : True := True.intro; have tg4 : True := True.intro; have tg40 : True := True.intro
  intro p loose mean mg mb dp un gd cn cs ca ccd cl outer A₀ base h₀ L m s Q E B F X N T hk hd hu ret
  cases hp with | lit m1 =>
  k_dflt first | k_extra "mine enter" | k_extra "mine enterC"
  k_steps
  all_goals (
    k_extra "mine flat"
    refine' ret _ _ _ _ ?eF ?eN (Mine.ex2 _ _ ⟨rfl, ?gp, ?gc, ?gab⟩)
    case eF => k_asm
    case eN => k_asm
    case gp => k_extra "mine pre"
    case gab => k_extra "mine above"
    case gc => exact .lit (.mk (by k_mem) (by k_mem)))
end Mine
end
section
open PySem PySem.W PyProof.Rows PySem.Spec PySem.Calls
set_option maxHeartbeats 2000000
namespace Mine
theorem ppairN_ok (prog : Program) (w : World) (pa : Addr) (x : Str) (news : Led) (hp : PatT news pa (.pairN x)) :
  Spec prog w 1304 [.ref pa] 20 200 news (fun v news' => ∃ a tl, v = .ref a ∧ Pre news' tl news ∧ PatIn w tl a (.pairN x) ∧ Above tl news) := by
  have tg0 : True := True.intro; have tg30 : True := True.intro; have tg4 : True := True.intro; have tg40 : True := True.intro
  intro p loose mean mg mb dp un gd cn cs ca ccd cl outer A₀ base h₀ L m s Q E B F X N T hk hd hu ret
  cases hp with | pairN m1 =>
  k_dflt first | k_extra "mine enter" | k_extra "mine enterC"
  k_steps
  all_goals (
    k_extra "mine flat"
    refine' ret _ _ _ _ ?eF ?eN (Mine.ex2 _ _ ⟨rfl, ?gp, ?gc, ?gab⟩)
    case eF => k_asm
    case eN => k_asm
    case gp => k_extra "mine pre"
    case gab => k_extra "mine above"
    case gc => exact .pairN (by k_mem) (by k_mem) (by k_mem) (.mk (by k_mem) (by k_mem)) (.mk (by k_mem) (by k_mem)))
end Mine
end
section
open PySem PySem.W PyProof.Rows PySem.Spec PySem.Calls
set_option maxHeartbeats 2000000
namespace Mine
theorem ppairL_ok (prog : Program) (w : World) (pa : Addr) (x : Str) (news : Led) (hp : PatT news pa (.pairL x)) :
  Spec prog w 1304 [.ref pa] 20 200 news (fun v news' => ∃ a tl, v = .ref a ∧ Pre news' tl news ∧ PatIn w tl a (.pairL x) ∧ Above tl news) := by
  have tg0 : True := True.intro; have tg30 : True := True.intro; have tg4 : True := True.intro; have tg40 : True := True.intro
  intro p loose mean mg mb dp un gd cn cs ca ccd cl outer A₀ base h₀ L m s Q E B F X N T hk hd hu ret
  cases hp with | pairL m1 =>
  k_dflt first | k_extra "mine enter" | k_extra "mine enterC"
  k_steps
  all_goals (
    k_extra "mine flat"
    refine' ret _ _ _ _ ?eF ?eN (Mine.ex2 _ _ ⟨rfl, ?gp, ?gc, ?gab⟩)
    case eF => k_asm
    case eN => k_asm
    case gp => k_extra "mine pre"
    case gab => k_extra "mine above"
    case gc => exact .pairL (by k_mem) (by k_mem) (by k_mem) (.mk (by k_mem) (by k_mem)) (.mk (by k_mem) (by k_mem)))
end Mine
end
section
open PySem PySem.W PyProof.Rows PySem.Spec PySem.Calls
namespace Mine
theorem taken_ok (prog : Program) (w : World) (imm : Led) (pa : Addr) (p : Pat) {v : Value} {it : It} {vs : List Value} {is : List It} (h : Its imm (v :: vs) (it :: is)) (hf : fits p it) (hp : PatT imm pa p) :
    Spec prog w 1318 [.ref pa, v] 20 300 imm (TakenPost prog w (takenBy p it) imm) := by
  cases p with
  | any => exact taken_any prog w imm pa v it hp
  | var x =>
    cases h with
    | one h => exact taken_var prog w imm pa x _ _ hp
    | two m h => exact absurd hf (by simp [fits])
  | lit =>
    cases h with
    | @one k _ _ _ h =>
      by_cases e : k = 1
      · subst e; exact taken_litT prog w imm pa _ hp
      · exact taken_litF prog w imm pa _ _ e hp
    | two m h => exact absurd hf (by simp [fits])
  | pairN x =>
    cases h with
    | one h => exact absurd hf (by simp [fits])
    | two m h => exact taken_pairN prog w imm pa x _ _ _ _ _ _ m hp
  | pairL x =>
    cases h with
    | one h => exact absurd hf (by simp [fits])
    | @two a b _ _ _ _ _ _ m h =>
      by_cases e : b = 1
      · subst e; exact taken_pairT prog w imm pa x _ _ _ _ _ m hp
      · exact taken_pairF prog w imm pa x _ _ _ _ _ _ m e hp
noncomputable def LoopsSpec (prog : Program) (w : World) (wanted : List Str) (rs : List Row) : Prop :=
  ∀ (imm : Led) (l : Addr) (vs : List Value) (ms : Nat) (ra kd wl : Addr) (ok : Obj) (kvs : List (Str × Value)) (dom : List Str) (kn : Kn) (rv rvs pre wv : List Value) (nr nw : Nat) (at' : Int) (t : Tok),
    (∀ q ∈ imm, q.1 ≠ l) → vs.length + (loops wanted rs kn).length ≤ 500 → (ra, listO rv nr) ∈ imm → rv = pre ++ rvs → at' = pre.length → RowsT imm rvs rs → pre.length + rs.length ≤ 10 →
    (kd, ok) ∈ imm → (kd == sysModules) = false → ok.IsDictOf (strKind prog w) kvs → kvs.length + rs.length ≤ 20 → KnownD kvs dom kn → WF wanted rs dom → (wl, listO wv nw) ∈ imm → Strs wv wanted → wanted.length ≤ 3 →
    Spec prog w 1323 [.ref ra, .int at' t, .ref kd, .ref wl, .ref l] (60 + 20 * rs.length) (600 + 200 * rs.length) ((l, listO vs ms) :: imm)
      (fun v news' => ∃ vs' ms' tl r, v = .none ∧ news' = (l, listO (vs ++ vs') ms') :: r ∧ Pre r tl imm ∧ Above tl ((l, listO vs ms) :: imm) ∧ IntsAre vs' (loops wanted rs kn))
end Mine
end
section
open PySem PySem.W PyProof.Rows PySem.Spec PySem.Calls
namespace Mine
section
variable {prog : Program} {w : World} {A : Around} {E : Value → Shared → Prop} {s : Shared} {h₀ : Heap} {L : Addr} {m : Str → Option Value} {env : PySem.Env} {ct elt : PySem.Expr} {x : Str} {scope : Scope} {cl : List (Str × Addr)} {S : Led → Prop} {Fin : List Value → Led → Prop}
theorem compT_inv {vs : List Value} (J : List Value → List Value → Led → Prop)
    (step : ∀ v r ys news I oI C oC D m₂ h tk (E' : Value → Shared → Prop), J (v :: r) ys news → LCg.NsObj oC m₂ → m₂ x = some v → Fr h₀ L h m → News h₀ L h ((I, oI) :: (C, oC) :: (D, LCg.lst ys) :: news) → LCg.Off3 I C D news → ((@Ne Nat I C) ∧ (@Ne Nat I D) ∧ (@Ne Nat C D)) →
      wpAny (model prog w) A (isTrue ct (compEnvC scope cl C env) (eval ct (compEnvC scope cl C env))) (fun ok s' => if ok = true then
        wpAny (model prog w) A (eval elt (compEnvC scope cl C env)) (LCg.CompEnd h₀ L m { s with heap := h, toks := tk } I oI C oC D (LCg.lst ys) S (fun y news' => J r (ys ++ [y]) news')) E' s'
        else LCg.CompEnd h₀ L m { s with heap := h, toks := tk } I oI C oC D (LCg.lst ys) S (fun _ news' => J r ys news') Value.none s') E' { s with heap := h, toks := tk })
    (fin : ∀ ys news, J [] ys news → Fin ys news) :
    ∀ k i ys news, i + k = vs.length → J (vs.drop i) ys news → LCt.CompRestT prog w A h₀ L m env ct elt x scope cl s S (fun i v => vs.toArray[i]? = some v) Fin k i ys news := by
  intro k
  induction k with
  | zero =>
    intro i ys news hi hJ
    have : vs.drop i = [] := List.drop_eq_nil_of_le (by omega)
    rw [this] at hJ
    exact LCt.CompRestT.zero (fin ys news hJ)
  | succ k ih =>
    intro i ys news hi hJ
    refine LCt.CompRestT.succ ?_
    intro v I oI C oC D m₂ h tk E' hv hC hx F N off ne
    have hlt : i < vs.length := by omega
    have hd : vs.drop i = v :: vs.drop (i + 1) := by
      have hv' : vs[i]? = some v := by simpa using hv
      rw [List.drop_eq_getElem_cons hlt]
      rw [List.getElem?_eq_getElem hlt] at hv'
      cases hv'
      rfl
    rw [hd] at hJ
    refine wpAny_mono (step v _ ys news I oI C oC D m₂ h tk E' hJ hC hx F N off ne) (fun ok s' hq => ?_) fun _ _ e => e
    cases ok with
    | true =>
      simp only [if_true] at hq ⊢
      refine wpAny_mono hq (fun y s₃ hr => ?_) fun _ _ e => e
      obtain ⟨h', tk', nw, e, F', N', off', hS, hj⟩ := hr
      exact ⟨h', tk', nw, e, F', N', off', hS, ih (i + 1) _ _ (by omega) hj⟩
    | false =>
      simp only [Bool.false_eq_true, if_false] at hq ⊢
      obtain ⟨h', tk', nw, e, F', N', off', hS, hj⟩ := hq
      exact ⟨h', tk', nw, e, F', N', off', hS, ih (i + 1) _ _ (by omega) hj⟩
theorem compU_inv {vs : List Value} (J : List Value → List Value → Led → Prop)
    (step : ∀ v r ys news I oI C oC D m₂ h tk (E' : Value → Shared → Prop), J (v :: r) ys news → LCg.NsObj oC m₂ → m₂ x = some v → Fr h₀ L h m → News h₀ L h ((I, oI) :: (C, oC) :: (D, LCg.lst ys) :: news) → LCg.Off3 I C D news → ((@Ne Nat I C) ∧ (@Ne Nat I D) ∧ (@Ne Nat C D)) →
        wpAny (model prog w) A (eval elt (compEnvC scope cl C env)) (LCg.CompEnd h₀ L m { s with heap := h, toks := tk } I oI C oC D (LCg.lst ys) S (fun y news' => J r (ys ++ [y]) news')) E' { s with heap := h, toks := tk })
    (fin : ∀ ys news, J [] ys news → Fin ys news) :
    ∀ k i ys news, i + k = vs.length → J (vs.drop i) ys news → LCg.CompRest prog w A h₀ L m env elt x scope cl s S (fun i v => vs.toArray[i]? = some v) Fin k i ys news := by
  intro k
  induction k with
  | zero =>
    intro i ys news hi hJ
    have : vs.drop i = [] := List.drop_eq_nil_of_le (by omega)
    rw [this] at hJ
    exact LCg.CompRest.zero (fin ys news hJ)
  | succ k ih =>
    intro i ys news hi hJ
    refine LCg.CompRest.succ ?_
    intro v I oI C oC D m₂ h tk E' hv hC hx F N off ne
    have hlt : i < vs.length := by omega
    have hd : vs.drop i = v :: vs.drop (i + 1) := by
      have hv' : vs[i]? = some v := by simpa using hv
      rw [List.drop_eq_getElem_cons hlt]
      rw [List.getElem?_eq_getElem hlt] at hv'
      cases hv'
      rfl
    rw [hd] at hJ
    refine wpAny_mono (step v _ ys news I oI C oC D m₂ h tk E' hJ hC hx F N off ne) (fun y s₃ hr => ?_) fun _ _ e => e
    obtain ⟨h', tk', nw, e, F', N', off', hS, hj⟩ := hr
    exact ⟨h', tk', nw, e, F', N', off', hS, ih (i + 1) _ _ (by omega) hj⟩
theorem range_inv {x : Str} {body : List PySem.Stmt} {Q : Flow → Shared → Prop} {I : Addr} {a : Int} {n : Nat} (J : Nat → (Str → Option Value) → Led → Prop)
    (step : ∀ i t m news h tk, i < n → J i m news → (∀ p ∈ news, p.1 ≠ I) → Fr h₀ env.locals h (fun y => if y = x then some (.int (a + (i : Int)) t) else m y) → News h₀ env.locals h ((I, itR (a + ((i + 1 : Nat) : Int)) ((n : Int) - ((i + 1 : Nat) : Int))) :: news) →
      wpAny (model prog w) A (execs body env) (UnrPost h₀ env.locals { s with heap := h, toks := tk } I (itR (a + ((i + 1 : Nat) : Int)) ((n : Int) - ((i + 1 : Nat) : Int))) (J (i + 1)) Q) E { s with heap := h, toks := tk })
    (fin : ∀ m news h tk, J n m news → Fr h₀ env.locals h m → News h₀ env.locals h news → Q .next { s with heap := h, toks := tk }) :
    ∀ k i m news, i + k = n → J i m news → (∀ p ∈ news, p.1 ≠ I) → RangeRest prog w A E h₀ env x body Q s I a n k i m news := by
  intro k
  induction k with
  | zero =>
    intro i m news hi hJ hof
    have : i = n := by omega
    subst this
    exact RangeRest.zero fun h tk F N => fin m news h tk hJ F N
  | succ k ih =>
    intro i m news hi hJ hof
    refine RangeRest.succ ?_
    intro t h tk F N
    refine wpAny_mono (step i t m news h tk (by omega) hJ hof F N) (fun f s' hq => ?_) fun _ _ e => e
    cases f with
    | ret v => exact hq
    | brk => exact hq
    | cont =>
      obtain ⟨h', tk', m', nw, e, F', N', off', hj⟩ := hq
      exact ⟨h', tk', m', nw, e, F', N', off', ih (i + 1) _ _ (by omega) hj off'⟩
    | next =>
      obtain ⟨h', tk', m', nw, e, F', N', off', hj⟩ := hq
      exact ⟨h', tk', m', nw, e, F', N', off', ih (i + 1) _ _ (by omega) hj off'⟩
theorem iter_range_inv {x : Str} {body : List PySem.Stmt} {Q : Flow → Shared → Prop} {r : Addr} {b₀ : Int} {t₀ u₀ v₀ : Tok} {m₀ : Str → Option Value} {news : Led} (J : Nat → (Str → Option Value) → Led → Prop) (n : Nat)
    (hh : A.handled = none) (hr : IsRange s.heap r 0 b₀ 1 t₀ u₀ v₀) (hb : b₀ = (n : Int)) (hn : n ≤ 1000) (F : Fr h₀ env.locals s.heap m₀) (N : News h₀ env.locals s.heap news) (h0 : J 0 m₀ news)
    (step : ∀ I : Addr, (∀ p ∈ news, p.1 < I) → ∀ i t m news h tk, i < n → J i m news → (∀ p ∈ news, p.1 ≠ I) → Fr h₀ env.locals h (fun y => if y = x then some (.int (0 + (i : Int)) t) else m y) → News h₀ env.locals h ((I, itR (0 + ((i + 1 : Nat) : Int)) ((n : Int) - ((i + 1 : Nat) : Int))) :: news) →
      wpAny (model prog w) A (execs body env) (UnrPost h₀ env.locals { s with heap := h, toks := tk } I (itR (0 + ((i + 1 : Nat) : Int)) ((n : Int) - ((i + 1 : Nat) : Int))) (J (i + 1)) Q) E { s with heap := h, toks := tk })
    (fin : ∀ m news h tk, J n m news → Fr h₀ env.locals h m → News h₀ env.locals h news → Q .next { s with heap := h, toks := tk }) :
    wpAny (model prog w) A (pyIter (.ref r)) (fun it s₂ => LoopAtV prog w A h₀ env x body Q E it s₂) E s := by
  subst hb
  refine iter_rangeUnr (n := n) hh hr (small_one (by omega) (by omega) (by omega) (by omega)) (by rw [rangeSize_nat]; simp) F N fun I hI => ?_
  exact range_inv J (step I hI) fin n 0 m₀ news (by omega) h0 fun p hp => Nat.ne_of_lt (hI p hp)
theorem compT_src {vs : List Value} {Fin : Shared → List Value → Led → Prop} (J : List Value → List Value → Led → Prop) {ax : Addr} {n : Nat} {news : Led} {s₁ : Shared}
    (hh : A.handled = none) (F : Fr h₀ L s₁.heap m) (N : News h₀ L s₁.heap news) (hm : (ax, listO vs n) ∈ news) (hsz : vs.length ≤ 1000) (h0 : J vs [] news)
    (step : ∀ v r ys news I oI C oC D m₂ h tk (E' : Value → Shared → Prop), J (v :: r) ys news → LCg.NsObj oC m₂ → m₂ x = some v → Fr h₀ L h m → News h₀ L h ((I, oI) :: (C, oC) :: (D, LCg.lst ys) :: news) → LCg.Off3 I C D news → ((@Ne Nat I C) ∧ (@Ne Nat I D) ∧ (@Ne Nat C D)) →
      wpAny (model prog w) A (isTrue ct (compEnvC scope cl C env) (eval ct (compEnvC scope cl C env))) (fun ok s' => if ok = true then
        wpAny (model prog w) A (eval elt (compEnvC scope cl C env)) (LCg.CompEnd h₀ L m { s₁ with heap := h, toks := tk } I oI C oC D (LCg.lst ys) (LCg.SrcAt h₀ ax vs.toArray) (fun y news' => J r (ys ++ [y]) news')) E' s'
        else LCg.CompEnd h₀ L m { s₁ with heap := h, toks := tk } I oI C oC D (LCg.lst ys) (LCg.SrcAt h₀ ax vs.toArray) (fun _ news' => J r ys news') Value.none s') E' { s₁ with heap := h, toks := tk })
    (fin : ∀ g ys news, J [] ys news → Fin { s₁ with heap := g } ys news) :
    LCt.CompSrcT prog w A h₀ L m env ct elt x scope cl Fin (.ref ax) s₁ := by
  refine LCt.CompSrcT.ledger hh F N hm (by rw [List.size_toArray, sizeLine_eq]; omega) fun g => ?_
  rw [List.size_toArray]
  exact compT_inv (s := { s₁ with heap := g }) J step (fin g) vs.length 0 [] news (by omega) h0
theorem compU_src {vs : List Value} {Fin : Shared → List Value → Led → Prop} (J : List Value → List Value → Led → Prop) {ax : Addr} {n : Nat} {news : Led} {s₁ : Shared}
    (hh : A.handled = none) (F : Fr h₀ L s₁.heap m) (N : News h₀ L s₁.heap news) (hm : (ax, listO vs n) ∈ news) (hsz : vs.length ≤ 1000) (h0 : J vs [] news)
    (step : ∀ v r ys news I oI C oC D m₂ h tk (E' : Value → Shared → Prop), J (v :: r) ys news → LCg.NsObj oC m₂ → m₂ x = some v → Fr h₀ L h m → News h₀ L h ((I, oI) :: (C, oC) :: (D, LCg.lst ys) :: news) → LCg.Off3 I C D news → ((@Ne Nat I C) ∧ (@Ne Nat I D) ∧ (@Ne Nat C D)) →
        wpAny (model prog w) A (eval elt (compEnvC scope cl C env)) (LCg.CompEnd h₀ L m { s₁ with heap := h, toks := tk } I oI C oC D (LCg.lst ys) (LCg.SrcAt h₀ ax vs.toArray) (fun y news' => J r (ys ++ [y]) news')) E' { s₁ with heap := h, toks := tk })
    (fin : ∀ g ys news, J [] ys news → Fin { s₁ with heap := g } ys news) :
    LCg.CompSrc prog w A h₀ L m env elt x scope cl Fin (.ref ax) s₁ := by
  refine LCg.CompSrc.ledger hh F N hm (by rw [List.size_toArray, sizeLine_eq]; omega) fun g => ?_
  rw [List.size_toArray]
  exact compU_inv (s := { s₁ with heap := g }) J step (fin g) vs.length 0 [] news (by omega) h0
end
end Mine
end
section
open PySem PySem.W PyProof.Rows PySem.Spec PySem.Calls
namespace Mine
theorem pat_ok (prog : Program) (w : World) (pa : Addr) (p : Pat) (news : Led) (hp : PatT news pa p) :
  Spec prog w 1304 [.ref pa] 20 200 news (fun v news' => ∃ a tl, v = .ref a ∧ Pre news' tl news ∧ PatIn w tl a p ∧ Above tl news) := by
  cases p with
  | any => exact pany_ok prog w pa news hp
  | var x => exact pvar_ok prog w pa x news hp
  | lit => exact plit_ok prog w pa news hp
  | pairN x => exact ppairN_ok prog w pa x news hp
  | pairL x => exact ppairL_ok prog w pa x news hp
end Mine
end
section
open PySem PySem.W PyProof.Rows PySem.Spec PySem.Calls
namespace Mine
theorem sub_consA {x : Addr × Obj} {a l : Led} (h : x ∈ l) (k : ∀ q ∈ a, q ∈ l) : ∀ q ∈ x :: a, q ∈ l := fun q hq => by
  rcases List.mem_cons.mp hq with rfl | hq
  · exact h
  · exact k q hq
theorem ints_snoc' {vs : List Value} {ks : List Int} {k : Int} {t : Tok} (h : IntsAre vs ks) : IntsAre (vs ++ [.int k t]) (ks ++ [k]) := by
  induction h with
  | nil => exact .cons k t .nil
  | cons n u _ ih => exact .cons n u ih
theorem ints_append {vs us : List Value} {ks js : List Int} (h : IntsAre vs ks) (k : IntsAre us js) : IntsAre (vs ++ us) (ks ++ js) := by
  induction h with
  | nil => exact k
  | cons n u _ ih => exact .cons n u ih
section
variable {prog : Program} {w : World} {A : Around} {E : Value → Shared → Prop} {h₀ : Heap} {L : Addr} {m : Str → Option Value} {env : PySem.Env} {elt : PySem.Expr} {x : Str} {scope : Scope} {cl : List (Str × Addr)}
theorem kn_src {kvs : List (Str × Value)} {vs : List Value} {names : List Str} {dom : List Str} {kn : Kn} {Fin : Shared → List Value → Led → Prop} {ax : Addr} {n : Nat} {news : Led} {s₁ : Shared}
    (_hk : KnownD kvs dom kn) (hh : A.handled = none) (F : Fr h₀ L s₁.heap m) (N : News h₀ L s₁.heap news) (hm : (ax, listO vs n) ∈ news) (hs : Strs vs names) (hd : ∀ y ∈ names, y ∈ dom) (hsz : names.length ≤ 1000)
    (step : ∀ y t ys I oI C oC D m₂ h tk (E' : Value → Shared → Prop), y ∈ dom → LCg.NsObj oC m₂ → m₂ x = some (.str y t) → Fr h₀ L h m → News h₀ L h ((I, oI) :: (C, oC) :: (D, LCg.lst ys) :: news) → LCg.Off3 I C D news → ((@Ne Nat I C) ∧ (@Ne Nat I D) ∧ (@Ne Nat C D)) →
        wpAny (model prog w) A (eval elt (compEnvC scope cl C env)) (LCg.CompEnd h₀ L m { s₁ with heap := h, toks := tk } I oI C oC D (LCg.lst ys) (LCg.SrcAt h₀ ax vs.toArray) (fun v news' => (∃ t, v = .int (lookK kn y) t) ∧ news' = news)) E' { s₁ with heap := h, toks := tk })
    (fin : ∀ g ys, IntsAre ys (names.map (lookK kn)) → Fin { s₁ with heap := g } ys news) :
    LCg.CompSrc prog w A h₀ L m env elt x scope cl Fin (.ref ax) s₁ := by
  refine compU_src (fun r ys nw => ∃ nms done, Strs r nms ∧ IntsAre ys done ∧ done ++ nms.map (lookK kn) = names.map (lookK kn) ∧ (∀ y ∈ nms, y ∈ dom) ∧ nw = news) hh F N hm (by rw [hs.len]; exact hsz) ⟨names, [], hs, .nil, rfl, hd, rfl⟩ ?_ ?_
  · intro v r ys nw I oI C oC D m₂ h tk E' hJ hC hx F1 N1 off ne
    obtain ⟨nms, done, hs', hi, ht, hd', rfl⟩ := hJ
    cases hs' with
    | @cons y t _ nms hs'' =>
      refine wpAny_mono (step y t ys I oI C oC D m₂ h tk E' (hd' y (.head _)) hC hx F1 N1 off ne) (fun v s₃ hr => ?_) fun _ _ e => e
      obtain ⟨h', tk', nw', e, F', N', off', hS, ⟨t', rfl⟩, rfl⟩ := hr
      exact ⟨h', tk', _, e, F', N', off', hS, nms, done ++ [lookK kn y], hs'', ints_snoc' hi, by simpa using ht, fun z hz => hd' z (.tail _ hz), rfl⟩
  · intro g ys nw hJ
    obtain ⟨nms, done, hs', hi, ht, _, rfl⟩ := hJ
    cases hs'
    simp only [List.map_nil, List.append_nil] at ht
    rw [ht] at hi
    exact fin g ys hi
end
theorem known_merge {kvs mk : List (Str × Value)} {dom : List Str} {kn t : Kn} (hk : KnownD kvs dom kn) (h : DictK mk t) : KnownD (PySem.merged kvs mk) (t.map (·.1) ++ dom) (t ++ kn) ∧ (PySem.merged kvs mk).length ≤ kvs.length + 1 := by
  rcases h with ⟨rfl, rfl⟩ | ⟨x, k, tk, rfl, rfl⟩
  · exact ⟨hk, Nat.le_succ _⟩
  · exact ⟨hk.set, stored_len _ _ _⟩
theorem taken_names {p : Pat} {it : It} {t : Kn} (h : takenBy p it = some t) : t.map (·.1) = p.names := by
  cases p <;> cases it <;> simp [takenBy] at h
  all_goals first
  | (subst h; rfl)
  | (obtain ⟨_, rfl⟩ := h; rfl)
section
variable {prog : Program} {w : World} {p : Program} {loose : List Str} {mean : ExcName → Option Value} {mg mb : Str → Option Value} {dp un : Nat} {gd : Option (List Code)} {cn : Str} {cs : Scope} {ca : Addr} {ccd : Value} {cl : List (Str × Addr)} {outer : List PySem.Env} {A₀ : Around} {base h₀ : Heap} {L : Addr} {m : Str → Option Value} {s : Shared} {Q E : Value → Shared → Prop}
theorem taken_use {all imm : Led} {pa : Addr} {pt : Pat} {v : Value} {it : It} {r : List Value} {is : List It}
    (B : Below A₀ base outer h₀) (F : Fr h₀ L s.heap m) (X : (Mine.H.KK w.params).In h₀) (N : News h₀ L s.heap all) (T : Top p loose mean mg mb h₀) (hk : cs.kind = .function)
    (hi : Its imm (v :: r) (it :: is)) (hf : fits pt it) (hp : PatT imm pa pt) (sub : ∀ q ∈ imm, q ∈ all)
    (hd : dp + 20 < recursionLimit) (hu : un + 300 < cLine)
    (ret1 : takenBy pt it = none → ∀ tl h' tk', Fr h₀ L h' m → News h₀ L h' (tl ++ all) → Above tl all → Q .none { s with heap := h', toks := tk' })
    (ret2 : ∀ t, takenBy pt it = some t → ∀ tl d o mk h' tk', Fr h₀ L h' m → News h₀ L h' (tl ++ all) → Above tl all → (d, o) ∈ tl → (d == sysModules) = false → o.IsDictOf (strKind prog w) mk → DictK mk t → Q (.ref d) { s with heap := h', toks := tk' }) :
    wpAny (model prog w) (ktrTop dp un gd cn cs L ca ccd cl outer) (call (.ref 1318) [.ref pa, v]) Q E s := by
  refine spec_use0 B F X N T hk (taken_ok prog w all pa pt (hi.mono sub) hf (hp.mono sub)) hd hu fun v' h' tk' news' F' N' P => ?_
  obtain ⟨tl, hpre, ha, hr⟩ := P
  have hpre := hpre.eq
  subst hpre
  cases e : takenBy pt it with
  | none =>
    rw [e] at hr
    subst hr
    exact ret1 e tl h' tk' F' N' ha
  | some t =>
    rw [e] at hr
    obtain ⟨d, o, mk, rfl, hm, hl, hd', hk'⟩ := hr
    exact ret2 t e tl d o mk h' tk' F' N' ha hm hl hd' hk'
theorem with_use {all : Led} {kd md : Addr} {ok om : Obj} {kvs mk : List (Str × Value)} {dom : List Str} {kn t : Kn}
    (B : Below A₀ base outer h₀) (F : Fr h₀ L s.heap m) (X : (Mine.H.KK w.params).In h₀) (N : News h₀ L s.heap all) (T : Top p loose mean mg mb h₀) (hk : cs.kind = .function)
    (m0 : (kd, ok) ∈ all) (m1 : (md, om) ∈ all) (l1 : (kd == sysModules) = false) (l2 : (md == sysModules) = false) (c0 : KnownD kvs dom kn) (d1 : ok.IsDictOf (strKind prog w) kvs) (d2 : om.IsDictOf (strKind prog w) mk) (dk : DictK mk t) (z1 : kvs.length ≤ 100)
    (hd : dp + 20 < recursionLimit) (hu : un + 300 < cLine)
    (ret : ∀ d o tl kvs' h' tk', Fr h₀ L h' m → News h₀ L h' (tl ++ all) → Above tl all → (d, o) ∈ tl → (d == sysModules) = false → o.IsDictOf (strKind prog w) kvs' → KnownD kvs' (t.map (·.1) ++ dom) (t ++ kn) → kvs'.length ≤ kvs.length + 1 → Q (.ref d) { s with heap := h', toks := tk' }) :
    wpAny (model prog w) (ktrTop dp un gd cn cs L ca ccd cl outer) (call (.ref 1266) [.ref kd, .ref md]) Q E s := by
  refine spec_use0 B F X N T hk (with_ok prog w all kd md ok om kvs mk m0 m1 l1 l2 d1 d2 z1 (by rcases dk with ⟨rfl, _⟩ | ⟨x, k, tk, rfl, _⟩ <;> simp)) hd hu fun v h' tk' news' F' N' P => ?_
  obtain ⟨d, o, tl, rfl, hp, ha, hm, hl, hdo⟩ := P
  have hp := hp.eq
  subst hp
  have hkm := known_merge c0 dk
  exact ret d o tl _ h' tk' F' N' ha hm hl hdo hkm.1 hkm.2
theorem loops_use {wanted : List Str} {rs : List Row} {all imm : Led} {l : Addr} {vs : List Value} {ms : Nat} {ra kd wl : Addr} {ok : Obj} {kvs : List (Str × Value)} {dom : List Str} {kn : Kn} {rv rvs pre wv : List Value} {nr nw : Nat} {at' : Int} {t : Tok}
    (B : Below A₀ base outer h₀) (F : Fr h₀ L s.heap m) (X : (Mine.H.KK w.params).In h₀) (N : News h₀ L s.heap all) (T : Top p loose mean mg mb h₀) (hk : cs.kind = .function)
    (D : Drop1 (l, listO vs ms) all imm) (S : LoopsSpec prog w wanted rs) (c0 : KnownD kvs dom kn) (c1 : ∀ q ∈ imm, q.1 ≠ l) (c2 : vs.length + (loops wanted rs kn).length ≤ 500) (c3 : (ra, listO rv nr) ∈ imm) (c4 : rv = pre ++ rvs) (c5 : at' = pre.length) (c6 : RowsT imm rvs rs) (c7 : pre.length + rs.length ≤ 10)
    (c8 : (kd, ok) ∈ imm) (c9 : (kd == sysModules) = false) (c10 : ok.IsDictOf (strKind prog w) kvs) (c11 : kvs.length + rs.length ≤ 20) (c13 : WF wanted rs dom) (c14 : (wl, listO wv nw) ∈ imm) (c15 : Strs wv wanted) (c16 : wanted.length ≤ 3)
    (hd : dp + (60 + 20 * rs.length) < recursionLimit) (hu : un + (600 + 200 * rs.length) < cLine)
    (ret : ∀ vs' ms' tl h' tk', Fr h₀ L h' m → News h₀ L h' ((l, listO (vs ++ vs') ms') :: (tl ++ imm)) → Above tl ((l, listO vs ms) :: imm) → IntsAre vs' (loops wanted rs kn) → Q .none { s with heap := h', toks := tk' }) :
    wpAny (model prog w) (ktrTop dp un gd cn cs L ca ccd cl outer) (call (.ref 1323) [.ref ra, .int at' t, .ref kd, .ref wl, .ref l]) Q E s := by
  refine spec_use0 B F X (news_M1 N D) T hk (S imm l vs ms ra kd wl ok kvs dom kn rv rvs pre wv nr nw at' t c1 c2 c3 c4 c5 c6 c7 c8 c9 c10 c11 c0 c13 c14 c15 c16) hd hu fun v h' tk' news' F' N' P => ?_
  obtain ⟨vs', ms', tl, r, rfl, rfl, hp, ha, hi⟩ := P
  have hp := hp.eq
  subst hp
  exact ret vs' ms' tl h' tk' F' N' ha hi
end
noncomputable def sho (fn tn : Str) (o1 o2 : Option Value) (m₀ : Str → Option Value) : Str → Option Value := fun y => if y = fn then o1 else if y = tn then o2 else m₀ y
theorem sho_init {fn tn : Str} {m₀ : Str → Option Value} : m₀ = sho fn tn (m₀ fn) (m₀ tn) m₀ := by
  funext y
  unfold sho
  split
  · next h => rw [h]
  · split
    · next h => rw [h]
    · rfl
theorem sho_step {fn tn : Str} {o1 o2 : Option Value} {v nv : Value} {m₀ : Str → Option Value} : (fun y => if y = fn then some v else (fun y => if y = tn then some nv else sho fn tn o1 o2 m₀ y) y) = sho fn tn (some v) (some nv) m₀ := by
  funext y
  unfold sho
  by_cases h1 : y = fn
  · simp only [h1, if_true]
  · by_cases h2 : y = tn
    · simp only [h1, h2, if_true, if_false]
    · simp only [h1, h2, if_false]
noncomputable def JLoops (wanted : List Str) (rs : List Row) (p : Pat) (kn : Kn) (imm base : Led) (l : Addr) (vs0 : List Value) (ms0 : Nat) (total : List Int) (m₀ : Str → Option Value) (xs : List Value) (m : Str → Option Value) (n : Led) : Prop :=
  ∃ is vs' done ms' tl r o1 o2, Its imm xs is ∧ (∀ it ∈ is, fits p it) ∧ n = (l, listO (vs0 ++ vs') ms') :: r ∧ Pre r tl base ∧ Above tl ((l, listO vs0 ms0) :: imm) ∧ IntsAre vs' done ∧ done ++ results wanted rs p kn is = total ∧ m = sho "told" "item" o1 o2 m₀
section
variable {prog : Program} {w : World} {A : Around} {E : Value → Shared → Prop} {s : Shared} {env : PySem.Env} {h₀ : Heap} {target : PySem.Expr} {body : List PySem.Stmt} {Q : Flow → Shared → Prop}
theorem iter_loops {wanted : List Str} {rs : List Row} {pt : Pat} {kn : Kn} {its : List It} {imm base : Led} {l : Addr} {vs : List Value} {ms : Nat} {ax : Addr} {xs : List Value} {n : Nat} {m₀ : Str → Option Value}
    (N : News h₀ env.locals s.heap ((l, listO vs ms) :: base)) (hh : A.handled = none) (F : Fr h₀ env.locals s.heap m₀) (hm : (ax, listO xs n) ∈ base) (hI : Its imm xs its) (hf : ∀ it ∈ its, fits pt it)
    (step : ∀ I : Addr, (∀ p ∈ (l, listO vs ms) :: base, p.1 < I) → ∀ v r m₁ n₁ h tk it, JLoops wanted rs pt kn imm base l vs ms (results wanted rs pt kn its) m₀ (v :: r) m₁ n₁ → SubL [(ax, listO xs n)] n₁ → (∀ p ∈ n₁, p.1 ≠ I) → it.cls = .type "list_iterator" → Fr h₀ env.locals h m₁ → News h₀ env.locals h ((I, it) :: n₁) →
      wpAny (model prog w) A (assign target env v) (fun _ s₂ => wpAny (model prog w) A (execs body env) (UnrPostW h₀ env.locals { s with heap := h, toks := tk } [(I, it)] (fun m' n' => SubL [(ax, listO xs n)] n' ∧ JLoops wanted rs pt kn imm base l vs ms (results wanted rs pt kn its) m₀ r m' n') Q) E s₂) E { s with heap := h, toks := tk })
    (fin : ∀ m₁ n₁ h tk, JLoops wanted rs pt kn imm base l vs ms (results wanted rs pt kn its) m₀ [] m₁ n₁ → Fr h₀ env.locals h m₁ → News h₀ env.locals h n₁ → Q .next { s with heap := h, toks := tk }) :
    wpAny (model prog w) A (pyIter (.ref ax)) (fun it s₂ => TurnsAt prog w A h₀ env target body Q E it s₂) E s :=
  Mine.iter_inv (fun m₀ xs m' n' => JLoops wanted rs pt kn imm base l vs ms (results wanted rs pt kn its) m₀ xs m' n') hh F N (.tail _ hm) ⟨its, [], [], _, [], _, _, _, hI, hf, by rw [List.append_nil], .done, (fun _ h => nomatch h), .nil, rfl, sho_init⟩ step fin
end
theorem results_one {wanted : List Str} {rs : List Row} {pt : Pat} {kn : Kn} {it : It} {is : List It} : results wanted rs pt kn (it :: is) = (match takenBy pt it with | some t => loops wanted rs (t ++ kn) | none => []) ++ results wanted rs pt kn is := rfl
noncomputable def Bnd9 (pt : Pat) (it : It) (f : Kn → Nat) : Prop := ∀ t, takenBy pt it = some t → f t ≤ 500
theorem above_via {l : Addr} {o o' : Obj} {t R imm : Led} (h : Above t R) (m : (l, o) ∈ R) (s : ∀ q ∈ imm, q ∈ R) : Above t ((l, o') :: imm) := fun q hq p hp => by
  rcases List.mem_cons.mp hp with rfl | hp
  · exact h q hq (l, o) m
  · exact h q hq p (s p hp)
theorem ne_tail {I : Addr} {x : Addr × Obj} {r : Led} (h : ∀ p ∈ x :: r, p.1 ≠ I) : x.1 ≠ I ∧ ∀ p ∈ r, p.1 ≠ I := ⟨h _ (.head _), fun p hp => h p (.tail _ hp)⟩
end Mine
end
section
open PySem PySem.W PyProof.Rows PySem.Spec PySem.Calls
set_option maxHeartbeats 2000000
namespace Mine
theorem loops_end (prog : Program) (w : World) (wanted : List Str) : LoopsSpec prog w wanted [] := by
  have tg0 : True := True.intro; have tg2 : True := True.intro; have tg30 : True := True.intro; have tg31 : True := True.intro; have tg35 : True := True.intro; have tg39 : True := True.intro; have tg4 : True := True.intro; have tg40 : True := True.intro
  intro imm l vs ms ra kd wl ok kvs dom kn rv rvs pre wv nr nw at' t hof hvl hra hrv hat hrs hpl hkd hlo hok hkz hkn hwf hwl hws hw3
  subst hrv
  subst hat
  cases hrs
  simp only [loops, List.length_cons, List.length_nil] at hvl hpl hkz
  replace hwf : ∀ x ∈ wanted, x ∈ dom := hwf
  intro p loose mean mg mb dp un gd cn cs ca ccd cl outer A₀ base h₀ L m s Q E B F X N T hk hd hu ret
  k_dflt first | k_extra "mine enter" | k_extra "mine enterC"
  k_steps
  all_goals (
    k_extra "mine flat"
    rename News h₀ _ _ _ => N9
    refine' ret _ _ _ _ ?eF (Mine.news_M1 (p := (l, listO _ _)) N9 ?eN) (Mine.ex4 _ _ _ _ ⟨rfl, rfl, ?gp, ?gab, ?gi⟩)
    case eF => k_asm
    case eN => k_extra "mine drop"
    case gp => k_extra "mine pre"
    case gab => k_extra "mine above"
    case gi => exact .cons _ _ .nil)
end Mine
end
section
open PySem PySem.W PyProof.Rows PySem.Spec PySem.Calls
set_option maxHeartbeats 2000000
namespace Mine
theorem loops_cond (prog : Program) (w : World) (wanted ns : List Str) (k : Int) (rs : List Row) (ih : LoopsSpec prog w wanted rs) : LoopsSpec prog w wanted (.cond ns k :: rs) := by
  have tg0 : True := True.intro; have tg2 : True := True.intro; have tg25 : True := True.intro; have tg26 : True := True.intro; have tg30 : True := True.intro; have tg31 : True := True.intro; have tg35 : True := True.intro; have tg36 : True := True.intro; have tg39 : True := True.intro; have tg4 : True := True.intro; have tg40 : True := True.intro; have tg45 : True := True.intro
  intro imm l vs ms ra kd wl ok kvs dom kn rv rvs pre wv nr nw at' t hof hvl hra hrv hat hrs hpl hkd hlo hok hkz hkn hwf hwl hws hw3
  subst hrv
  subst hat
  cases hrs with | cons hr1 hrs =>
  cases hr1 with | cond r1 r2 r3 =>
  have hlen := hrs.len
  simp only [List.length_cons] at hvl hpl hkz
  obtain ⟨hnd, hn2, hwf⟩ := hwf
  intro p loose mean mg mb dp un gd cn cs ca ccd cl outer A₀ base h₀ L m s Q E B F X N T hk hd hu ret
  simp only [List.length_cons] at hd hu
  have hb9 : (List.map (lookK kn) ns).sum < k → vs.length + (loops wanted rs kn).length ≤ 500 := fun e => by
    have e2 : sumN kn ns < k := e
    simpa [loops, e2] using hvl
  k_dflt first | k_extra "mine enter" | k_extra "mine enterC"
  k_steps
  · k_extra "mine flat"
    rename News h₀ _ _ _ => N9
    refine' ret _ _ _ _ ?eF (Mine.news_M1 (p := (l, listO _ _)) N9 ?eN) (Mine.ex4 _ _ _ _ ⟨rfl, rfl, ?gp, ?gab, ?gi⟩)
    case eF => k_asm
    case eN => k_extra "mine drop"
    case gp => k_extra "mine pre"
    case gab => k_extra "mine above"
    case gi => (rename (List.map _ _).sum < _ => e9; show IntsAre _ (if (List.map (lookK kn) ns).sum < k then _ else _); rw [if_pos e9]; k_asm)
  · k_extra "mine flat"
    rename News h₀ _ _ _ => N9
    refine' ret _ _ _ _ ?eF (Mine.news_M1 (p := (l, listO _ _)) N9 ?eN) (Mine.ex4 [] _ _ _ ⟨rfl, by rw [List.append_nil], ?gp, ?gab, ?gi⟩)
    case eF => k_asm
    case eN => k_extra "mine drop"
    case gp => k_extra "mine pre"
    case gab => k_extra "mine above"
    case gi => (rename ¬ (List.map _ _).sum < _ => e9; show IntsAre _ (if (List.map (lookK kn) ns).sum < k then _ else _); rw [if_neg e9]; exact .nil)
end Mine
end
section
open PySem PySem.W PyProof.Rows PySem.Spec PySem.Calls
set_option maxHeartbeats 2000000
namespace Mine
theorem loops_let (prog : Program) (w : World) (wanted ns : List Str) (x : Str) (k : Int) (rs : List Row) (ih : LoopsSpec prog w wanted rs) : LoopsSpec prog w wanted (.bnd x ns k :: rs) := by
  have tg0 : True := True.intro; have tg2 : True := True.intro; have tg25 : True := True.intro; have tg26 : True := True.intro; have tg27 : True := True.intro; have tg30 : True := True.intro; have tg31 : True := True.intro; have tg35 : True := True.intro; have tg36 : True := True.intro; have tg39 : True := True.intro; have tg4 : True := True.intro; have tg40 : True := True.intro
  intro imm l vs ms ra kd wl ok kvs dom kn rv rvs pre wv nr nw at' t hof hvl hra hrv hat hrs hpl hkd hlo hok hkz hkn hwf hwl hws hw3
  subst hrv
  subst hat
  cases hrs with | cons hr1 hrs =>
  cases hr1 with | bnd r1 r2 r3 =>
  have hlen := hrs.len
  simp only [List.length_cons] at hvl hpl hkz
  obtain ⟨hxg, hnd, hn2, hwf⟩ := hwf
  replace hvl : vs.length + (loops wanted rs ((x, (List.map (lookK kn) ns).sum + k) :: kn)).length ≤ 500 := hvl
  intro p loose mean mg mb dp un gd cn cs ca ccd cl outer A₀ base h₀ L m s Q E B F X N T hk hd hu ret
  simp only [List.length_cons] at hd hu
  k_dflt first | k_extra "mine enter" | k_extra "mine enterC"
  k_steps
  all_goals (
    k_extra "mine flat"
    rename News h₀ _ _ _ => N9
    refine' ret _ _ _ _ ?eF (Mine.news_M1 (p := (l, listO _ _)) N9 ?eN) (Mine.ex4 _ _ _ _ ⟨rfl, rfl, ?gp, ?gab, ?gi⟩)
    case eF => k_asm
    case eN => k_extra "mine drop"
    case gp => k_extra "mine pre"
    case gab => k_extra "mine above"
    case gi => k_asm)
end Mine
end
section
open PySem PySem.W PyProof.Rows PySem.Spec PySem.Calls
set_option maxHeartbeats 2000000
namespace Mine
theorem loops_drawS (prog : Program) (w : World) (wanted : List Str) (pt : Pat) (its : List It) (rs : List Row) (ih : LoopsSpec prog w wanted rs) : LoopsSpec prog w wanted (.draw pt its :: rs) := by
  have tg0 : True := True.intro; have tg2 : True := True.intro; have tg25 : True := True.intro; have tg26 : True := True.intro; have tg28 : True := True.intro; have tg30 : True := True.intro; have tg31 : True := True.intro; have tg33 : True := True.intro; have tg35 : True := True.intro; have tg36 : True := True.intro; have tg39 : True := True.intro; have tg4 : True := True.intro; have tg40 : True := True.intro
  intro imm l vs ms ra kd wl ok kvs dom kn rv rvs pre wv nr nw at' t hof hvl hra hrv hat hrs hpl hkd hlo hok hkz hkn hwf hwl hws hw3
  subst hrv
  subst hat
  cases hrs with | cons hr1 hrs =>
  cases hr1 with | draw r1 r2 r3 r4 r5 =>
  have hlen := hrs.len
  simp only [List.length_cons] at hvl hpl hkz
  obtain ⟨hfit, hpg, hwf⟩ := hwf
  rw [Mine.loops_draw] at hvl
  intro p loose mean mg mb dp un gd cn cs ca ccd cl outer A₀ base h₀ L m s Q E B F X N T hk hd hu ret
  simp only [List.length_cons] at hd hu
  k_dflt first | k_extra "mine enter" | k_extra "mine enterC"
  k_steps
  all_goals skip
  · rename (News _ _ _ _) => N9
    have N8 := Mine.news_M1 (p := (l, listO vs _)) N9 (by k_extra "mine drop")
    refine Mine.Hold.mk (Mine.iter_loops (rs := rs) (kn := kn) (wanted := wanted) (pt := pt) N8 rfl (by k_asm) (by k_mem) r4 hfit ?step ?fin)
    case step =>
      intro I hI v r m₁ n₁ h tk it hJ hkk hio hc F N
      (k_dflt (refine' Mine.exe8 (hJ) ?_); intro is vs' done ms' tl rr o1 o2 hz9; k_dflt (refine' Mine.ane8 hz9 ?_); clear hz9; intro hs hfs er2 hp hab hi htot er7; subst er2; subst er7; clear hJ)
      have hp2 := hp.eq
      subst hp2
      clear hp
      have hsW := hs
      have hio2 := (Mine.ne_tail hio).2
      have hio1 : @Ne Nat l I := (Mine.ne_tail hio).1
      cases hs with
      | one hs' =>
        rw [results_one] at htot
        have hb9 : Mine.Bnd9 pt _ (fun t => (vs ++ vs').length + (loops wanted rs (t ++ kn)).length) := fun t e => by
          rw [e] at htot
          have h2 := congrArg List.length htot
          show (vs ++ vs').length + (loops wanted rs (t ++ kn)).length ≤ 500
          simp only [List.length_append] at h2 ⊢
          have h3 := hi.length
          omega
        have hfi := hfs _ (.head _)
        have hfs2 := fun i hi => hfs i (.tail _ hi)
        clear hfs
        k_steps
        all_goals (
          refine Mine.Hold.mk ?_
          k_extra "mine flat"
          rename News _ _ _ _ => N9
          try simp only [List.append_assoc] at N9
          have N8 := Mine.news_M1 (p := (l, listO _ _)) N9 (by k_extra "mine drop")
          rename takenBy _ _ = _ => e9
          rw [e9] at htot
          refine' Mine.endD ?eF N8 ?eD ?eoff ?ek (Mine.ex8 _ _ _ _ _ _ (some _) (some _) ⟨hs', hfs2, rfl, ?gp, ?gab, ?gi, ?gt, ?gsh⟩)
          case eF => k_asm
          case eD => k_extra "mine drop"
          case eoff => k_extra "mine off"
          case ek => k_subL
          case gp => k_extra "mine pre"
          case gab => k_extra "mine above"
          case gi => first | exact hi | exact ints_append hi (by k_asm)
          case gt => first | exact htot | (rw [List.append_assoc]; exact htot)
          case gsh => exact sho_step)
      | two hm hs' =>
        rw [results_one] at htot
        have hb9 : Mine.Bnd9 pt _ (fun t => (vs ++ vs').length + (loops wanted rs (t ++ kn)).length) := fun t e => by
          rw [e] at htot
          have h2 := congrArg List.length htot
          show (vs ++ vs').length + (loops wanted rs (t ++ kn)).length ≤ 500
          simp only [List.length_append] at h2 ⊢
          have h3 := hi.length
          omega
        have hfi := hfs _ (.head _)
        have hfs2 := fun i hi => hfs i (.tail _ hi)
        clear hfs
        k_steps
        all_goals (
          refine Mine.Hold.mk ?_
          k_extra "mine flat"
          rename News _ _ _ _ => N9
          try simp only [List.append_assoc] at N9
          have N8 := Mine.news_M1 (p := (l, listO _ _)) N9 (by k_extra "mine drop")
          rename takenBy _ _ = _ => e9
          rw [e9] at htot
          refine' Mine.endD ?eF N8 ?eD ?eoff ?ek (Mine.ex8 _ _ _ _ _ _ (some _) (some _) ⟨hs', hfs2, rfl, ?gp, ?gab, ?gi, ?gt, ?gsh⟩)
          case eF => k_asm
          case eD => k_extra "mine drop"
          case eoff => k_extra "mine off"
          case ek => k_subL
          case gp => k_extra "mine pre"
          case gab => k_extra "mine above"
          case gi => first | exact hi | exact ints_append hi (by k_asm)
          case gt => first | exact htot | (rw [List.append_assoc]; exact htot)
          case gsh => exact sho_step)
    case fin =>
      intro m₁ n₁ h tk hJ F N
      (k_dflt (refine' Mine.exe8 (hJ) ?_); intro is vs' done ms' tl rr o1 o2 hz9; k_dflt (refine' Mine.ane8 hz9 ?_); clear hz9; intro hs hfs er2 hp hab hi htot er7; subst er2; subst er7; clear hJ)
      have hp2 := hp.eq
      subst hp2
      clear hp
      cases hs
      k_steps
      all_goals (
        k_extra "mine flat"
        rename News h₀ _ _ _ => N9
        simp only [results, List.flatMap_nil, List.append_nil] at htot
        refine' ret _ _ _ _ ?eF N9 (Mine.ex4 _ _ _ _ ⟨rfl, rfl, ?gp, ?gab, ?gi⟩)
        case eF => k_asm
        case gp => k_extra "mine pre"
        case gab => k_extra "mine above"
        case gi => (rw [Mine.loops_draw]; unfold results; rw [← htot]; exact hi))
end Mine
end
section
open PySem PySem.W PyProof.Rows PySem.Spec PySem.Calls
namespace Mine
noncomputable def SrcO (o : Obj) : Prop := ∃ a b ta tb n, o = listO [.int a ta, .int b tb] n ∧ 0 ≤ a ∧ 0 ≤ b ∧ b < 2147483647
noncomputable def TakePost (sl : Addr) (top : Int) (imm : Led) (v : Value) (news' : Led) : Prop := ∃ k t' o', v = .int k t' ∧ 0 ≤ k ∧ k < top ∧ SrcO o' ∧ news' = (sl, o') :: imm
end Mine
namespace Mine
theorem fmod_bnd {a b : Int} (h : 0 < b) : 0 ≤ a.fmod b ∧ a.fmod b < b := ⟨Int.fmod_nonneg_of_pos a h, Int.fmod_lt_of_pos a h⟩
theorem SrcO.mk {a b : Int} {ta tb : Tok} {n : Nat} (h1 : 0 ≤ a) (h2 : 0 ≤ b ∧ b < 2147483647) : SrcO (listO [.int a ta, .int b tb] n) := ⟨a, b, ta, tb, n, rfl, h1, h2.1, h2.2⟩
end Mine
namespace Mine
noncomputable def SpecB (prog : Program) (w : World) (Bs : Heap → Prop) (f : Addr) (args : List Value) (room units : Nat) (news : Led) (post : Value → Led → Prop) : Prop :=
  ∀ (p : Program) (loose : List Str) (mean : ExcName → Option Value) (mg mb : Str → Option Value) (dp un : Nat) (gd : Option (List Code)) (cn : Str) (cs : Scope) (ca : Addr) (ccd : Value) (cl : List (Str × Addr)) (outer : List PySem.Env) (A₀ : Around) (base h₀ : Heap) (L : Addr) (m : Str → Option Value) (s : Shared) (Q E : Value → Shared → Prop),
    Bs h₀ → Below A₀ base outer h₀ → Fr h₀ L s.heap m → (Mine.H.KK w.params).In h₀ → News h₀ L s.heap news → Top p loose mean mg mb h₀ → cs.kind = .function →
    dp + room < recursionLimit → un + units < cLine →
    (∀ v h' tk' news', Fr h₀ L h' m → News h₀ L h' news' → post v news' → Q v { s with heap := h', toks := tk' }) →
    wpAny (model prog w) (ktrTop dp un gd cn cs L ca ccd cl outer) (call (.ref f) args) Q E s
noncomputable def PoolPost (imm : Led) (v : Value) (news' : Led) : Prop := ∃ sl o r tl, v = .ref sl ∧ SrcO o ∧ news' = (sl, o) :: r ∧ Pre r tl imm ∧ Above ((sl, o) :: tl) imm ∧ (∀ q ∈ r, q.1 ≠ sl)
noncomputable def JPool (news0 : Led) (m₀ : Str → Option Value) (i : Nat) (m : Str → Option Value) (news : Led) : Prop := ∃ b t o, 0 ≤ b ∧ b < 2147483647 ∧ m = sh "mixed" "k" o (.int b t) m₀ ∧ news = news0
end Mine
end
section
open PySem PySem.W PyProof.Rows PySem.Spec PySem.Calls
set_option maxHeartbeats 2000000
namespace Mine
theorem sdraw_ok (prog : Program) (w : World) (ra : Addr) (p : Pat) (its : List It) (news0 news : Led) (hsub : ∀ q ∈ news0, q ∈ news) (hr : RowT news0 ra (.draw p its)) :
  Spec prog w 1311 [.ref ra] 40 400 news (fun v news' => ∃ a tl, v = .ref a ∧ Pre news' tl news ∧ StatIn w (tl ++ news0) a (.draw p its) ∧ Above tl news) := by
  have tg0 : True := True.intro; have tg21 : True := True.intro; have tg30 : True := True.intro; have tg4 : True := True.intro; have tg40 : True := True.intro
  intro p loose mean mg mb dp un gd cn cs ca ccd cl outer A₀ base h₀ L m s Q E B F X N T hk hd hu ret
  cases hr with | draw r1 r2 r3 r4 r5 =>
  have r1' := hsub _ r1
  have r3' := hsub _ r3
  k_dflt first | k_extra "mine enter" | k_extra "mine enterC"
  k_steps
  all_goals (
    k_extra "mine flat"
    refine' ret _ _ _ _ ?eF ?eN (Mine.ex2 _ _ ⟨rfl, ?gp, ?gc, ?gab⟩)
    case eF => k_asm
    case eN => k_asm
    case gp => k_extra "mine pre"
    case gab => k_extra "mine above"
    case gc => exact .draw (by k_mem) (by k_mem) (by (refine' Mine.PatIn.mono ?sb ?tt; (case tt => with_reducible assumption); (case sb => k_extra "mine subs"))) (by k_mem) (by k_mem) (by (refine' Mine.Its.mono ?sb ?tt; (case tt => with_reducible assumption); (case sb => k_extra "mine subs"))) (by omega))
end Mine
end
section
open PySem PySem.W PyProof.Rows PySem.Spec PySem.Calls
set_option maxHeartbeats 2000000
namespace Mine
theorem scond_ok (prog : Program) (w : World) (ra : Addr) (ns : List Str) (k : Int) (news0 news : Led) (hsub : ∀ q ∈ news0, q ∈ news) (hr : RowT news0 ra (.cond ns k)) :
  Spec prog w 1311 [.ref ra] 40 400 news (fun v news' => ∃ a tl, v = .ref a ∧ Pre news' tl news ∧ StatIn w (tl ++ news0) a (.cond ns k) ∧ Above tl news) := by
  have tg0 : True := True.intro; have tg30 : True := True.intro; have tg4 : True := True.intro; have tg40 : True := True.intro
  intro p loose mean mg mb dp un gd cn cs ca ccd cl outer A₀ base h₀ L m s Q E B F X N T hk hd hu ret
  cases hr with | cond r1 r2 r3 =>
  have r1' := hsub _ r1
  have r2' := hsub _ r2
  k_dflt first | k_extra "mine enter" | k_extra "mine enterC"
  k_steps
  all_goals (
    k_extra "mine flat"
    refine' ret _ _ _ _ ?eF ?eN (Mine.ex2 _ _ ⟨rfl, ?gp, ?gc, ?gab⟩)
    case eF => k_asm
    case eN => k_asm
    case gp => k_extra "mine pre"
    case gab => k_extra "mine above"
    case gc => exact .cond (by k_mem) (by k_mem) (.mk (by k_mem) (by k_mem) (by k_asm)))
end Mine
end
section
open PySem PySem.W PyProof.Rows PySem.Spec PySem.Calls
set_option maxHeartbeats 2000000
namespace Mine
theorem sbnd_ok (prog : Program) (w : World) (ra : Addr) (x : Str) (ns : List Str) (k : Int) (news0 news : Led) (hsub : ∀ q ∈ news0, q ∈ news) (hr : RowT news0 ra (.bnd x ns k)) (h2 : ns.length ≤ 2) (hx : x ∉ ns) :
  Spec prog w 1311 [.ref ra] 40 400 news (fun v news' => ∃ a tl, v = .ref a ∧ Pre news' tl news ∧ StatIn w (tl ++ news0) a (.bnd x ns k) ∧ Above tl news) := by
  have tg0 : True := True.intro; have tg30 : True := True.intro; have tg4 : True := True.intro; have tg40 : True := True.intro
  intro p loose mean mg mb dp un gd cn cs ca ccd cl outer A₀ base h₀ L m s Q E B F X N T hk hd hu ret
  cases hr with | bnd r1 r2 r3 =>
  have r1' := hsub _ r1
  have r2' := hsub _ r2
  k_dflt first | k_extra "mine enter" | k_extra "mine enterC"
  k_steps
  all_goals (
    k_extra "mine flat"
    refine' ret _ _ _ _ ?eF ?eN (Mine.ex2 _ _ ⟨rfl, ?gp, ?gc, ?gab⟩)
    case eF => k_asm
    case eN => k_asm
    case gp => k_extra "mine pre"
    case gab => k_extra "mine above"
    case gc => exact .bnd (by k_mem) (by k_mem) (.mk (by k_mem) (by k_mem) (by k_mem) (by k_mem) (.mk (by k_mem) (by k_mem) (by k_mem) (by k_mem) (by k_mem) (by k_mem) (by k_mem) (by k_mem) (by k_mem) (by k_mem) (by k_mem) (by k_mem) (by k_mem) (by k_mem) (.mk (by k_mem) (by k_mem) (by k_asm)))) h2 hx)
end Mine
end
section
open PySem PySem.W PyProof.Rows PySem.Spec PySem.Calls
namespace Mine
theorem loops_ok (prog : Program) (w : World) (wanted : List Str) : ∀ rs : List Row, LoopsSpec prog w wanted rs
  | [] => loops_end prog w wanted
  | .draw p its :: rs => loops_drawS prog w wanted p its rs (loops_ok prog w wanted rs)
  | .cond ns k :: rs => loops_cond prog w wanted ns k rs (loops_ok prog w wanted rs)
  | .bnd x ns k :: rs => loops_let prog w wanted ns x k rs (loops_ok prog w wanted rs)
end Mine
end
section
open PySem PySem.W PyProof.Rows PySem.Spec PySem.Calls
set_option maxHeartbeats 2000000
namespace Mine
theorem take_ok (prog : Program) (w : World) (sl : Addr) (o : Obj) (top : Int) (t : Tok) (imm : Led) (off : ∀ q ∈ imm, q.1 ≠ sl) (ho : SrcO o) (h2 : 2 ≤ top) (h7 : top ≤ 7) :
  Spec prog w 1238 [.ref sl, .int top t] 10 100 ((sl, o) :: imm) (TakePost sl top imm) := by
  have tg30 : True := True.intro; have tg4 : True := True.intro
  intro p loose mean mg mb dp un gd cn cs ca ccd cl outer A₀ base h₀ L m s Q E B F X N T hk hd hu ret
  (k_dflt (refine' Mine.exe5 (ho) ?_); intro a b ta tb n hz9; k_dflt (refine' Mine.ane4 hz9 ?_); clear hz9; intro er0 ha hb hb'; subst er0)
  k_dflt first | k_extra "mine enter" | k_extra "mine enterC"
  k_steps
  all_goals (
    refine' ret _ _ _ _ ?eF ?eN (Mine.ex3 _ _ _ ⟨rfl, ?g1, ?g2, ?g3, rfl⟩)
    case eF => k_asm
    case eN => k_asm
    case g1 => exact (Mine.fmod_bnd (by omega)).1
    case g2 => exact (Mine.fmod_bnd (by omega)).2
    case g3 =>
      first
      | exact Mine.SrcO.mk (Int.fdiv_nonneg (by k_asm) (by omega)) ⟨by k_asm, by k_asm⟩
      | exact Mine.SrcO.mk (by k_asm) (Mine.fmod_bnd (by decide)))
end Mine
end
section
open PySem PySem.W PyProof.Rows PySem.Spec PySem.Calls
set_option maxHeartbeats 2000000
namespace Mine
theorem pool_ok (prog : Program) (w : World) (l : Addr) (vs : List Value) (ns : List Int) (imm : Led) (hi : IntsAre vs ns) (hz : ns.length ≤ 63) :
  SpecB prog w (fun h₀ => h₀.IsList l vs.toArray) 1231 [.ref l] 10 300 imm (PoolPost imm) := by
  have tg30 : True := True.intro; have tg37 : True := True.intro; have tg4 : True := True.intro
  intro p loose mean mg mb dp un gd cn cs ca ccd cl outer A₀ base h₀ L m s Q E hbs B F X N T hk hd hu ret
  replace hbs : h₀.IsList l vs.toArray := hbs
  have hlv := hi.length
  k_dflt first | k_extra "mine enter" | k_extra "mine enterC"
  rename Fr h₀ _ _ _ => FG9
  have hbs2 := Fr.lst FG9 hbs
  clear hbs
  k_steps
  all_goals (
    refine' Mine.Hold.mk (Mine.iter_range_inv (Mine.JPool imm _) (if 20 < ns.length then 20 else ns.length) rfl (by k_asm) ?hb ?hn ?F ?N ?h0 ?step ?fin)
    case hb => first | (split <;> split <;> omega)
    case hn => split <;> omega
    case F => k_asm
    case N => k_asm
    case h0 =>
      refine' (Mine.ex3 _ _ none ⟨?g1, ?g2, sh_init (by exact if_pos rfl) (by first | rfl | (with_unfolding_all rfl) | decide), rfl⟩)
      case g1 => exact Int.add_nonneg (Mine.fmod_bnd (b := 2147483629) (by decide)).1 (by decide)
      case g2 => exact Int.lt_of_lt_of_le (Int.add_lt_add_right (Mine.fmod_bnd (b := 2147483629) (by decide)).2 17) (by decide)
    case step =>
      intro I hI i t m₁ news₁ h tk hi hJ hof F1 N1
      (k_dflt (refine' Mine.exe3 (hJ) ?_); intro b tb ob hz9; k_dflt (refine' Mine.ane4 hz9 ?_); clear hz9; intro h1 h2 er2 er3; subst er2; subst er3; clear hJ)
      have hi2 : i < ns.length := by split at hi <;> omega
      k_steps
      all_goals (
        refine Mine.Hold.mk ?_
        refine' Mine.endU ?eF ?eN ?eD ?eoff (Mine.ex3 _ _ (some _) ⟨?g1, ?g2, ?g3, rfl⟩)
        case eF => k_asm
        case eN => k_asm
        case eD => k_extra "mine drop"
        case eoff => (k_extra "mine flat"; k_extra "mine off")
        case g3 => exact sh_step
        case g1 => exact (Mine.fmod_bnd (b := 2147483647) (by decide)).1
        case g2 => exact (Mine.fmod_bnd (b := 2147483647) (by decide)).2)
    case fin =>
      intro m₁ news₁ h tk hJ F1 N1
      (k_dflt (refine' Mine.exe3 (hJ) ?_); intro b tb ob hz9; k_dflt (refine' Mine.ane4 hz9 ?_); clear hz9; intro h1 h2 er2 er3; subst er2; subst er3; clear hJ)
      k_steps
      all_goals (
        refine' ret _ _ _ _ ?eF ?eN (Mine.ex4 _ _ _ _ ⟨rfl, SrcO.mk ?g1 ⟨by k_asm, by k_asm⟩, rfl, ?gp, ?ga, ?go⟩)
        case eF => k_asm
        case eN => k_asm
        case gp => k_extra "mine pre"
        case ga => (k_extra "mine flat"; k_extra "mine above")
        case go => (k_extra "mine flat"; k_extra "mine off")
        case g1 => first | decide | omega))
end Mine
end
section
open PySem PySem.W PyProof.Rows PySem.Spec PySem.Calls
namespace Mine
section
variable {prog : Program} {w : World} {p : Program} {loose : List Str} {mean : ExcName → Option Value} {mg mb : Str → Option Value} {dp un : Nat} {gd : Option (List Code)} {cn : Str} {cs : Scope} {ca : Addr} {ccd : Value} {cl : List (Str × Addr)} {outer : List PySem.Env} {A₀ : Around} {base h₀ : Heap} {L : Addr} {m : Str → Option Value} {s : Shared} {Q E : Value → Shared → Prop}
theorem take_use {all r : Led} {sl : Addr} {o : Obj} {top : Int} {t : Tok}
    (B : Below A₀ base outer h₀) (F : Fr h₀ L s.heap m) (X : (Mine.H.KK w.params).In h₀) (N : News h₀ L s.heap all) (T : Top p loose mean mg mb h₀) (hk : cs.kind = .function)
    (D : Drop1 (sl, o) all r) (ho : SrcO o) (off : ∀ q ∈ r, q.1 ≠ sl) (h2 : 2 ≤ top) (h7 : top ≤ 7)
    (hd : dp + 10 < recursionLimit) (hu : un + 100 < cLine)
    (ret : ∀ k t' o' h' tk', Fr h₀ L h' m → News h₀ L h' ((sl, o') :: r) → 0 ≤ k → k < top → SrcO o' → Q (.int k t') { s with heap := h', toks := tk' }) :
    wpAny (model prog w) (ktrTop dp un gd cn cs L ca ccd cl outer) (call (.ref 1238) [.ref sl, .int top t]) Q E s := by
  refine spec_use0 B F X (news_M1 N D) T hk (take_ok prog w sl o top t r off ho h2 h7) hd hu fun v h' tk' news' F' N' P => ?_
  obtain ⟨k, t', o', rfl, h0, h1, ho', rfl⟩ := P
  exact ret k t' o' h' tk' F' N' h0 h1 ho'
end
noncomputable def sht (a b c : Str) (o1 o2 o3 : Option Value) (m₀ : Str → Option Value) : Str → Option Value := fun y => if y = a then o1 else if y = b then o2 else if y = c then o3 else m₀ y
theorem sht_init {a b c : Str} {m₀ : Str → Option Value} : m₀ = sht a b c (m₀ a) (m₀ b) (m₀ c) m₀ := by
  funext y
  unfold sht
  split
  · next h => rw [h]
  · split
    · next h => rw [h]
    · split
      · next h => rw [h]
      · rfl
theorem sht_step {a b c : Str} {o1 o2 o3 : Option Value} {v1 v2 v3 : Value} {m₀ : Str → Option Value} : (fun y => if y = a then some v1 else (fun y => if y = b then some v2 else (fun y => if y = c then some v3 else sht a b c o1 o2 o3 m₀ y) y) y) = sht a b c (some v1) (some v2) (some v3) m₀ := by
  funext y
  unfold sht
  by_cases h1 : y = a
  · simp only [h1, if_true]
  · by_cases h2 : y = b
    · simp only [h1, h2, if_true, if_false]
    · by_cases h3 : y = c
      · simp only [h1, h2, h3, if_true, if_false]
      · simp only [h1, h2, h3, if_false]
noncomputable def xName (turn : Int) : Str := PySem.Str.ofString "x" ++ PySem.Str.ofString (toString turn)
noncomputable def lName (turn : Int) : Str := PySem.Str.ofString "l" ++ PySem.Str.ofString (toString turn)
noncomputable def It.pair : It → Prop
  | .one _ => False
  | .two _ _ => True
noncomputable def DrawPost (sl nl : Addr) (nv : List Value) (turn : Int) (imm : Led) (v : Value) (news' : Led) : Prop :=
  ∃ ra pt its tl o' nv' nn' r, v = .ref ra ∧ news' = (sl, o') :: (nl, listO (nv ++ nv') nn') :: r ∧ Pre r tl imm ∧ Above tl imm ∧ (∀ q ∈ tl, q.1 ≠ sl) ∧ (∀ q ∈ tl, q.1 ≠ nl) ∧ SrcO o' ∧ RowT tl ra (.draw pt its) ∧ (∀ it ∈ its, fits pt it) ∧ its.length ≤ 2 ∧ Strs nv' pt.names ∧ (∀ x ∈ pt.names, x = xName turn)
noncomputable def JDraw (sl il : Addr) (base : Led) (k : Int) (m₀ : Str → Option Value) (i : Nat) (m : Str → Option Value) (n : Led) : Prop :=
  ∃ o vs ms is tl r o1 o2 o3, n = (sl, o) :: (il, listO vs ms) :: r ∧ Pre r tl base ∧ Above tl base ∧ (∀ q ∈ r, q.1 ≠ sl) ∧ (∀ q ∈ r, q.1 ≠ il) ∧ SrcO o ∧ Its tl vs is ∧ (∀ it ∈ is, (k = 0 ↔ it.pair)) ∧ vs.length = i ∧ is.length = i ∧ m = sht "one" "other" "step" o1 o2 o3 m₀
section
variable {prog : Program} {w : World} {A : Around} {E : Value → Shared → Prop} {s : Shared} {env : PySem.Env} {h₀ : Heap} {x : Str} {body : List PySem.Stmt} {Q : Flow → Shared → Prop}
theorem iter_draw {sl il : Addr} {o : Obj} {ni : Nat} {base : Led} {k k3 : Int} {r : Addr} {t₀ u₀ v₀ : Tok} {m₀ : Str → Option Value}
    (_hk : k < 2) (N : News h₀ env.locals s.heap ((sl, o) :: (il, listO [] ni) :: base)) (hh : A.handled = none) (hr : IsRange s.heap r 0 k3 1 t₀ u₀ v₀) (h0 : 0 ≤ k3) (h3 : k3 < 3) (F : Fr h₀ env.locals s.heap m₀) (ho : SrcO o) (f1 : ∀ q ∈ base, q.1 ≠ sl) (f2 : ∀ q ∈ base, q.1 ≠ il)
    (step : ∀ I : Addr, (∀ p ∈ (sl, o) :: (il, listO [] ni) :: base, p.1 < I) → ∀ i t m news h tk, i < k3.toNat → JDraw sl il base k m₀ i m news → (∀ p ∈ news, p.1 ≠ I) → Fr h₀ env.locals h (fun y => if y = x then some (.int (0 + (i : Int)) t) else m y) → News h₀ env.locals h ((I, itR (0 + ((i + 1 : Nat) : Int)) ((k3.toNat : Int) - ((i + 1 : Nat) : Int))) :: news) →
      wpAny (model prog w) A (execs body env) (UnrPost h₀ env.locals { s with heap := h, toks := tk } I (itR (0 + ((i + 1 : Nat) : Int)) ((k3.toNat : Int) - ((i + 1 : Nat) : Int))) (JDraw sl il base k m₀ (i + 1)) Q) E { s with heap := h, toks := tk })
    (fin : ∀ m news h tk, JDraw sl il base k m₀ k3.toNat m news → Fr h₀ env.locals h m → News h₀ env.locals h news → Q .next { s with heap := h, toks := tk }) :
    wpAny (model prog w) A (pyIter (.ref r)) (fun it s₂ => LoopAtV prog w A h₀ env x body Q E it s₂) E s :=
  Mine.iter_range_inv (JDraw sl il base k m₀) k3.toNat hh hr (by omega) (by omega) F N
    ⟨o, [], ni, [], [], base, _, _, _, rfl, .done, .nil, f1, f2, ho, .nil, (fun _ h => nomatch h), rfl, rfl, sht_init⟩ step fin
end
theorem ne_two {a b I : Addr} {o o' : Obj} {r : Led} (h : ∀ p ∈ (a, o) :: (b, o') :: r, p.1 ≠ I) : @Ne Nat a I ∧ @Ne Nat b I ∧ ∀ p ∈ r, p.1 ≠ I := ⟨h (a, o) (.head _), h (b, o') (.tail _ (.head _)), fun p hp => h p (.tail _ (.tail _ hp))⟩
theorem lt_two {a b I : Addr} {o o' : Obj} {r : Led} (h : ∀ p ∈ (a, o) :: (b, o') :: r, @LT.lt Nat _ p.1 I) : @LT.lt Nat _ a I ∧ @LT.lt Nat _ b I ∧ ∀ p ∈ r, @LT.lt Nat _ p.1 I := ⟨h (a, o) (.head _), h (b, o') (.tail _ (.head _)), fun p hp => h p (.tail _ (.tail _ hp))⟩
theorem ne_nil9 {x : Addr} : ∀ p ∈ ([] : Led), p.1 ≠ x := fun _ h => nomatch h
theorem pr_snoc {is : List It} {k : Int} {x : It} (h : ∀ it ∈ is, (k = 0 ↔ it.pair)) (hx : k = 0 ↔ x.pair) : ∀ it ∈ is ++ [x], (k = 0 ↔ it.pair) := fun it hi => by
  rcases List.mem_append.mp hi with hi | hi
  · exact h it hi
  · rw [List.mem_singleton.mp hi]; exact hx
theorem fits_any {is : List It} : ∀ it ∈ is, fits .any it := fun _ _ => trivial
theorem fits_var {is : List It} {k : Int} {x : Str} (h : ∀ it ∈ is, (k = 0 ↔ it.pair)) (hk : ¬k = 0) : ∀ it ∈ is, fits (.var x) it := fun it hi => by
  cases it with
  | one _ => trivial
  | two _ _ => exact absurd ((h _ hi).mpr trivial) hk
theorem fits_lit {is : List It} {k : Int} (h : ∀ it ∈ is, (k = 0 ↔ it.pair)) (hk : ¬k = 0) : ∀ it ∈ is, fits .lit it := fun it hi => by
  cases it with
  | one _ => trivial
  | two _ _ => exact absurd ((h _ hi).mpr trivial) hk
theorem fits_pairN {is : List It} {k : Int} {x : Str} (h : ∀ it ∈ is, (k = 0 ↔ it.pair)) (hk : k = 0) : ∀ it ∈ is, fits (.pairN x) it := fun it hi => by
  cases it with
  | one _ => exact ((h _ hi).mp hk).elim
  | two _ _ => trivial
theorem fits_pairL {is : List It} {k : Int} {x : Str} (h : ∀ it ∈ is, (k = 0 ↔ it.pair)) (hk : k = 0) : ∀ it ∈ is, fits (.pairL x) it := fun it hi => by
  cases it with
  | one _ => exact ((h _ hi).mp hk).elim
  | two _ _ => trivial
end Mine
end
section
open PySem PySem.W PyProof.Rows PySem.Spec PySem.Calls
set_option maxHeartbeats 2000000
namespace Mine
theorem draw_ok (prog : Program) (w : World) (sl nl : Addr) (o : Obj) (nv : List Value) (nn : Nat) (turn : Int) (t : Tok) (imm : Led) (off1 : ∀ q ∈ imm, q.1 ≠ sl) (off2 : ∀ q ∈ imm, q.1 ≠ nl) (hne : @Ne Nat sl nl) (ho : SrcO o) (h0 : 0 ≤ turn) (h2 : turn ≤ 2) (hz : nv.length ≤ 10) :
  Spec prog w 1297 [.ref sl, .int turn t, .ref nl] 20 300 ((sl, o) :: (nl, listO nv nn) :: imm) (DrawPost sl nl nv turn imm) := by
  have tg0 : True := True.intro; have tg2 : True := True.intro; have tg29 : True := True.intro; have tg3 : True := True.intro; have tg30 : True := True.intro; have tg35 : True := True.intro; have tg36 : True := True.intro; have tg37 : True := True.intro; have tg39 : True := True.intro; have tg4 : True := True.intro
  intro p loose mean mg mb dp un gd cn cs ca ccd cl outer A₀ base h₀ L m s Q E B F X N T hk hd hu ret
  k_dflt first | k_extra "mine enter" | k_extra "mine enterC"
  k_steps
  all_goals skip
  · rename (_ < (2 : Int)) => hk2
    rename News _ _ _ _ => N9
    refine' Mine.Hold.mk (Mine.iter_draw hk2 N9 rfl ?hr ?h0 ?h3 ?F ?ho ?f1 ?f2 ?step ?fin)
    case hr => k_asm
    case h0 => k_asm
    case h3 => k_asm
    case F => k_asm
    case ho => k_asm
    case f1 => (k_extra "mine flat"; k_extra "mine off")
    case f2 => (k_extra "mine flat"; k_extra "mine off")
    case step =>
      intro I hI i t m₁ news₁ h tk hi hJ hof F N
      (k_dflt (refine' Mine.exe9 (hJ) ?_); intro o vs ms is tl r o1 o2 o3 hz9; k_dflt (refine' Mine.ane11 hz9 ?_); clear hz9; intro er0 hp hab g1 g2 ho1 hits hpr hl1 hl2 er10; subst er0; subst er10; clear hJ)
      have hp2 := hp.eq
      subst hp2
      clear hp
      obtain ⟨hI1, hI2, hI3⟩ := Mine.lt_two hI
      obtain ⟨hof1, hof2, hof3⟩ := Mine.ne_two hof
      k_steps
      all_goals (
        refine Mine.Hold.mk ?_
        k_extra "mine flat"
        rename News _ _ _ _ => N9
        have N7 := Mine.news_M1 (p := (_, listO (vs ++ [_]) _)) N9 (by k_extra "mine drop")
        have N8 := Mine.news_M1 (p := (sl, _)) N7 (by k_extra "mine drop")
        refine' Mine.endU ?eF N8 ?eD ?eoff (Mine.ex9 _ _ _ _ _ _ (some _) (some _) (some _) ⟨rfl, ?gp, ?gab, ?g1, ?g2, ?go, ?gits, ?gpr, ?gl1, ?gl2, ?gsh⟩)
        case eF => k_asm
        case eD => k_extra "mine drop"
        case eoff => k_extra "mine off"
        case gp => k_extra "mine pre"
        case gab => k_extra "mine above"
        case g1 => k_extra "mine off"
        case g2 => k_extra "mine off"
        case go => k_asm
        case gits =>
          refine' Its.app (Its.mono ?sb hits) ?tail
          case sb => k_extra "mine subs"
          case tail => first | exact .two (by k_mem) .nil | exact .one .nil
        case gpr => first | exact Mine.pr_snoc hpr ⟨fun _ => trivial, fun _ => by k_asm⟩ | exact Mine.pr_snoc hpr ⟨fun e => absurd e (by k_asm), fun h => False.elim h⟩
        case gl1 => (rw [List.length_append, hl1]; rfl)
        case gl2 => (rw [List.length_append, hl2]; rfl)
        case gsh => exact sht_step)
    case fin =>
      intro m₁ news₁ h tk hJ F N
      (k_dflt (refine' Mine.exe9 (hJ) ?_); intro o vs ms is tl r o1 o2 o3 hz9; k_dflt (refine' Mine.ane11 hz9 ?_); clear hz9; intro er0 hp hab g1 g2 ho1 hits hpr hl1 hl2 er10; subst er0; subst er10; clear hJ)
      have hp2 := hp.eq
      subst hp2
      clear hp
      k_steps
      all_goals (
        k_extra "mine flat"
        rename News h₀ _ _ _ => N9
        have N7 := Mine.news_M1 (p := (nl, listO _ _)) N9 (by k_extra "mine drop")
        have N8 := Mine.news_M1 (p := (sl, _)) N7 (by k_extra "mine drop")
        first
        | (refine' ret _ _ _ _ ?eF N8 (Mine.ex8 _ _ is _ _ _ _ _ ⟨rfl, rfl, ?gp, ?gab, ?gs, ?gn, ?go, .draw ?g1 ?g2 ?g3 (hits.mono ?g4) ?g5, ?gfit, ?glen, ?gstr, ?gnm⟩))
        | (refine' ret _ _ _ _ ?eF N8 (Mine.ex8 _ _ is _ _ [] _ _ ⟨rfl, by rw [List.append_nil], ?gp, ?gab, ?gs, ?gn, ?go, .draw ?g1 ?g2 ?g3 (hits.mono ?g4) ?g5, ?gfit, ?glen, ?gstr, ?gnm⟩))
        case eF => k_asm
        case gp => k_extra "mine pre"
        case g1 => k_mem
        case gab => k_extra "mine above"
        case gs => k_extra "mine off"
        case gn => k_extra "mine off"
        case go => k_asm
        case g3 => k_mem
        case g2 => first | exact .any (by k_mem) | exact .var (by k_mem) | exact .lit (by k_mem) | exact .pairN (by k_mem) | exact .pairL (by k_mem)
        case g4 => k_extra "mine subs"
        case g5 => omega
        case gfit => first | exact Mine.fits_any | exact Mine.fits_var hpr (by k_asm) | exact Mine.fits_lit hpr (by k_asm) | exact Mine.fits_pairN hpr (by k_asm) | exact Mine.fits_pairL hpr (by k_asm) | (exfalso; omega)
        case glen => omega
        case gstr => first | exact .nil | exact .cons .nil
        case gnm => first | exact fun _ h => absurd (h : _ ∈ ([] : List Str)) List.not_mem_nil | (intro _ h; rw [List.mem_singleton.mp h]; rfl))
end Mine
end
section
open PySem PySem.W PyProof.Rows PySem.Spec PySem.Calls
set_option genSizeOf false
namespace Mine
inductive Built : Nat → List Row → List Str → Prop where
  | nil : Built 0 [] []
  | draw {k rs ns p its} : Built k rs ns → (∀ it ∈ its, fits p it) → (∀ x ∈ p.names, x = xName (k : Nat)) → Built (k + 1) (rs ++ [.draw p its]) (ns ++ p.names)
  | cond {k rs ns some c} : Built k rs ns → (∀ x ∈ some, x ∈ ns) → some.length ≤ ns.length → Built (k + 1) (rs ++ [.cond some c]) ns
  | bnd {k rs ns some c} : Built k rs ns → (∀ x ∈ some, x ∈ ns) → some.length ≤ ns.length → Built (k + 1) (rs ++ [.bnd (lName (k : Nat)) some c]) (ns ++ [lName (k : Nat)])
theorem Built.rows {k : Nat} {rs : List Row} {ns : List Str} (h : Built k rs ns) : rs.length = k := by
  induction h with
  | nil => rfl
  | draw _ _ _ ih => simp [ih]
  | cond _ _ _ ih => simp [ih]
  | bnd _ _ _ ih => simp [ih]
theorem Pat.names_len (p : Pat) : p.names.length ≤ 1 := by cases p <;> simp [Pat.names]
theorem Built.len {k : Nat} {rs : List Row} {ns : List Str} (h : Built k rs ns) : ns.length ≤ k := by
  induction h with
  | nil => exact Nat.le_refl _
  | @draw _ _ _ p _ _ _ _ ih => have := p.names_len; simp only [List.length_append]; omega
  | cond _ _ _ ih => omega
  | bnd _ _ _ ih => simp only [List.length_append, List.length_cons, List.length_nil]; omega
theorem Built.from {k : Nat} {rs : List Row} {ns : List Str} (h : Built k rs ns) : ∀ x ∈ ns, ∃ i : Nat, i < k ∧ (x = xName i ∨ x = lName i) := by
  induction h with
  | nil => exact fun _ h => absurd h List.not_mem_nil
  | draw _ _ hn ih =>
    intro x hx
    rcases List.mem_append.mp hx with hx | hx
    · obtain ⟨i, hi, e⟩ := ih x hx; exact ⟨i, by omega, e⟩
    · exact ⟨_, Nat.lt_succ_self _, .inl (hn x hx)⟩
  | cond _ _ _ ih => intro x hx; obtain ⟨i, hi, e⟩ := ih x hx; exact ⟨i, by omega, e⟩
  | bnd _ _ _ ih =>
    intro x hx
    rcases List.mem_append.mp hx with hx | hx
    · obtain ⟨i, hi, e⟩ := ih x hx; exact ⟨i, by omega, e⟩
    · exact ⟨_, Nat.lt_succ_self _, .inr (List.mem_singleton.mp hx)⟩
theorem names_good : ∀ i : Fin 3, xName ((i.val : Nat) : Int) ∈ goods ∧ lName ((i.val : Nat) : Int) ∈ goods := by decide +kernel
theorem names_apart : ∀ i j : Fin 3, i ≠ j → lName ((i.val : Nat) : Int) ≠ xName ((j.val : Nat) : Int) ∧ lName ((i.val : Nat) : Int) ≠ lName ((j.val : Nat) : Int) := by decide +kernel
theorem Built.new {k : Nat} {rs : List Row} {ns : List Str} (h : Built k rs ns) (hk : k < 3) : lName (k : Nat) ∉ ns := fun hm => by
  obtain ⟨i, hi, e⟩ := h.from _ hm
  have := names_apart ⟨k, hk⟩ ⟨i, by omega⟩ (by intro q; have := congrArg Fin.val q; simp at this; omega)
  rcases e with e | e
  · exact this.1 e
  · exact this.2 e
noncomputable def WFP (P : List Str → Prop) : List Row → List Str → Prop
  | [], dom => P dom
  | .draw p its :: rs, dom => (∀ it ∈ its, fits p it) ∧ (∀ x ∈ p.names, x ∈ goods) ∧ WFP P rs (p.names ++ dom)
  | .bnd x ns _ :: rs, dom => x ∈ goods ∧ (∀ y ∈ ns, y ∈ dom) ∧ ns.length ≤ 2 ∧ WFP P rs (x :: dom)
  | .cond ns _ :: rs, dom => (∀ y ∈ ns, y ∈ dom) ∧ ns.length ≤ 2 ∧ WFP P rs dom
theorem wfp_wf {wanted : List Str} : ∀ (rs : List Row) (dom : List Str), WFP (fun d => ∀ x ∈ wanted, x ∈ d) rs dom → WF wanted rs dom
  | [], _, h => h
  | .draw _ _ :: rs, _, h => ⟨h.1, h.2.1, wfp_wf rs _ h.2.2⟩
  | .bnd _ _ _ :: rs, _, h => ⟨h.1, h.2.1, h.2.2.1, wfp_wf rs _ h.2.2.2⟩
  | .cond _ _ :: rs, _, h => ⟨h.1, h.2.1, wfp_wf rs _ h.2.2⟩
theorem wfp_append {P : List Str → Prop} {rs2 : List Row} : ∀ (rs : List Row) (dom : List Str), WFP (fun d => WFP P rs2 d) rs dom → WFP P (rs ++ rs2) dom
  | [], _, h => h
  | .draw _ _ :: rs, _, h => ⟨h.1, h.2.1, wfp_append rs _ h.2.2⟩
  | .bnd _ _ _ :: rs, _, h => ⟨h.1, h.2.1, h.2.2.1, wfp_append rs _ h.2.2.2⟩
  | .cond _ _ :: rs, _, h => ⟨h.1, h.2.1, wfp_append rs _ h.2.2⟩
theorem Built.wfp {k : Nat} {rs : List Row} {ns : List Str} (h : Built k rs ns) (hk : k ≤ 3) : ∀ P : List Str → Prop, (∀ d : List Str, (∀ x ∈ ns, x ∈ d) → P d) → WFP P rs [] := by
  induction h with
  | nil => exact fun P hP => hP [] fun _ h => h
  | @draw k rs ns p its hb hf hn ih =>
    intro P hP
    refine wfp_append rs [] (ih (by omega) _ fun d hd => ⟨hf, fun x hx => ?_, hP _ fun x hx => ?_⟩)
    · rw [hn x hx]; exact (names_good ⟨k, by omega⟩).1
    · rcases List.mem_append.mp hx with hx | hx
      · exact List.mem_append_right _ (hd x hx)
      · exact List.mem_append_left _ hx
  | @cond k rs ns some c hb hs hl ih =>
    intro P hP
    have := hb.len
    exact wfp_append rs [] (ih (by omega) _ fun d hd => ⟨fun y hy => hd y (hs y hy), by omega, hP d hd⟩)
  | @bnd k rs ns some c hb hs hl ih =>
    intro P hP
    have := hb.len
    refine wfp_append rs [] (ih (by omega) _ fun d hd => ⟨(names_good ⟨k, by omega⟩).2, fun y hy => hd y (hs y hy), by omega, hP _ fun x hx => ?_⟩)
    rcases List.mem_append.mp hx with hx | hx
    · exact .tail _ (hd x hx)
    · rw [List.mem_singleton.mp hx]; exact .head _
theorem Built.wf {k : Nat} {rs : List Row} {ns : List Str} (h : Built k rs ns) (hk : k ≤ 3) (wanted : List Str) (hw : ∀ x ∈ wanted, x ∈ ns) : WF wanted rs [] := wfp_wf rs [] (h.wfp hk _ fun _ hd x hx => hd x (hw x hx))
noncomputable def RowOK : Row → Prop
  | .bnd x ns _ => ns.length ≤ 2 ∧ x ∉ ns
  | _ => True
theorem Built.ok {k : Nat} {rs : List Row} {ns : List Str} (h : Built k rs ns) (hk : k ≤ 3) : ∀ r ∈ rs, RowOK r := by
  induction h with
  | nil => exact fun _ h => absurd h List.not_mem_nil
  | draw hb _ _ ih =>
    intro r hr
    rcases List.mem_append.mp hr with hr | hr
    · exact ih (by omega) r hr
    · rw [List.mem_singleton.mp hr]; trivial
  | cond hb _ _ ih =>
    intro r hr
    rcases List.mem_append.mp hr with hr | hr
    · exact ih (by omega) r hr
    · rw [List.mem_singleton.mp hr]; trivial
  | bnd hb hs hl ih =>
    intro r hr
    rcases List.mem_append.mp hr with hr | hr
    · exact ih (by omega) r hr
    · rw [List.mem_singleton.mp hr]; exact ⟨by have := hb.len; omega, fun hm => hb.new (by omega) (hs _ hm)⟩
theorem RowsT.snoc {l : Led} {vs : List Value} {rs : List Row} {a : Addr} {r : Row} (h : RowsT l vs rs) (k : RowT l a r) : RowsT l (vs ++ [.ref a]) (rs ++ [r]) := by
  induction h with
  | nil => exact .cons k .nil
  | cons h1 _ ih => exact .cons h1 ih
theorem Strs.app {vs us : List Value} {xs ys : List Str} (h : Strs vs xs) (k : Strs us ys) : Strs (vs ++ us) (xs ++ ys) := by
  induction h with
  | nil => exact k
  | cons _ ih => exact .cons ih
theorem lt_head {a I : Addr} {o : Obj} {r : Led} (h : ∀ p ∈ (a, o) :: r, @LT.lt Nat _ p.1 I) : @LT.lt Nat _ a I := h (a, o) (.head _)
structure IsSrc (sl : Addr) : Prop where
section
variable {prog : Program} {w : World} {A : Around} {E : Value → Shared → Prop} {h₀ : Heap} {L : Addr} {m : Str → Option Value} {env : PySem.Env} {ct elt : PySem.Expr} {x : Str} {scope : Scope} {cl : List (Str × Addr)}
theorem some_src {vs : List Value} {ns : List Str} {Fin : Shared → List Value → Led → Prop} {ax sl : Addr} {o : Obj} {n : Nat} {all base : Led} {s₁ : Shared}
    (_i : IsSrc sl) (hh : A.handled = none) (F : Fr h₀ L s₁.heap m) (N : News h₀ L s₁.heap all) (D : Drop1 (sl, o) all base) (ho : SrcO o) (hm : (ax, listO vs n) ∈ base) (hs : Strs vs ns) (hsz : ns.length ≤ 1000)
    (step : ∀ y t ys o I oI C oC D m₂ h tk (E' : Value → Shared → Prop), y ∈ ns → SrcO o → LCg.NsObj oC m₂ → m₂ x = some (.str y t) → Fr h₀ L h m → News h₀ L h ((I, oI) :: (C, oC) :: (D, LCg.lst ys) :: (sl, o) :: base) → LCg.Off3 I C D ((sl, o) :: base) → ((@Ne Nat I C) ∧ (@Ne Nat I D) ∧ (@Ne Nat C D)) → (@Ne Nat I sl ∧ @Ne Nat C sl ∧ @Ne Nat D sl) →
      wpAny (model prog w) A (isTrue ct (compEnvC scope cl C env) (eval ct (compEnvC scope cl C env))) (fun ok s' => if ok = true then
        wpAny (model prog w) A (eval elt (compEnvC scope cl C env)) (LCg.CompEnd h₀ L m { s₁ with heap := h, toks := tk } I oI C oC D (LCg.lst ys) (LCg.SrcAt h₀ ax vs.toArray) (fun v news' => (∃ t, v = .str y t) ∧ ∃ o', SrcO o' ∧ news' = (sl, o') :: base)) E' s'
        else LCg.CompEnd h₀ L m { s₁ with heap := h, toks := tk } I oI C oC D (LCg.lst ys) (LCg.SrcAt h₀ ax vs.toArray) (fun _ news' => ∃ o', SrcO o' ∧ news' = (sl, o') :: base) Value.none s') E' { s₁ with heap := h, toks := tk })
    (fin : ∀ g ys done o', Strs ys done → (∀ y ∈ done, y ∈ ns) → done.length ≤ ns.length → SrcO o' → Fin { s₁ with heap := g } ys ((sl, o') :: base)) :
    LCt.CompSrcT prog w A h₀ L m env ct elt x scope cl Fin (.ref ax) s₁ := by
  refine compT_src (fun r ys nw => ∃ nms done o', Strs r nms ∧ Strs ys done ∧ (∀ y ∈ done, y ∈ ns) ∧ (∀ y ∈ nms, y ∈ ns) ∧ done.length + nms.length ≤ ns.length ∧ SrcO o' ∧ nw = (sl, o') :: base) hh F (news_M1 N D) (.tail _ hm) (by rw [hs.len]; exact hsz)
    ⟨ns, [], o, hs, .nil, (fun _ h => absurd h List.not_mem_nil), (fun _ h => h), by simp, ho, rfl⟩ ?_ ?_
  · intro v r ys nw I oI C oC D m₂ h tk E' hJ hC hx F1 N1 off ne
    obtain ⟨nms, done, o1, hs', hd', hin, hin2, hl, ho1, rfl⟩ := hJ
    cases hs' with
    | @cons y t _ nms hs'' =>
      simp only [List.length_cons] at hl
      have hy := hin2 y (.head _)
      have hr2 := fun z hz => hin2 z (.tail _ hz)
      refine wpAny_mono (step y t ys o1 I oI C oC D m₂ h tk E' hy ho1 hC hx F1 N1 off ne ⟨Ne.symm off.1.1, Ne.symm off.1.2.1, Ne.symm off.1.2.2⟩) (fun ok s' hq => ?_) fun _ _ e => e
      cases ok with
      | true =>
        simp only [if_true] at hq ⊢
        refine wpAny_mono hq (fun v s₃ hr => ?_) fun _ _ e => e
        obtain ⟨h', tk', nw', e, F', N', off', hS, ⟨t', rfl⟩, o2, ho2, rfl⟩ := hr
        refine ⟨h', tk', _, e, F', N', off', hS, nms, done ++ [y], o2, hs'', hd'.app (.cons .nil), fun z hz => ?_, hr2, by simp only [List.length_append, List.length_cons, List.length_nil]; omega, ho2, rfl⟩
        rcases List.mem_append.mp hz with hz | hz
        · exact hin z hz
        · rw [List.mem_singleton.mp hz]; exact hy
      | false =>
        simp only [Bool.false_eq_true, if_false] at hq ⊢
        obtain ⟨h', tk', nw', e, F', N', off', hS, o2, ho2, rfl⟩ := hq
        exact ⟨h', tk', _, e, F', N', off', hS, nms, done, o2, hs'', hd', hin, hr2, by omega, ho2, rfl⟩
  · intro g ys nw hJ
    obtain ⟨nms, done, o1, hs', hd', hin, _, hl, ho1, rfl⟩ := hJ
    exact fin g ys done o1 hd' hin (by omega) ho1
theorem comp_endS {I C D sl : Addr} {s₁ : Shared} {oI oC oD o o' : Obj} {S : Led → Prop} {rest : Value → Led → Prop} {y : Value} {h' : Heap} {tk : Nat} {base : Led}
    (F : Fr h₀ L h' m) (N : News h₀ L h' ((sl, o') :: (I, oI) :: (C, oC) :: (D, oD) :: base)) (off : LCg.Off3 I C D ((sl, o) :: base)) (hS : S ((sl, o') :: base)) (r : rest y ((sl, o') :: base)) :
    LCg.CompEnd h₀ L m s₁ I oI C oC D oD S rest y { s₁ with heap := h', toks := tk } :=
  LCg.CompEnd.intro F N ((sl, o') :: base) (fun p hp => by simp only [List.mem_cons] at hp ⊢; rcases hp with h | h | h | h | h <;> simp [h]) off hS r
end
section
variable {prog : Program} {w : World} {p : Program} {loose : List Str} {mean : ExcName → Option Value} {mg mb : Str → Option Value} {dp un : Nat} {gd : Option (List Code)} {cn : Str} {cs : Scope} {ca : Addr} {ccd : Value} {cl : List (Str × Addr)} {outer : List PySem.Env} {A₀ : Around} {base h₀ : Heap} {L : Addr} {m : Str → Option Value} {s : Shared} {Q E : Value → Shared → Prop}
theorem draw_use {all r1 imm : Led} {sl nl : Addr} {o : Obj} {nv : List Value} {nn : Nat} {turn : Int} {t : Tok}
    (B : Below A₀ base outer h₀) (F : Fr h₀ L s.heap m) (X : (Mine.H.KK w.params).In h₀) (N : News h₀ L s.heap all) (T : Top p loose mean mg mb h₀) (hk : cs.kind = .function)
    (D1 : Drop1 (sl, o) all r1) (D2 : Drop1 (nl, listO nv nn) r1 imm) (off1 : ∀ q ∈ imm, q.1 ≠ sl) (off2 : ∀ q ∈ imm, q.1 ≠ nl) (hne : @Ne Nat sl nl) (ho : SrcO o) (h0 : 0 ≤ turn) (h2 : turn ≤ 2) (hz : nv.length ≤ 10)
    (hd : dp + 20 < recursionLimit) (hu : un + 300 < cLine)
    (ret : ∀ ra pt its tl o' nv' nn' h' tk', Fr h₀ L h' m → News h₀ L h' ((sl, o') :: (nl, listO (nv ++ nv') nn') :: (tl ++ imm)) → Above tl imm → (∀ q ∈ tl, q.1 ≠ sl) → (∀ q ∈ tl, q.1 ≠ nl) → SrcO o' → RowT tl ra (.draw pt its) → (∀ it ∈ its, fits pt it) → Strs nv' pt.names → (∀ x ∈ pt.names, x = xName turn) → Q (.ref ra) { s with heap := h', toks := tk' }) :
    wpAny (model prog w) (ktrTop dp un gd cn cs L ca ccd cl outer) (call (.ref 1297) [.ref sl, .int turn t, .ref nl]) Q E s := by
  refine spec_use0 B F X (fun q hq => ?_) T hk (draw_ok prog w sl nl o nv nn turn t imm off1 off2 hne ho h0 h2 hz) hd hu fun v h' tk' news' F' N' P => ?_
  · rcases List.mem_cons.mp hq with rfl | hq
    · exact N _ (D1.mem _ (.head _))
    · exact N _ (D1.mem _ (.tail _ (D2.mem _ hq)))
  obtain ⟨ra, pt, its, tl, o', nv', nn', r, rfl, rfl, hp, g1, g2, g3, g4, g5, g6, _, g8, g9⟩ := P
  have hp := hp.eq
  subst hp
  exact ret ra pt its tl o' nv' nn' h' tk' F' N' g1 g2 g3 g4 g5 g6 g8 g9
end
noncomputable def JStat (sl rl nl : Addr) (base : Led) (m₀ : Str → Option Value) (i : Nat) (m : Str → Option Value) (n : Led) : Prop :=
  ∃ o rv nv m1 m2 rs ns tl r o1 o2 o3, n = (sl, o) :: (rl, listO rv m1) :: (nl, listO nv m2) :: r ∧ Pre r tl base ∧ Above tl base ∧ (∀ q ∈ r, q.1 ≠ sl) ∧ (∀ q ∈ r, q.1 ≠ rl) ∧ (∀ q ∈ r, q.1 ≠ nl) ∧ SrcO o ∧ RowsT r rv rs ∧ Strs nv ns ∧ Built i rs ns ∧ m = sht "some" "way" "turn" o1 o2 o3 m₀
section
variable {prog : Program} {w : World} {A : Around} {E : Value → Shared → Prop} {s : Shared} {env : PySem.Env} {h₀ : Heap} {x : Str} {body : List PySem.Stmt} {Q : Flow → Shared → Prop}
theorem iter_stat {sl rl nl : Addr} {o : Obj} {n1 n2 : Nat} {all base r1 r2 : Led} {k3 : Int} {r : Addr} {t₀ u₀ v₀ : Tok} {m₀ : Str → Option Value}
    (_i : IsSrc sl) (_e1 : m₀ "rows" = some (.ref rl)) (_e2 : m₀ "names" = some (.ref nl)) (N : News h₀ env.locals s.heap all) (D0 : Drop1 (sl, o) all r1) (D1 : Drop1 (rl, listO [] n1) r1 r2) (D2 : Drop1 (nl, listO [] n2) r2 base) (hh : A.handled = none) (hr : IsRange s.heap r 0 (1 + k3) 1 t₀ u₀ v₀) (h0 : 0 ≤ k3) (h3 : k3 < 3) (F : Fr h₀ env.locals s.heap m₀) (ho : SrcO o)
    (f1 : ∀ q ∈ base, q.1 ≠ sl) (f2 : ∀ q ∈ base, q.1 ≠ rl) (f3 : ∀ q ∈ base, q.1 ≠ nl)
    (step : ∀ I : Addr, (∀ p ∈ (sl, o) :: (rl, listO [] n1) :: (nl, listO [] n2) :: base, p.1 < I) → ∀ i t m news h tk, i < (1 + k3).toNat → JStat sl rl nl base m₀ i m news → (∀ p ∈ news, p.1 ≠ I) → Fr h₀ env.locals h (fun y => if y = x then some (.int (0 + (i : Int)) t) else m y) → News h₀ env.locals h ((I, itR (0 + ((i + 1 : Nat) : Int)) (((1 + k3).toNat : Int) - ((i + 1 : Nat) : Int))) :: news) →
      wpAny (model prog w) A (execs body env) (UnrPost h₀ env.locals { s with heap := h, toks := tk } I (itR (0 + ((i + 1 : Nat) : Int)) (((1 + k3).toNat : Int) - ((i + 1 : Nat) : Int))) (JStat sl rl nl base m₀ (i + 1)) Q) E { s with heap := h, toks := tk })
    (fin : ∀ m news h tk, JStat sl rl nl base m₀ (1 + k3).toNat m news → Fr h₀ env.locals h m → News h₀ env.locals h news → Q .next { s with heap := h, toks := tk }) :
    wpAny (model prog w) A (pyIter (.ref r)) (fun it s₂ => LoopAtV prog w A h₀ env x body Q E it s₂) E s :=
  Mine.iter_range_inv (JStat sl rl nl base m₀) (1 + k3).toNat hh hr (by omega) (by omega) F (news_M3 N D0 D1 D2)
    ⟨o, [], [], n1, n2, [], [], [], base, _, _, _, rfl, .done, .nil, f1, f2, f3, ho, .nil, .nil, .nil, sht_init⟩ step fin
end
noncomputable def StatPost (sl : Addr) (imm : Led) (v : Value) (news' : Led) : Prop :=
  ∃ ra rl nl rv nv rs ns tl r o' n1 n2 n3 k, v = .ref ra ∧ news' = (sl, o') :: r ∧ Pre r tl imm ∧ Above tl imm ∧ (∀ q ∈ tl, q.1 ≠ sl) ∧ SrcO o' ∧ (ra, tupO [.ref rl, .ref nl] n1) ∈ tl ∧ (rl, listO rv n2) ∈ tl ∧ (nl, listO nv n3) ∈ tl ∧ RowsT r rv rs ∧ Strs nv ns ∧ Built k rs ns ∧ k ≤ 3
end Mine
end
section
open PySem PySem.W PyProof.Rows PySem.Spec PySem.Calls
set_option maxHeartbeats 2000000
namespace Mine
theorem stat_ok (prog : Program) (w : World) (sl : Addr) (o : Obj) (imm : Led) (off : ∀ q ∈ imm, q.1 ≠ sl) (ho : SrcO o) :
  Spec prog w 1290 [.ref sl] 60 600 ((sl, o) :: imm) (StatPost sl imm) := by
  have tg0 : True := True.intro; have tg2 : True := True.intro; have tg22 : True := True.intro; have tg29 : True := True.intro; have tg3 : True := True.intro; have tg30 : True := True.intro; have tg32 : True := True.intro; have tg35 : True := True.intro; have tg36 : True := True.intro; have tg37 : True := True.intro; have tg39 : True := True.intro; have tg4 : True := True.intro
  intro p loose mean mg mb dp un gd cn cs ca ccd cl outer A₀ base h₀ L m s Q E B F X N T hk hd hu ret
  have hsrc : IsSrc sl := ⟨⟩
  k_dflt first | k_extra "mine enter" | k_extra "mine enterC"
  k_steps
  all_goals skip
  · rename News _ _ _ _ => N9
    refine' Mine.Hold.mk (Mine.iter_stat hsrc ?e1 ?e2 N9 ?D0 ?D1 ?D2 rfl ?hr ?h0 ?h3 ?F ?ho ?f1 ?f2 ?f3 ?step ?fin)
    case F => k_asm
    case e1 => exact if_pos rfl
    case e2 => exact (if_neg (by decide)).trans (if_pos rfl)
    case D0 => k_extra "mine drop"
    case D1 => k_extra "mine drop"
    case D2 => k_extra "mine drop"
    case hr => k_asm
    case h0 => k_asm
    case h3 => k_asm
    case ho => k_asm
    case f1 => (k_extra "mine flat"; k_extra "mine off")
    case f2 => (k_extra "mine flat"; k_extra "mine off")
    case f3 => (k_extra "mine flat"; k_extra "mine off")
    case step =>
      intro I hI i t m₁ news₁ h tk hi hJ hof F N
      (k_dflt (refine' Mine.exe12 (hJ) ?_); intro o rv nv m1 m2 rs ns tl r o1 o2 o3 hz9; k_dflt (refine' Mine.ane11 hz9 ?_); clear hz9; intro er0 hp hab g1 g2 g3 ho1 hrows hstr hb er10; subst er0; subst er10; clear hJ)
      have hp2 := hp.eq
      subst hp2
      clear hp
      have hbl := hb.len
      have hbr := hb.rows
      have hrl := hrows.len
      have hsl := hstr.len
      simp only [Int.zero_add] at F
      obtain ⟨hI1, hI2, hI3⟩ := Mine.lt_two hI
      obtain ⟨hof1, hof2, hof3⟩ := Mine.ne_two hof
      have hof4 := Mine.ne_tail hof3
      have hI4 := Mine.lt_head hI3
      k_steps
      all_goals (
        refine Mine.Hold.mk ?_
        k_extra "mine flat"
        rename News _ _ _ _ => N9
        first | (have N6 := Mine.news_M1 (p := (_, listO (nv ++ _) _)) N9 (by k_extra "mine drop")) | (have N6 := Mine.news_M1 (p := (_, listO nv _)) N9 (by k_extra "mine drop"))
        have N7 := Mine.news_M1 (p := (_, listO (rv ++ [_]) _)) N6 (by k_extra "mine drop")
        have N8 := Mine.news_M1 (p := (sl, _)) N7 (by k_extra "mine drop")
        refine' Mine.endU ?eF N8 ?eD ?eoff (Mine.ex12 _ _ _ _ _ _ _ _ _ (some _) (some _) (some _) ⟨rfl, ?gp, ?gab, ?g1, ?g2, ?g3, ?go, ?grow, ?gstr, ?gb, ?gsh⟩)
        case eF => k_asm
        case eD => k_extra "mine drop"
        case eoff => k_extra "mine off"
        case gp => k_extra "mine pre"
        case gab => k_extra "mine above"
        case g1 => k_extra "mine off"
        case g2 => k_extra "mine off"
        case g3 => k_extra "mine off"
        case go => k_asm
        case grow =>
          refine' RowsT.snoc (RowsT.mono ?sb hrows) ?row
          case sb => k_extra "mine subs"
          case row => first | exact .cond (by k_mem) (by k_mem) (by k_asm) | exact .bnd (by k_mem) (by k_mem) (by k_asm) | (refine' RowT.mono ?sc ?tt; (case tt => with_reducible assumption); (case sc => k_extra "mine subs"))
        case gstr => first | exact hstr | exact hstr.app (.cons .nil) | exact hstr.app (by k_asm)
        case gb => first | exact .cond hb (by k_asm) (by k_asm) | exact .bnd hb (by k_asm) (by k_asm) | exact .draw hb (by k_asm) (by k_asm)
        case gsh => exact sht_step)
    case fin =>
      intro m₁ news₁ h tk hJ F N
      (k_dflt (refine' Mine.exe12 (hJ) ?_); intro o rv nv m1 m2 rs ns tl r o1 o2 o3 hz9; k_dflt (refine' Mine.ane11 hz9 ?_); clear hz9; intro er0 hp hab g1 g2 g3 ho1 hrows hstr hb er10; subst er0; subst er10; clear hJ)
      have hp2 := hp.eq
      subst hp2
      clear hp
      k_steps
      all_goals (
        k_extra "mine flat"
        rename News h₀ _ _ _ => N9
        have N8 := Mine.news_M1 (p := (sl, _)) N9 (by k_extra "mine drop")
        refine' ret _ _ _ _ ?eF N8 (Mine.ex14 _ _ _ rv nv rs ns _ _ _ _ _ _ _ ⟨rfl, rfl, ?gp, ?gab, ?gs, ?go, ?m1, ?m2, ?m3, ?grow, hstr, hb, ?gk⟩)
        case eF => k_asm
        case gp => k_extra "mine pre"
        case gab => k_extra "mine above"
        case gs => k_extra "mine off"
        case go => k_asm
        case m1 => k_mem
        case m2 => k_mem
        case m3 => k_mem
        case grow => exact hrows.mono (by k_extra "mine subs")
        case gk => omega)
end Mine
end
section
open PySem PySem.W PyProof.Rows PySem.Spec PySem.Calls
namespace Mine
noncomputable def ShortR : Row → Prop
  | .draw _ its => its.length ≤ 2
  | _ => True
theorem Its.len9 {news : Led} {vs : List Value} {its : List It} (h : Its news vs its) : its.length = vs.length := by
  induction h with
  | nil => rfl
  | one _ ih => simp [ih]
  | two _ _ ih => simp [ih]
theorem RowsT.short {l : Led} {vs : List Value} {rs : List Row} (h : RowsT l vs rs) : ∀ r ∈ rs, ShortR r := by
  induction h with
  | nil => exact fun _ h => absurd h List.not_mem_nil
  | cons a _ ih =>
    intro r hr
    rcases List.mem_cons.mp hr with rfl | hr
    · cases a with
      | draw _ _ _ d e => show _ ≤ 2; rw [d.len9]; exact e
      | cond _ _ _ => trivial
      | bnd _ _ _ => trivial
    · exact ih r hr
noncomputable def costB : Nat → Nat
  | 0 => 30
  | k + 1 => 36 + 2 * costB k
noncomputable def manyB : Nat → Nat
  | 0 => 1
  | k + 1 => 2 * manyB k
theorem cost_le : ∀ (rs : List Row), (∀ r ∈ rs, ShortR r) → cost rs ≤ costB rs.length
  | [], _ => Nat.le_refl _
  | .draw p its :: rs, h => by
    have h1 : its.length ≤ 2 := h (.draw p its) (.head _)
    have ih := cost_le rs fun r hr => h r (.tail _ hr)
    have h2 : its.length * (12 + cost rs) ≤ 2 * (12 + cost rs) := Nat.mul_le_mul_right _ h1
    simp only [cost, List.length_cons, costB]
    omega
  | .cond ns k :: rs, h => by
    have ih := cost_le rs fun r hr => h r (.tail _ hr)
    simp only [cost, List.length_cons, costB]
    omega
  | .bnd x ns k :: rs, h => by
    have ih := cost_le rs fun r hr => h r (.tail _ hr)
    simp only [cost, List.length_cons, costB]
    omega
theorem many_pos : ∀ k, 1 ≤ manyB k
  | 0 => Nat.le_refl _
  | k + 1 => by have := many_pos k; simp only [manyB]; omega
theorem results_le {wanted : List Str} {rs : List Row} {p : Pat} {kn : Kn} {b : Nat} (h : ∀ kn, (loops wanted rs kn).length ≤ b) : ∀ its : List It, (results wanted rs p kn its).length ≤ its.length * b
  | [] => by simp [results]
  | it :: its => by
    have ih := results_le (p := p) (kn := kn) h its
    have e : results wanted rs p kn (it :: its) = (match takenBy p it with | some t => loops wanted rs (t ++ kn) | none => []) ++ results wanted rs p kn its := rfl
    rw [e, List.length_append, List.length_cons, Nat.succ_mul]
    have : (match takenBy p it with | some t => loops wanted rs (t ++ kn) | none => []).length ≤ b := by
      cases takenBy p it with
      | none => exact Nat.zero_le _
      | some t => exact h _
    omega
theorem loops_le {wanted : List Str} : ∀ (rs : List Row), (∀ r ∈ rs, ShortR r) → ∀ kn, (loops wanted rs kn).length ≤ manyB rs.length
  | [], _, _ => by simp [loops, manyB]
  | .draw p its :: rs, h, kn => by
    have h1 : its.length ≤ 2 := h (.draw p its) (.head _)
    have ih := loops_le (wanted := wanted) rs fun r hr => h r (.tail _ hr)
    have := results_le (p := p) (kn := kn) ih its
    have h2 : its.length * manyB rs.length ≤ 2 * manyB rs.length := Nat.mul_le_mul_right _ h1
    rw [Mine.loops_draw]
    simp only [List.length_cons, manyB]
    omega
  | .cond ns k :: rs, h, kn => by
    have ih := loops_le (wanted := wanted) rs (fun r hr => h r (.tail _ hr)) kn
    have := many_pos rs.length
    simp only [loops, List.length_cons, manyB]
    split
    · omega
    · exact Nat.zero_le _
  | .bnd x ns k :: rs, h, kn => by
    have ih := loops_le (wanted := wanted) rs (fun r hr => h r (.tail _ hr)) ((x, sumN kn ns + k) :: kn)
    simp only [loops, List.length_cons, manyB]
    omega
theorem law_plain (wanted : List Str) (rs : List Row) (hw : wanted.length ≤ 3) (hwf : WF wanted rs []) (hlen : rs.length ≤ 3) (hs : ∀ r ∈ rs, ShortR r) :
    Stream 500 (comp wanted rs 0 (.con0 "[]")) .nil (loops wanted rs []) := by
  have hc := cost_le rs hs
  have hb : costB rs.length ≤ 492 := by
    have H : ∀ k : Fin 4, costB k.val ≤ 492 := by decide
    exact H ⟨rs.length, by omega⟩
  have h := comp_ok wanted hw rs 0 (.con0 "[]") [] .nil [] [] [] 1 3 hwf (fun _ h => absurd h List.not_mem_nil) (fun _ h => absurd h List.not_mem_nil) (fun _ h => absurd h List.not_mem_nil) (by omega) (by simp only [Env.len]; omega) (by omega) (by omega)
    (fun ρ' _ _ => .nil ((Ev.con0 (n := 0))))
  rw [List.append_nil] at h
  exact h.mono (by omega)
theorem law_many (wanted : List Str) (rs : List Row) (hlen : rs.length ≤ 3) (hs : ∀ r ∈ rs, ShortR r) : (loops wanted rs []).length ≤ 8 := by
  have h := loops_le (wanted := wanted) rs hs []
  have H : ∀ k : Fin 4, manyB k.val ≤ 8 := by decide
  exact Nat.le_trans h (H ⟨rs.length, by omega⟩)
end Mine
end
section
open PySem PySem.W PyProof.Rows PySem.Spec PySem.Calls
set_option maxHeartbeats 2000000
namespace Mine
theorem compr_ok (prog : Program) (w : World) (mk na nd d ex st : Addr) (o : Obj) (sv : List Value) (ns : Nat) (wanted : List Str) (rs : List Row) (imm : Led) (t1 t2 t3 : Tok) (off : OffM nd imm) (hnd : @LT.lt Nat _ 1112 nd) (hdo : o.IsDictOf (strKind prog w) []) (hmk : MakerIn w prog imm nd mk)
  (m1 : (na, instObj 626 d) ∈ imm) (m2 : (d, dictOf [at_ w "place" t1 .none, at_ w "expr" t2 (.ref ex), at_ w "statements" t3 (.ref st)] 3) ∈ imm) (hex : SumIn imm "sum" ex wanted 0) (m3 : (st, listO sv ns) ∈ imm) (hss : Stats w imm sv rs) (hlen : rs.length ≤ 3) :
  Spec prog w 1103 [.ref mk, .ref na] 320 5000 ((nd, o) :: (1112, tabObj #[]) :: (1041, tabObj #[]) :: imm) (ToldPost prog w nd (0 + draws rs) (0 + 2 * rs.length) (comp wanted rs 0 (.con0 "[]")) imm) := by
  have tg23 : True := True.intro; have tg30 : True := True.intro; have tg4 : True := True.intro; have tg40 : True := True.intro; have tg41 : True := True.intro
  intro p loose mean mg mb dp un gd cn cs ca ccd cl outer A₀ base h₀ L m s Q E B F X N T hk hd hu ret
  have hT := told_ok prog w wanted rs
  have hns : NumSt [] 0 0 := ⟨by omega, by omega, by simp, .inl ⟨rfl, rfl⟩, .inl ⟨rfl, rfl⟩, .inl ⟨rfl, rfl⟩, .inl ⟨rfl, rfl⟩, ⟨0, .inl ⟨rfl, rfl⟩, by omega, by omega⟩, ⟨0, .inl ⟨rfl, rfl⟩, by omega, by omega⟩⟩
  k_dflt first | k_extra "mine enter" | k_extra "mine enterC"
  k_steps
  all_goals (
    k_extra "mine flat"
    refine' ret _ _ _ _ ?eF ?eN (Mine.ex7 _ _ _ _ _ _ _ ⟨rfl, rfl, ?gp, ?goff, ?gd, ?gnum, ?gt1, ?gt2, ?gcore⟩)
    case eF => k_asm
    case eN =>
      refine' Mine.news_M3 (p := (nd, _)) (q := (1112, _)) (v := (1041, _)) ?n1 ?n2 ?n3 ?n4
      case n1 => k_asm
      case n2 => k_extra "mine drop"
      case n3 => k_extra "mine drop"
      case n4 => k_extra "mine drop"
    case gp => k_extra "mine pre"
    case goff => k_extra "mine offM"
    case gd => k_asm
    case gnum => k_asm
    case gt1 =>
      refine' Mine.TabSt.mono ?sb ?tt
      case tt => with_reducible assumption
      case sb => k_extra "mine sub"
    case gt2 =>
      refine' Mine.TabSt.mono ?sb ?tt
      case tt => with_reducible assumption
      case sb => k_extra "mine sub"
    case gcore => k_extra "mine core")
end Mine
end
section
open PySem PySem.W PyProof.Rows PySem.Spec PySem.Calls
namespace Mine
theorem stmt_ok (prog : Program) (w : World) (ra : Addr) (r : Row) (news0 news : Led) (hsub : ∀ q ∈ news0, q ∈ news) (hr : RowT news0 ra r) (ho : RowOK r) :
  Spec prog w 1311 [.ref ra] 40 400 news (fun v news' => ∃ a tl, v = .ref a ∧ Pre news' tl news ∧ StatIn w (tl ++ news0) a r ∧ Above tl news) := by
  cases r with
  | draw p its => exact sdraw_ok prog w ra p its news0 news hsub hr
  | cond ns k => exact scond_ok prog w ra ns k news0 news hsub hr
  | bnd x ns k => exact sbnd_ok prog w ra x ns k news0 news hsub hr ho.1 ho.2
theorem Stats.snoc {w : World} {l : Led} {vs : List Value} {rs : List Row} {a : Addr} {r : Row} (h : Stats w l vs rs) (k : StatIn w l a r) : Stats w l (vs ++ [.ref a]) (rs ++ [r]) := by
  induction h with
  | nil => exact .cons k .nil
  | cons h1 _ ih => exact .cons h1 ih
theorem Above.joinL {a t l : Led} (h : Above a (t ++ l)) (k : Above t l) : Above (a ++ t) l := fun q hq p hp => by
  rcases List.mem_append.mp hq with hq | hq
  · exact h q hq p (List.mem_append_right _ hp)
  · exact k q hq p hp
section
variable {prog : Program} {w : World} {A : Around} {E : Value → Shared → Prop} {h₀ : Heap} {L : Addr} {m : Str → Option Value} {env : PySem.Env} {elt : PySem.Expr} {x : Str} {scope : Scope} {cl : List (Str × Addr)}
theorem stmts_src {vs : List Value} {rs : List Row} {Fin : Shared → List Value → Led → Prop} {ax : Addr} {n : Nat} {base : Led} {s₁ : Shared}
    (hr : RowsT base vs rs) (hok : ∀ r ∈ rs, RowOK r) (hh : A.handled = none) (F : Fr h₀ L s₁.heap m) (N : News h₀ L s₁.heap base) (hm : (ax, listO vs n) ∈ base) (hsz : vs.length ≤ 1000)
    (step : ∀ ra r tl ys I oI C oC D m₂ h tk (E' : Value → Shared → Prop), RowT (tl ++ base) ra r → RowOK r → LCg.NsObj oC m₂ → m₂ x = some (.ref ra) → Fr h₀ L h m → News h₀ L h ((I, oI) :: (C, oC) :: (D, LCg.lst ys) :: (tl ++ base)) → LCg.Off3 I C D (tl ++ base) → ((@Ne Nat I C) ∧ (@Ne Nat I D) ∧ (@Ne Nat C D)) →
      wpAny (model prog w) A (eval elt (compEnvC scope cl C env)) (LCg.CompEnd h₀ L m { s₁ with heap := h, toks := tk } I oI C oC D (LCg.lst ys) (LCg.SrcAt h₀ ax vs.toArray) (fun v news' => ∃ a t2, v = .ref a ∧ news' = t2 ++ (tl ++ base) ∧ Above t2 (tl ++ base) ∧ StatIn w (t2 ++ (tl ++ base)) a r)) E' { s₁ with heap := h, toks := tk })
    (fin : ∀ g ys tl, Stats w (tl ++ base) ys rs → Above tl base → Fin { s₁ with heap := g } ys (tl ++ base)) :
    LCg.CompSrc prog w A h₀ L m env elt x scope cl Fin (.ref ax) s₁ := by
  refine compU_src (fun r ys nw => ∃ tl done rest, nw = tl ++ base ∧ Above tl base ∧ RowsT base r rest ∧ Stats w nw ys done ∧ rs = done ++ rest) hh F N hm hsz ⟨[], [], rs, rfl, .nil, hr, .nil, rfl⟩ ?_ ?_
  · intro v r ys nw I oI C oC D m₂ h tk E' hJ hC hx F1 N1 off ne
    obtain ⟨tl, done, rest, rfl, hab, hr1, hs1, he⟩ := hJ
    cases hr1 with
    | @cons ra rw _ rest hra hr2 =>
      have hrw : rw ∈ rs := by rw [he]; exact List.mem_append_right _ (.head _)
      refine wpAny_mono (step ra rw tl ys I oI C oC D m₂ h tk E' (hra.mono fun q hq => List.mem_append_right _ hq) (hok _ hrw) hC hx F1 N1 off ne) (fun v s₃ hq => ?_) fun _ _ e => e
      obtain ⟨h', tk', nw', e, F', N', off', hS, a, t2, rfl, rfl, ha2, hst⟩ := hq
      refine ⟨h', tk', _, e, F', N', off', hS, t2 ++ tl, done ++ [rw], rest, (List.append_assoc _ _ _).symm, ha2.joinL hab, hr2, ?_, by rw [he]; simp⟩
      exact (hs1.mono fun q hq => List.mem_append_right _ hq).snoc hst
  · intro g ys nw hJ
    obtain ⟨tl, done, rest, rfl, hab, hr1, hs1, he⟩ := hJ
    cases hr1
    rw [List.append_nil] at he
    subst he
    exact fin g ys tl hs1 hab
theorem comp_endT {I C D : Addr} {s₁ : Shared} {oI oC oD : Obj} {S : Led → Prop} {rest : Value → Led → Prop} {y : Value} {h' : Heap} {tk : Nat} {t2 imm : Led}
    (F : Fr h₀ L h' m) (N : News h₀ L h' (t2 ++ ((I, oI) :: (C, oC) :: (D, oD) :: imm))) (ha : Above t2 ((I, oI) :: (C, oC) :: (D, oD) :: imm)) (off : LCg.Off3 I C D imm) (hS : S (t2 ++ imm)) (r : rest y (t2 ++ imm)) :
    LCg.CompEnd h₀ L m s₁ I oI C oC D oD S rest y { s₁ with heap := h', toks := tk } :=
  LCg.CompEnd.intro F N (t2 ++ imm) (fun p hp => by simp only [List.mem_cons, List.mem_append] at hp ⊢; rcases hp with h | h | h | h | h <;> simp [h])
    (LCg.Off3.of fun p hp => (List.mem_append.mp hp).elim (fun h => ⟨(ha p h _ (.head _)).symm, (ha p h _ (.tail _ (.head _))).symm, (ha p h _ (.tail _ (.tail _ (.head _)))).symm⟩) (LCg.Off3.mem off p)) hS r
end
section
variable {prog : Program} {w : World} {p : Program} {loose : List Str} {mean : ExcName → Option Value} {mg mb : Str → Option Value} {dp un : Nat} {gd : Option (List Code)} {cn : Str} {cs : Scope} {ca : Addr} {ccd : Value} {cl : List (Str × Addr)} {outer : List PySem.Env} {A₀ : Around} {base h₀ : Heap} {L : Addr} {m : Str → Option Value} {s : Shared} {Q E : Value → Shared → Prop}
theorem pool_use {all : Led} {l : Addr} {vs : List Value} {ns : List Int}
    (hb : h₀.IsList l vs.toArray) (hi : IntsAre vs ns) (hz : ns.length ≤ 63)
    (B : Below A₀ base outer h₀) (F : Fr h₀ L s.heap m) (X : (Mine.H.KK w.params).In h₀) (N : News h₀ L s.heap all) (T : Top p loose mean mg mb h₀) (hk : cs.kind = .function)
    (hd : dp + 10 < recursionLimit) (hu : un + 300 < cLine)
    (ret : ∀ sl o tl h' tk', Fr h₀ L h' m → News h₀ L h' ((sl, o) :: (tl ++ all)) → SrcO o → Above tl all → (∀ q ∈ tl ++ all, q.1 ≠ sl) → Q (.ref sl) { s with heap := h', toks := tk' }) :
    wpAny (model prog w) (ktrTop dp un gd cn cs L ca ccd cl outer) (call (.ref 1231) [.ref l]) Q E s := by
  refine pool_ok prog w l vs ns all hi hz _ _ _ _ _ _ _ _ _ _ _ _ _ _ _ _ _ _ _ _ _ _ hb B F X N T hk hd hu fun v h' tk' news' F' N' P => ?_
  obtain ⟨sl, o, r, tl, rfl, ho, rfl, hp, ha, hof⟩ := P
  have hp := hp.eq
  subst hp
  exact ret sl o tl h' tk' F' N' ho (fun q hq => ha q (.tail _ hq)) hof
theorem stat_use {all imm : Led} {sl : Addr} {o : Obj}
    (B : Below A₀ base outer h₀) (F : Fr h₀ L s.heap m) (X : (Mine.H.KK w.params).In h₀) (N : News h₀ L s.heap all) (T : Top p loose mean mg mb h₀) (hk : cs.kind = .function)
    (D : Drop1 (sl, o) all imm) (ho : SrcO o) (off : ∀ q ∈ imm, q.1 ≠ sl)
    (hd : dp + 60 < recursionLimit) (hu : un + 600 < cLine)
    (ret : ∀ ra rl nl rv nv rs ns tl o' n1 n2 n3 k h' tk', Fr h₀ L h' m → News h₀ L h' ((sl, o') :: (tl ++ imm)) → Above tl imm → (∀ q ∈ tl ++ imm, q.1 ≠ sl) → SrcO o' → (ra, tupO [.ref rl, .ref nl] n1) ∈ tl → (rl, listO rv n2) ∈ tl → (nl, listO nv n3) ∈ tl → RowsT (tl ++ imm) rv rs → Strs nv ns → Built k rs ns → k ≤ 3 → Q (.ref ra) { s with heap := h', toks := tk' }) :
    wpAny (model prog w) (ktrTop dp un gd cn cs L ca ccd cl outer) (call (.ref 1290) [.ref sl]) Q E s := by
  refine spec_use0 B F X (news_M1 N D) T hk (stat_ok prog w sl o imm off ho) hd hu fun v h' tk' news' F' N' P => ?_
  obtain ⟨ra, rl, nl, rv, nv, rs, ns, tl, r, o', n1, n2, n3, k, rfl, rfl, hp, ha, g1, g2, g3, g4, g5, g6, g7, g8, g9⟩ := P
  have hp := hp.eq
  subst hp
  exact ret ra rl nl rv nv rs ns tl o' n1 n2 n3 k h' tk' F' N' ha (fun q hq => (List.mem_append.mp hq).elim (g1 q) (off q)) g2 g3 g4 g5 g6 g7 g8 g9
theorem compr_use {all r1 r2 imm : Led} {mk na nd d ex st : Addr} {o : Obj} {sv : List Value} {ns : Nat} {wanted : List Str} {rs : List Row} {t1 t2 t3 : Tok}
    (B : Below A₀ base outer h₀) (F : Fr h₀ L s.heap m) (X : (Mine.H.KK w.params).In h₀) (N : News h₀ L s.heap all) (T : Top p loose mean mg mb h₀) (hk : cs.kind = .function)
    (_c0 : MakerIn w prog all nd mk) (D1 : Drop1 (nd, o) all r1) (D2 : Drop1 (1112, tabObj #[]) r1 r2) (D3 : Drop1 (1041, tabObj #[]) r2 imm)
    (c1 : OffM nd imm) (c2 : @LT.lt Nat _ 1112 nd) (c3 : o.IsDictOf (strKind prog w) []) (c4 : MakerIn w prog imm nd mk)
    (c5 : (na, instObj 626 d) ∈ imm) (c6 : (d, dictOf [at_ w "place" t1 .none, at_ w "expr" t2 (.ref ex), at_ w "statements" t3 (.ref st)] 3) ∈ imm) (c7 : SumIn imm "sum" ex wanted 0) (c8 : (st, listO sv ns) ∈ imm) (c9 : Stats w imm sv rs) (c10 : rs.length ≤ 3)
    (hd : dp + 320 < recursionLimit) (hu : un + 5000 < cLine)
    (ret : ∀ a led T1 T2 h' tk', Fr h₀ L h' m → News h₀ L h' led → (∀ q ∈ imm, q ∈ led) → (1112, tabObj T1) ∈ led → (1041, tabObj T2) ∈ led → CoreIn w led a (comp wanted rs 0 (.con0 "[]")) → Q (.ref a) { s with heap := h', toks := tk' }) :
    wpAny (model prog w) (ktrTop dp un gd cn cs L ca ccd cl outer) (call (.ref 1103) [.ref mk, .ref na]) Q E s := by
  refine spec_use0 B F X (news_M3 N D1 D2 D3) T hk (compr_ok prog w mk na nd d ex st o sv ns wanted rs imm t1 t2 t3 c1 c2 c3 c4 c5 c6 c7 c8 c9 c10) hd hu fun v h' tk' news' F' N' P => ?_
  obtain ⟨a, r, tl, o', kvs', T1', T2', rfl, rfl, hp, q1, q2, q3, q4, q5, q6⟩ := P
  have hp := hp.eq
  subst hp
  refine ret a _ _ _ h' tk' F' N' (fun q hq => ?_) (.tail _ (.head _)) (.tail _ (.tail _ (.head _))) (q6.mono fun q hq => ?_)
  · exact .tail _ (.tail _ (.tail _ (List.mem_append_right _ hq)))
  · exact .tail _ (.tail _ (.tail _ hq))
theorem items_use {all : Led} {a : Addr} {wanted : List Str} {rs : List Row} 
    (B : Below A₀ base outer h₀) (F : Fr h₀ L s.heap m) (X : (Mine.H.KK w.params).In h₀) (N : News h₀ L s.heap all) (T : Top p loose mean mg mb h₀) (hk : cs.kind = .function)
    (hc : CoreIn w all a (comp wanted rs 0 (.con0 "[]"))) (hs : Stream 500 (comp wanted rs 0 (.con0 "[]")) .nil (loops wanted rs [])) (hz : (loops wanted rs []).length ≤ 8)
    (hd : dp + 530 < recursionLimit) (hu : un + 8600 < cLine)
    (ret : ∀ l vs ms imm h' tk', Fr h₀ L h' m → News h₀ L h' ((l, listO vs ms) :: imm) → (∀ q ∈ all, q ∈ imm) → IntsAre vs (loops wanted rs []) → Q (.ref l) { s with heap := h', toks := tk' }) :
    wpAny (model prog w) (ktrTop dp un gd cn cs L ca ccd cl outer) (call (.ref 1285) [.ref a]) Q E s := by
  refine spec_use0 B F X N T hk (items_ok prog w a _ 500 _ all hc hs (by omega) (by omega)) hd hu fun v h' tk' news' F' N' P => ?_
  obtain ⟨l, vs, ms, imm, rfl, rfl, h1, h2⟩ := P
  exact ret l vs ms imm h' tk' F' N' h1 h2
theorem loops_use0 {wanted : List Str} {rs : List Row} {all imm : Led} {l : Addr} {ms : Nat} {ra kd wl : Addr} {ok : Obj} {rv wv : List Value} {nr nw : Nat} {t : Tok}
    (B : Below A₀ base outer h₀) (F : Fr h₀ L s.heap m) (X : (Mine.H.KK w.params).In h₀) (N : News h₀ L s.heap all) (T : Top p loose mean mg mb h₀) (hk : cs.kind = .function)
    (D : Drop1 (l, listO [] ms) all imm) (c1 : ∀ q ∈ imm, q.1 ≠ l) (c2 : (loops wanted rs []).length ≤ 8) (c3 : (ra, listO rv nr) ∈ imm) (c6 : RowsT imm rv rs) (c7 : rs.length ≤ 3)
    (c8 : (kd, ok) ∈ imm) (c9 : (kd == sysModules) = false) (c10 : ok.IsDictOf (strKind prog w) []) (c13 : WF wanted rs []) (c14 : (wl, listO wv nw) ∈ imm) (c15 : Strs wv wanted) (c16 : wanted.length ≤ 3)
    (hd : dp + 120 < recursionLimit) (hu : un + 1200 < cLine)
    (ret : ∀ vs' ms' tl h' tk', Fr h₀ L h' m → News h₀ L h' ((l, listO vs' ms') :: (tl ++ imm)) → Above tl ((l, listO [] ms) :: imm) → IntsAre vs' (loops wanted rs []) → Q .none { s with heap := h', toks := tk' }) :
    wpAny (model prog w) (ktrTop dp un gd cn cs L ca ccd cl outer) (call (.ref 1323) [.ref ra, .int 0 t, .ref kd, .ref wl, .ref l]) Q E s :=
  loops_use (dom := []) (kn := []) (pre := []) (vs := []) B F X N T hk D (loops_ok prog w wanted rs) (fun _ h => absurd h List.not_mem_nil) c1 (by simp only [List.length_nil]; omega) c3 (List.nil_append _).symm rfl c6 (by simp only [List.length_nil]; omega)
    c8 c9 c10 (by simp only [List.length_nil]; omega) c13 c14 c15 c16 (by omega) (by omega) fun vs' ms' tl h' tk' F' N' A' I' => ret vs' ms' tl h' tk' F' N' A' I'
end
theorem OffM.app3 {nd : Addr} {t R l : Led} {o2 o3 : Obj} (h0 : ∀ q ∈ t, q.1 ≠ nd) (h : Above t R) (m2 : (1112, o2) ∈ R) (m3 : (1041, o3) ∈ R) (k : OffM nd l) : OffM nd (t ++ l) := fun q hq =>
  (List.mem_append.mp hq).elim (fun e => ⟨h0 q e, (h q e _ m2).symm, (h q e _ m3).symm⟩) (k q)
theorem ne_memN {x l : Addr} {o : Obj} {R : Led} (h : ∀ q ∈ R, q.1 ≠ x) (m : (l, o) ∈ R) : x ≠ l := (h _ m).symm
theorem OffM.nil {nd : Addr} : OffM nd [] := fun _ h => nomatch h
theorem eq_ints9 {prog : Program} {w : World} {A : Around} {E : Value → Shared → Prop} {s : Shared} {h₀ : Heap} {L : Addr} {news : Led} {l b : Addr} {vs us : List Value} {ks : List Int} {n n2 : Nat} {Q : Value → Shared → Prop} (N : News h₀ L s.heap news) (m1 : (l, listO vs n) ∈ news) (m2 : (b, listO us n2) ∈ news) (h1 : IntsAre vs ks) (h2 : IntsAre us ks) (hu : A.units + 64 < cLine)
    (h : Q (.bool true) s) : wpAny (model prog w) A (compareOp .Eq (.ref l) (.ref b)) Q E s :=
  ke_eq_ints (isList_of N m1) (isList_of N m2) h1 h2 hu (by rw [decide_eq_true rfl]; exact h)
end Mine
end
section
open PySem PySem.W PyProof.Rows PySem.Spec PySem.Calls
namespace Mine
noncomputable def isTab (o : Obj) : Bool := match o.cls with | .type c => c != "list" && c != "tuple" && c != "dict" | .ref _ => false | _ => true
theorem Its.drop9 {news news' : Led} (hs : ∀ q ∈ news, isTab q.2 = false → q ∈ news') {vs : List Value} {is : List It} (h : Its news vs is) : Its news' vs is := by
  induction h with
  | nil => exact .nil
  | one _ ih => exact .one ih
  | two m _ ih => exact .two (hs _ m rfl) ih
section
variable {prog : Program} {w : World} {l l' : Led}
theorem SumIn.drop9 (hs : ∀ q ∈ l, isTab q.2 = false → q ∈ l') {kind : Str} {a : Addr} {ns : List Str} {k : Int} (h : SumIn l kind a ns k) : SumIn l' kind a ns k := by
  cases h with | mk a b c => exact .mk (hs _ a rfl) (hs _ b rfl) c
theorem PVarIn.drop9 (hs : ∀ q ∈ l, isTab q.2 = false → q ∈ l') {a : Addr} {x : Str} (h : PVarIn w l a x) : PVarIn w l' a x := by cases h with | mk a b => exact .mk (hs _ a rfl) (hs _ b rfl)
theorem PWildIn.drop9 (hs : ∀ q ∈ l, isTab q.2 = false → q ∈ l') {a : Addr} (h : PWildIn w l a) : PWildIn w l' a := by cases h with | mk a b => exact .mk (hs _ a rfl) (hs _ b rfl)
theorem PLitIn.drop9 (hs : ∀ q ∈ l, isTab q.2 = false → q ∈ l') {a : Addr} (h : PLitIn w l a) : PLitIn w l' a := by cases h with | mk a b => exact .mk (hs _ a rfl) (hs _ b rfl)
theorem PatIn.drop9 (hs : ∀ q ∈ l, isTab q.2 = false → q ∈ l') {a : Addr} {p : Pat} (h : PatIn w l a p) : PatIn w l' a p := by
  cases h with
  | any a => exact .any (a.drop9 hs)
  | var a => exact .var (a.drop9 hs)
  | lit a => exact .lit (a.drop9 hs)
  | pairN a b c d e => exact .pairN (hs _ a rfl) (hs _ b rfl) (hs _ c rfl) (d.drop9 hs) (e.drop9 hs)
  | pairL a b c d e => exact .pairL (hs _ a rfl) (hs _ b rfl) (hs _ c rfl) (d.drop9 hs) (e.drop9 hs)
theorem FBIn.drop9 (hs : ∀ q ∈ l, isTab q.2 = false → q ∈ l') {a : Addr} {x : Str} {ns : List Str} {k : Int} (h : FBIn w l a x ns k) : FBIn w l' a x ns k := by
  cases h with | mk a7 a8 a9 a10 a11 a12 a13 a14 a15 a16 a17 a18 a19 a20 a21 => exact .mk (hs _ a7 rfl) (hs _ a8 rfl) (hs _ a9 rfl) (hs _ a10 rfl) (hs _ a11 rfl) (hs _ a12 rfl) (hs _ a13 rfl) (hs _ a14 rfl) (hs _ a15 rfl) (hs _ a16 rfl) (hs _ a17 rfl) (hs _ a18 rfl) (hs _ a19 rfl) (hs _ a20 rfl) (a21.drop9 hs)
theorem BindsIn.drop9 (hs : ∀ q ∈ l, isTab q.2 = false → q ∈ l') {a : Addr} {x : Str} {ns : List Str} {k : Int} (h : BindsIn w l a x ns k) : BindsIn w l' a x ns k := by
  cases h with | mk a b c d e => exact .mk (hs _ a rfl) (hs _ b rfl) (hs _ c rfl) (hs _ d rfl) (e.drop9 hs)
theorem StatIn.drop9 (hs : ∀ q ∈ l, isTab q.2 = false → q ∈ l') {a : Addr} {r : Row} (h : StatIn w l a r) : StatIn w l' a r := by
  cases h with
  | draw a b c d e f g => exact .draw (hs _ a rfl) (hs _ b rfl) (c.drop9 hs) (hs _ d rfl) (hs _ e rfl) (f.drop9 hs) g
  | cond a b c => exact .cond (hs _ a rfl) (hs _ b rfl) (c.drop9 hs)
  | bnd a b c d e => exact .bnd (hs _ a rfl) (hs _ b rfl) (c.drop9 hs) d e
theorem Stats.drop9 (hs : ∀ q ∈ l, isTab q.2 = false → q ∈ l') {vs : List Value} {rs : List Row} (h : Stats w l vs rs) : Stats w l' vs rs := by
  induction h with
  | nil => exact .nil
  | cons a _ ih => exact .cons (a.drop9 hs) ih
theorem subT_app {a b l : Led} (h : ∀ q ∈ a, isTab q.2 = false → q ∈ l) (k : ∀ q ∈ b, isTab q.2 = false → q ∈ l) : ∀ q ∈ a ++ b, isTab q.2 = false → q ∈ l := fun q hq => (List.mem_append.mp hq).elim (h q) (k q)
theorem subT_cons {x : Addr × Obj} {b l : Led} (h : x ∈ l) (k : ∀ q ∈ b, isTab q.2 = false → q ∈ l) : ∀ q ∈ x :: b, isTab q.2 = false → q ∈ l := fun q hq t => by
  rcases List.mem_cons.mp hq with rfl | hq
  · exact h
  · exact k q hq t
theorem subT_tab {x : Addr × Obj} {b l : Led} (h : isTab x.2 = true) (k : ∀ q ∈ b, isTab q.2 = false → q ∈ l) : ∀ q ∈ x :: b, isTab q.2 = false → q ∈ l := fun q hq t => by
  rcases List.mem_cons.mp hq with rfl | hq
  · rw [h] at t; cases t
  · exact k q hq t
theorem subT_of {b l : Led} (h : ∀ q ∈ b, q ∈ l) : ∀ q ∈ b, isTab q.2 = false → q ∈ l := fun q hq _ => h q hq
theorem subT_nil {l : Led} : ∀ q ∈ ([] : Led), isTab q.2 = false → q ∈ l := fun _ h => nomatch h
theorem offM_of {nd : Addr} {l : Led} (h1 : ∀ q ∈ l, q.1 ≠ nd) (h2 : ∀ q ∈ l, q.1 ≠ 1112) (h3 : ∀ q ∈ l, q.1 ≠ 1041) : OffM nd l := fun q hq => ⟨h1 q hq, h2 q hq, h3 q hq⟩
theorem ne_off1 {x l : Addr} {o : Obj} {R : Led} (h : LCg.Off1 x R) (m : (l, o) ∈ R) : x ≠ l := (off1_ne h _ m).symm
theorem le_of9 {a k n : Nat} (h : a = k) (e : k ≤ n) : a ≤ n := h ▸ e
end
end Mine
end
section
open PySem PySem.W PyProof.Rows PySem.Spec PySem.Calls
namespace Mine
section
variable {D' nd d1 x' d' d2 x3 d3 x1 d4 d5 x2 d6 Ds D1 D2 sl z : Addr} {tl9 tl3 tl1 tl2 : Led}
variable {q1 q2 q3 q4 q5 q6 q7 q8 q9 q10 q11 q12 q13 q14 q15 q16 q17 q18 o q3' q4' q6' q7' p1 p2 p3 p4 p5 p6 p7 p8 p9 u1 u2 u3 v1 v2 : Obj}
theorem sub_consS {x : Addr × Obj} {a b : Led} (h : ∀ q ∈ a, q ∈ b) : ∀ q ∈ x :: a, q ∈ x :: b := fun q hq => by
  rcases List.mem_cons.mp hq with rfl | hq
  · exact .head _
  · exact .tail _ (h q hq)
theorem sub_appL {c a b : Led} (h : ∀ q ∈ a, q ∈ b) : ∀ q ∈ c ++ a, q ∈ c ++ b := fun q hq => (List.mem_append.mp hq).elim (List.mem_append_left _) fun k => List.mem_append_right _ (h q k)
theorem law_off
    (h0 : AllLt d1 ((D', p1) :: (x', q3) :: (d', q4) :: (nd, o) :: (d2, q5) :: (x3, q6) :: (d3, q7) :: (x1, q8) :: (d4, q9) :: (d5, q10) :: (x2, q11) :: (d6, q12) :: (Ds, q13) :: (tl3 ++ (D1, q14) :: (D2, q15) :: (sl, q16) :: (tl1 ++ (tl2 ++ [(z, q17), (1112, tabObj #[]), (1053, q18), (1041, tabObj #[])])))))
    (h1 : AllLt D' ((x', q3) :: (d', q4) :: (nd, o) :: (d2, q5) :: (x3, q6) :: (d3, q7) :: (x1, q8) :: (d4, q9) :: (d5, q10) :: (x2, q11) :: (d6, q12) :: (Ds, q13) :: (tl3 ++ (D1, q14) :: (D2, q15) :: (sl, q16) :: (tl1 ++ (tl2 ++ [(z, q17), (1112, tabObj #[]), (1053, q18), (1041, tabObj #[])])))))
    (hA : Above tl9 ((D', p2) :: (d1, p3) :: (x', q3) :: (d', q4) :: (nd, o) :: (d2, q5) :: (x3, q6) :: (d3, q7) :: (x1, q8) :: (d4, q9) :: (d5, q10) :: (x2, q11) :: (d6, q12) :: (Ds, q13) :: (tl3 ++ (D1, q14) :: (D2, q15) :: (sl, q16) :: (tl1 ++ (tl2 ++ [(z, q17), (1112, tabObj #[]), (1053, q18), (1041, tabObj #[])])))))
    (hx : @LT.lt Nat _ d' x')
    (hd : AllLt d' ((nd, o) :: (d2, q5) :: (x3, q6) :: (d3, p4) :: (x1, q8) :: (d4, q9) :: (d5, q10) :: (x2, q11) :: (d6, q12) :: (Ds, q13) :: (tl3 ++ (D1, q14) :: (D2, q15) :: (sl, q16) :: (tl1 ++ (tl2 ++ [(z, q17), (1112, tabObj #[]), (1053, q18), (1041, tabObj #[])])))))
    (hn : AllLt nd ((d2, q5) :: (x3, q6) :: (d3, p5) :: (x1, q8) :: (d4, q9) :: (d5, q10) :: (x2, q11) :: (d6, q12) :: (Ds, q13) :: (tl3 ++ (D1, q14) :: (D2, q15) :: (sl, q16) :: (tl1 ++ (tl2 ++ [(z, q17), (1112, tabObj #[]), (1053, q18), (1041, tabObj #[])])))))
    (h2 : AllLt d2 ((x3, q6) :: (d3, p6) :: (x1, q8) :: (d4, q9) :: (d5, q10) :: (x2, q11) :: (d6, q12) :: (Ds, q13) :: (tl3 ++ (D1, q14) :: (D2, q15) :: (sl, q16) :: (tl1 ++ (tl2 ++ [(z, q17), (1112, tabObj #[]), (1053, q18), (1041, tabObj #[])])))))
    (hx3 : @LT.lt Nat _ d3 x3)
    (h3 : AllLt d3 ((x1, q8) :: (d4, q9) :: (d5, q10) :: (x2, q11) :: (d6, q12) :: (Ds, q13) :: (tl3 ++ (D1, q14) :: (D2, q15) :: (sl, q16) :: (tl1 ++ (tl2 ++ [(z, q17), (1112, tabObj #[]), (1053, q18), (1041, tabObj #[])])))))
    (hx1 : @LT.lt Nat _ d4 x1)
    (h4 : AllLt d4 ((d5, q10) :: (x2, q11) :: (d6, q12) :: (Ds, q13) :: (tl3 ++ (D1, q14) :: (D2, q15) :: (sl, q16) :: (tl1 ++ (tl2 ++ [(z, q17), (1112, tabObj #[]), (1053, q18), (1041, tabObj #[])])))))
    (h5 : AllLt d5 ((x2, q11) :: (d6, q12) :: (Ds, q13) :: (tl3 ++ (D1, q14) :: (D2, q15) :: (sl, q16) :: (tl1 ++ (tl2 ++ [(z, q17), (1112, tabObj #[]), (1053, q18), (1041, tabObj #[])])))))
    (hx2 : @LT.lt Nat _ d6 x2)
    (h6 : AllLt d6 ((Ds, q13) :: (tl3 ++ (D1, q14) :: (D2, q15) :: (sl, q16) :: (tl1 ++ (tl2 ++ [(z, q17), (1112, tabObj #[]), (1053, q18), (1041, tabObj #[])])))))
    (hs : LCg.Off1 Ds (tl3 ++ (D1, q14) :: (D2, q15) :: (sl, q16) :: (tl1 ++ (tl2 ++ [(z, q17), (1112, tabObj #[]), (1053, q18), (1041, tabObj #[])]))))
    (hA3 : Above tl3 ((D1, q14) :: (D2, q15) :: (sl, q16) :: (tl1 ++ (tl2 ++ [(z, q17), (1112, tabObj #[]), (1053, q18), (1041, tabObj #[])]))))
    (h7 : AllLt D1 ((D2, q15) :: (sl, q16) :: (tl1 ++ (tl2 ++ [(z, q17), (1112, tabObj #[]), (1053, q18), (1041, tabObj #[])]))))
    (h8 : LCg.Off1 D2 (tl1 ++ (tl2 ++ [(z, q17), (1112, tabObj #[]), (1053, q18), (1041, tabObj #[])])))
    (hg : ∀ q ∈ tl1 ++ (tl2 ++ [(z, q17), (1112, tabObj #[]), (1053, q18), (1041, tabObj #[])]), q.1 ≠ sl)
    (hA1 : Above tl1 (tl2 ++ [(z, q17), (1112, tabObj #[]), (1053, q18), (1041, tabObj #[])]))
    (hA2 : Above tl2 [(z, u1), (1112, tabObj #[]), (1053, u2), (1041, tabObj #[])])
    (hz : @LT.lt Nat _ 1112 z) :
    OffM nd ((D', q1) :: (tl9 ++ (d1, q2) :: (x', q3) :: (d', q4) :: (d2, q5) :: (x3, q6) :: (d3, q7) :: (x1, q8) :: (d4, q9) :: (d5, q10) :: (x2, q11) :: (d6, q12) :: (Ds, q13) :: (tl3 ++ (D1, q14) :: (D2, q15) :: (sl, q16) :: (tl1 ++ (tl2 ++ [(z, q17), (1053, q18)]))))) := by
  have key : ∀ t : Nat, (t, tabObj #[]) ∈ ([(z, q17), (1112, tabObj #[]), (1053, q18), (1041, tabObj #[])] : Led) → (t, tabObj #[]) ∈ ([(z, u1), (1112, tabObj #[]), (1053, u2), (1041, tabObj #[])] : Led) → @Ne Nat 1053 t → @LT.lt Nat _ t z →
      ∀ q ∈ ((D', q1) :: (tl9 ++ (d1, q2) :: (x', q3) :: (d', q4) :: (d2, q5) :: (x3, q6) :: (d3, q7) :: (x1, q8) :: (d4, q9) :: (d5, q10) :: (x2, q11) :: (d6, q12) :: (Ds, q13) :: (tl3 ++ (D1, q14) :: (D2, q15) :: (sl, q16) :: (tl1 ++ (tl2 ++ [(z, q17), (1053, q18)])))) : Led), @Ne Nat q.1 t := by
    intro t mB mB2 nt ltz
    have mR := List.mem_append_right tl1 (List.mem_append_right tl2 mB)
    have mL3 : (t, tabObj #[]) ∈ (D1, q14) :: (D2, q15) :: (sl, q16) :: (tl1 ++ (tl2 ++ [(z, q17), (1112, tabObj #[]), (1053, q18), (1041, tabObj #[])])) := .tail _ (.tail _ (.tail _ mR))
    have m3 := List.mem_append_right tl3 mL3
    have mL2 : (t, tabObj #[]) ∈ (x2, q11) :: (d6, q12) :: (Ds, q13) :: (tl3 ++ (D1, q14) :: (D2, q15) :: (sl, q16) :: (tl1 ++ (tl2 ++ [(z, q17), (1112, tabObj #[]), (1053, q18), (1041, tabObj #[])]))) := .tail _ (.tail _ (.tail _ m3))
    have mL1 : (t, tabObj #[]) ∈ (x1, q8) :: (d4, q9) :: (d5, q10) :: (x2, q11) :: (d6, q12) :: (Ds, q13) :: (tl3 ++ (D1, q14) :: (D2, q15) :: (sl, q16) :: (tl1 ++ (tl2 ++ [(z, q17), (1112, tabObj #[]), (1053, q18), (1041, tabObj #[])]))) := .tail _ (.tail _ (.tail _ mL2))
    have e4 : @LT.lt Nat _ t d4 := allLt_mem (.tail _ mL2) h4
    have e3 : @LT.lt Nat _ t d3 := allLt_mem mL1 h3
    have e6 : @LT.lt Nat _ t d6 := allLt_mem (.tail _ m3) h6
    have ed : @LT.lt Nat _ t d' := allLt_mem (.tail _ (.tail _ (.tail _ (.tail _ mL1)))) hd
    refine List.forall_mem_cons.mpr ⟨Nat.ne_of_gt (allLt_mem (.tail _ (.tail _ (.tail _ (.tail _ (.tail _ (.tail _ mL1)))))) h1), List.forall_mem_append.mpr ⟨fun q hq => (hA q hq (t, tabObj #[]) (.tail _ (.tail _ (.tail _ (.tail _ (.tail _ (.tail _ (.tail _ (.tail _ mL1))))))))).symm, ?_⟩⟩
    refine List.forall_mem_cons.mpr ⟨Nat.ne_of_gt (allLt_mem (.tail _ (.tail _ (.tail _ (.tail _ (.tail _ (.tail _ (.tail _ mL1))))))) h0), ?_⟩
    refine List.forall_mem_cons.mpr ⟨Nat.ne_of_gt (Nat.lt_trans ed hx), ?_⟩
    refine List.forall_mem_cons.mpr ⟨Nat.ne_of_gt ed, ?_⟩
    refine List.forall_mem_cons.mpr ⟨Nat.ne_of_gt (allLt_mem (.tail _ (.tail _ mL1)) h2), ?_⟩
    refine List.forall_mem_cons.mpr ⟨Nat.ne_of_gt (Nat.lt_trans e3 hx3), ?_⟩
    refine List.forall_mem_cons.mpr ⟨Nat.ne_of_gt e3, ?_⟩
    refine List.forall_mem_cons.mpr ⟨Nat.ne_of_gt (Nat.lt_trans e4 hx1), ?_⟩
    refine List.forall_mem_cons.mpr ⟨Nat.ne_of_gt e4, ?_⟩
    refine List.forall_mem_cons.mpr ⟨Nat.ne_of_gt (allLt_mem mL2 h5), ?_⟩
    refine List.forall_mem_cons.mpr ⟨Nat.ne_of_gt (Nat.lt_trans e6 hx2), ?_⟩
    refine List.forall_mem_cons.mpr ⟨Nat.ne_of_gt e6, ?_⟩
    refine List.forall_mem_cons.mpr ⟨(off1_ne hs _ m3).symm, List.forall_mem_append.mpr ⟨fun q hq => (hA3 q hq _ mL3).symm, ?_⟩⟩
    refine List.forall_mem_cons.mpr ⟨Nat.ne_of_gt (allLt_mem (.tail _ (.tail _ mR)) h7), ?_⟩
    refine List.forall_mem_cons.mpr ⟨(off1_ne h8 _ mR).symm, ?_⟩
    refine List.forall_mem_cons.mpr ⟨(hg _ mR).symm, List.forall_mem_append.mpr ⟨fun q hq => (hA1 q hq _ (List.mem_append_right tl2 mB)).symm, List.forall_mem_append.mpr ⟨fun q hq => (hA2 q hq _ mB2).symm, ?_⟩⟩⟩
    exact List.forall_mem_cons.mpr ⟨Nat.ne_of_gt ltz, List.forall_mem_cons.mpr ⟨nt, fun _ h => nomatch h⟩⟩
  have k1 := key 1112 (.tail _ (.head _)) (.tail _ (.head _)) (by decide) hz
  have k2 := key 1041 (.tail _ (.tail _ (.tail _ (.head _)))) (.tail _ (.tail _ (.tail _ (.head _)))) (by decide) (Nat.lt_trans (by decide) hz)
  refine offM_of ?_ k1 k2
  have en : @LT.lt Nat _ nd d' := allLt_mem (.head _) hd
  refine List.forall_mem_cons.mpr ⟨Nat.ne_of_gt (allLt_mem (.tail _ (.tail _ (.head _))) h1), List.forall_mem_append.mpr ⟨fun q hq => (hA q hq _ (.tail _ (.tail _ (.tail _ (.tail _ (.head _)))))).symm, ?_⟩⟩
  refine List.forall_mem_cons.mpr ⟨Nat.ne_of_gt (allLt_mem (.tail _ (.tail _ (.tail _ (.head _)))) h0), ?_⟩
  refine List.forall_mem_cons.mpr ⟨Nat.ne_of_gt (Nat.lt_trans en hx), ?_⟩
  refine List.forall_mem_cons.mpr ⟨Nat.ne_of_gt en, ?_⟩
  intro q hq
  have : ∀ q ∈ ((d2, q5) :: (x3, q6) :: (d3, p5) :: (x1, q8) :: (d4, q9) :: (d5, q10) :: (x2, q11) :: (d6, q12) :: (Ds, q13) :: (tl3 ++ (D1, q14) :: (D2, q15) :: (sl, q16) :: (tl1 ++ (tl2 ++ [(z, q17), (1112, tabObj #[]), (1053, q18), (1041, tabObj #[])]))) : Led), @Ne Nat q.1 nd := fun q hq => Nat.ne_of_lt (allLt_mem hq hn)
  rcases List.mem_cons.mp hq with rfl | hq
  · exact this _ (.head _)
  rcases List.mem_cons.mp hq with rfl | hq
  · exact this (x3, q6) (.tail _ (.head _))
  rcases List.mem_cons.mp hq with rfl | hq
  · exact this (d3, p5) (.tail _ (.tail _ (.head _)))
  refine this q (.tail _ (.tail _ (.tail _ ?_)))
  have sb : ∀ q ∈ ([(z, q17), (1053, q18)] : Led), q ∈ ([(z, q17), (1112, tabObj #[]), (1053, q18), (1041, tabObj #[])] : Led) := fun q hq => by
    rcases List.mem_cons.mp hq with rfl | hq
    · exact .head _
    · rcases List.mem_cons.mp hq with rfl | hq
      · exact .tail _ (.tail _ (.head _))
      · exact nomatch hq
  exact sub_consS (sub_consS (sub_consS (sub_consS (sub_consS (sub_consS (sub_appL (sub_consS (sub_consS (sub_consS (sub_appL (sub_appL sb))))))))))) q hq
theorem law_good {cl : Str → Option Addr} {mean : ExcName → Option Value} {ks : List Int} {s s₁ : Shared} {L : Addr} {h : Heap} {m : Str → Option Value} {tk : Nat} (F : Fr s₁.heap L h m) (hg : s.gens = #[]) (ho : s.os = s₁.os) :
    GoodW PySem.Challenge.rw_np0253_01.row.claim cl mean [ofPy (PyData.list (List.map PyData.int ks))] s₁ (.ok (.ret (.bool true))) { s with heap := h, toks := tk } := by
  refine goodW_bool (s' := { s with heap := h, toks := tk }) F hg ?_ ?_ ho
  · exact raisesW_false (by wrow_none_raised)
  · wrow_post
theorem law_end {cl : Str → Option Addr} {mean : ExcName → Option Value} {ks : List Int} {s s₁ : Shared} {L : Addr} {h : Heap} {m : Str → Option Value} {tk : Nat} {news : Led} {T1 T2 T3 : Array Value} (F : Fr s₁.heap L h m) (hg : s.gens = #[]) (ho : s.os = s₁.os) (N : News s₁.heap L h news)
    (m1 : (1112, tabObj T1) ∈ news) (m2 : (1053, tabObj T2) ∈ news) (m3 : (1041, tabObj T3) ∈ news) :
    GoodW PySem.Challenge.rw_np0253_01.row.claim cl mean [ofPy (PyData.list (List.map PyData.int ks))] s₁ (.ok (.ret (.bool true))) { s with heap := h, toks := tk } ∧ GrownAll [(1116, 1112), (1057, 1053), (1045, 1041)] h :=
  ⟨law_good F hg ho, GrownAt.of N m1, GrownAt.of N m2, GrownAt.of N m3, trivial⟩
end
end Mine
end
section
open PySem PySem.W PyProof.Rows PySem.Spec PySem.Calls
namespace Mine
theorem boxE {M : Model} {A : Around} {env : PySem.Env} {body : List Stmt} {Q : Flow → Shared → Prop} {E : Value → Shared → Prop} {s : Shared} (h : let M9 := M; let e9 := env; let A9 := A; wpAny M9 A9 (execs body e9) Q E s) : wpAny M A (execs body env) Q E s := h
theorem boxF {h₀ h : Heap} {L : Addr} {m : Str → Option Value} {P : Prop} (k : let m9 := m; Fr h₀ L h m9 → P) : Fr h₀ L h m → P := k
end Mine
end
section
open PySem PySem.W PyProof.Rows PySem.Spec PySem.Calls
set_option maxHeartbeats 40000000
namespace Mine
theorem xl : PySem.Challenge.rw_np0253_01.Holds := by
  have tg0 : True := True.intro; have tg2 : True := True.intro; have tg24 : True := True.intro; have tg25 : True := True.intro; have tg3 : True := True.intro; have tg30 : True := True.intro; have tg32 : True := True.intro; have tg35 : True := True.intro; have tg36 : True := True.intro; have tg37 : True := True.intro; have tg39 : True := True.intro; have tg4 : True := True.intro
  refine' Mine.H.hd ?e1 ?e2 ?e3 ?call
  case e1 => exact rfl
  case e2 => exact rfl
  case e3 => exact rfl
  case call =>
  dsimp only [Mine.H.hk, Mine.H.hook]
  k_go0
  k_extra "mine flat"
  refine Mine.boxE ?_
  intro M9 e9 A9
  refine Mine.boxS ?_
  intro gL dL oL tkL QL RL
  rename Fr _ _ _ _ => F9
  revert F9
  refine Mine.boxF ?_
  intro m9 F9
  k_steps
  all_goals (
    refine Mine.Hold.mk ?_
    show QL (.ret (.bool true)) _
    refine Mine.unbox RL ?_
    exact Mine.law_end F9 (by k_asm) rfl N9 (.tail _ (S9 _ M91)) (.tail _ (S9 _ (S8 _ (by k_mem)))) (.tail _ (S9 _ M92)))
end Mine
end
theorem PySem.Challenge.cw_np0253_01_holds : PySem.Challenge.rw_np0253_01.Holds := by
  exact Mine.xl
