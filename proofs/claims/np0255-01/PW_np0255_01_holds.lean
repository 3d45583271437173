import PyProof.Rows.All
import Wide.All
import OpenK.AllK
import Wide.FinOn
import PySem.Challenge.RW_np0255_01
set_option Elab.async false
noncomputable section
open PySem PySem.W PyProof.Rows
set_option maxRecDepth 100000
set_option maxHeartbeats 8000000
namespace Mine
noncomputable abbrev pw : Program := PySem.Challenge.pw_np0255_01
noncomputable def dAt (i : Nat) : Stmt := pw.main.body[i]?.getD (.Pass default)
noncomputable def clB (s : Stmt) : List Stmt := if h : s.ctorIdx = 2 then @Stmt.ClassDef.elim (fun _ => List Stmt) s h fun _ _ _ b _ _ _ _ _ _ _ => b else []
noncomputable def mAt (i j : Nat) : Stmt := (clB (dAt i))[j]?.getD (.Pass default)
noncomputable def fdE {α : Type} (s : Stmt) (d : α) (k : Arguments → List Stmt → Scope → Pos → α) : α := if h : s.ctorIdx = 0 then @Stmt.FunctionDef.elim (fun _ => α) s h fun _ a b _ _ _ c _ _ p => k a b c p else d
noncomputable def fdP (s : Stmt) : Arguments := fdE s ⟨[], [], none, [], [], none, []⟩ fun a _ _ _ => a
noncomputable def fdB (s : Stmt) : List Stmt := fdE s [] fun _ b _ _ => b
noncomputable def fdS (s : Stmt) : Scope := fdE s ⟨.function, [], false, false, []⟩ fun _ _ c _ => c
noncomputable abbrev sV (s : String) (t : Nat) : Value := .str (Str.ofString s) t
noncomputable abbrev iV (i : Int) (t : Nat) : Value := .int i t
noncomputable abbrev rV (a : Nat) : Value := .ref a
noncomputable def en (P : Params) (s : String) (t : Nat) (v : Value) : DictEntry := ⟨PyData.keyHash P (Str.ofString s), .str (Str.ofString s) t, v⟩
noncomputable def fnO (n ql : String) (d : Stmt) (dV pm : Value) (c : Addr) : Obj :=
  { cls := .type "function", data := .func (fnOf (Str.ofString n) (Str.ofString ql) (fdP d) (fdB d) (fdS d) dV .none .none pm none (.ref c) .none) }
noncomputable def fn0 (n ql : String) (d : Stmt) : Obj :=
  { cls := .none, data := .func { name := Str.ofString n, qualname := Str.ofString ql, params := fdP d, body := .stmts (fdB d), scope := fdS d, globals := 0, closure := [], defaults := .none, kwdefaults := .none } }
noncomputable def clO (sl : List (Option Value)) (n : String) (bases mro : List Value) (ns : Addr) (subs : List Value) : Obj :=
  { cls := .type "type", dict := none, data := .cls { name := Str.ofString n, bases := bases, mro := mro, ns := ns, qualname := Str.ofString n, subclasses := subs }, slots := ⟨sl⟩ }
noncomputable def flO (c : Value) (vs : List Value) : Obj := { cls := c, data := .fields ⟨vs⟩ }
noncomputable def sqO (c : Value) (vs : List Value) (n : Nat) : Obj := { cls := c, data := .seq ⟨vs⟩ n }
noncomputable def ppO : Obj := flO (.type "builtin_function_or_method") [.builtin "type.__prepare__", .type "type"]
noncomputable def isO (n : Nat) : Obj := flO (.type "builtin_function_or_method") [.builtin "object.__init_subclass__", rV n]
noncomputable def gdO (t n : Nat) : Obj := flO (.type "getset_descriptor") [sV "__dict__" t, rV n, .builtin "function.__dict__", .builtin "function.__dict__#set"]
noncomputable def gwO (t n : Nat) : Obj := flO (.type "getset_descriptor") [sV "__weakref__" t, rV n, .builtin "ExceptionGroup.__weakref__", .none]
noncomputable def suO (n : Nat) : Obj := flO (.type "super") [rV n, rV n, rV n]
noncomputable def eM (P : Params) (t : Nat) (v : Value) : DictEntry := en P "__module__" t v
noncomputable def eF (P : Params) (t : Nat) (v : Value) : DictEntry := en P "__firstlineno__" t v
noncomputable def eI (P : Params) (t : Nat) (v : Value) : DictEntry := en P "__init__" t v
noncomputable def eA (P : Params) (t : Nat) (v : Value) : DictEntry := en P "__static_attributes__" t v
noncomputable def eQ (P : Params) (t : Nat) (v : Value) : DictEntry := en P "__qualname__" t v
noncomputable def eD (P : Params) (t : Nat) (v : Value) : DictEntry := en P "__doc__" t v
noncomputable def tuO (vs : List Value) (n : Nat) : Obj := sqO (.type "tuple") vs n
noncomputable def coF (n q : String) (t l a r s x : Nat) (u v w : Value) : Obj := flO (.type "code") [sV n t, sV q (t + 1), sV "/claim/cut.py" (t + 2), iV l 0, iV a 0, iV 0 0, iV 0 0, iV 3 0, rV r, .bool true, iV 181 0, rV s, .none, u, v, w, iV x 0, iV l 0, sV "/claim/cut.py" (x + 1)]
noncomputable def coC (n q : String) (t l r s x : Nat) : Obj := flO (.type "code") [sV n t, sV q (t + 1), sV "/claim/cut.py" (t + 2), iV l 0, iV 0 0, iV 0 0, iV 0 0, iV 0 0, rV r, .bool false, iV 181 0, rV s, .none, .none, .none, .none, iV x 0, iV l 0, sV "/claim/cut.py" (x + 1)]
noncomputable def tr3 : List (Nat × Nat × Nat) → List Value
  | [] => []
  | (a, b, c) :: r => iV a 0 :: iV b 0 :: rV c :: tr3 r
noncomputable def dcO (es : List DictEntry) (n : Nat) : Obj := { cls := .type "dict", data := .dict ⟨es⟩ n }
noncomputable def plO (c : Value) (d : Option Addr) (sl : List (Option Value)) : Obj := { cls := c, dict := d, data := .plain, slots := ⟨sl⟩ }
noncomputable def putAt (es : List DictEntry) (i : Nat) (e : DictEntry) : List DictEntry := match es, i with
  | [], _ => []
  | _ :: r, 0 => e :: r
  | x :: r, i + 1 => x :: putAt r i e
noncomputable def more (es : List DictEntry) (mods : List (Nat × DictEntry)) (new : List DictEntry) : List DictEntry :=
  (mods.foldl (fun es p => putAt es p.1 p.2) es) ++ new
noncomputable def flat : List (List Obj) → List Obj
  | [] => []
  | l :: r => l ++ flat r
noncomputable def alt (l : List Obj) : List Obj × List Obj := match l with
  | [] => ([], [])
  | x :: r => match alt r with
    | (a, b) => (x :: b, a)
noncomputable def btOf : Nat → List Obj → BT
  | 0, _ => .nil
  | n + 1, l => match l with
    | [] => .nil
    | x :: r => match alt r with
      | (a, b) => .node x (btOf n a) (btOf n b)
noncomputable def stOf (l : List Obj) (n toks : Nat) (os : OsState) : SharedT := ⟨btOf 12 l, n, {}, #[], ⟨0, 0, 0, 0⟩, toks, os⟩
def e3_0 (P : Params) : List DictEntry := [en P "__name__" 165 (sV "__main__" 164), eD P 166 .none, en P "__package__" 167 .none, en P "__loader__" 168 (.builtin "__main__.__loader__#opaque"), en P "__spec__" 169 .none, en P "__annotations__" 170 (rV 6), en P "__builtins__" 171 (rV 4), en P "__file__" 173 (sV "/claim/cut.py" 172), en P "__cached__" 174 .none]
def v3_0 (P : Params) : Obj := dcO (e3_0 P) 9
def e3_1 (P : Params) : List DictEntry := more (e3_0 P) [(0, en P "__name__" 165 (sV "lazycore.core" 229))] [en P "_wall" 193 (rV 21), en P "Row" 228 (rV 38), en P "Var" 282 (rV 80), en P "Var_core" 283 (rV 80)]
def v3_1 (P : Params) : Obj := dcO (e3_1 P) 13
def e3_2 (P : Params) : List DictEntry := more (e3_1 P) [] [en P "Lit" 337 (rV 122), en P "App" 390 (rV 162)]
def v3_2 (P : Params) : Obj := dcO (e3_2 P) 15
def e3_3 (P : Params) : List DictEntry := more (e3_2 P) [] [en P "Lam" 444 (rV 204), en P "Let" 498 (rV 242)]
def v3_3 (P : Params) : Obj := dcO (e3_3 P) 17
def e3_4 (P : Params) : List DictEntry := more (e3_3 P) [] [en P "Alt" 531 (rV 263), en P "Case" 590 (rV 303)]
def v3_4 (P : Params) : Obj := dcO (e3_4 P) 19
def e3_5 (P : Params) : List DictEntry := more (e3_4 P) [(0, en P "__name__" 165 (sV "lazycore.core_names" 698))] [en P "Con" 643 (rV 343), en P "Con_core" 644 (rV 343), en P "Prim" 697 (rV 383), en P "scoped" 711 (rV 394)]
def v3_5 (P : Params) : Obj := dcO (e3_5 P) 23
def e3_6 (P : Params) : List DictEntry := more (e3_5 P) [(0, en P "__name__" 165 (sV "lazycore.nodes" 726))] [en P "free_names" 725 (rV 401), en P "row_of" 734 (rV 408), en P "rows_of" 740 (rV 413), en P "Node" 776 (rV 437), en P "FunBind" 812 (rV 466)]
def v3_6 (P : Params) : Obj := dcO (e3_6 P) 28
def e3_7 (P : Params) : List DictEntry := more (e3_6 P) [] [en P "Clause" 847 (rV 493), en P "Rhs" 881 (rV 518)]
def v3_7 (P : Params) : Obj := dcO (e3_7 P) 30
def e3_8 (P : Params) : List DictEntry := more (e3_7 P) [(11, en P "Var" 282 (rV 572))] [en P "Binds" 917 (rV 545), en P "Var_nodes" 952 (rV 572)]
def v3_8 (P : Params) : Obj := dcO (e3_8 P) 32
def e3_9 (P : Params) : List DictEntry := more (e3_8 P) [(19, en P "Con" 643 (rV 599))] [en P "Con_nodes" 987 (rV 599), en P "Do" 1021 (rV 626)]
def v3_9 (P : Params) : Obj := dcO (e3_9 P) 34
def e3_10 (P : Params) : List DictEntry := more (e3_9 P) [] [en P "Generate" 1056 (rV 653), en P "Say" 1089 (rV 680)]
def v3_10 (P : Params) : Obj := dcO (e3_10 P) 36
def e3_11 (P : Params) : List DictEntry := more (e3_10 P) [(0, en P "__name__" 165 (sV "lazycore.pattern_nodes" 1123))] [en P "LetSay" 1122 (rV 707), en P "PVar" 1157 (rV 734)]
def v3_11 (P : Params) : Obj := dcO (e3_11 P) 38
def e3_12 (P : Params) : List DictEntry := more (e3_11 P) [] [en P "PWild" 1188 (rV 761), en P "PLit" 1223 (rV 788)]
def v3_12 (P : Params) : Obj := dcO (e3_12 P) 40
def e3_13 (P : Params) : List DictEntry := more (e3_12 P) [] [en P "PCon" 1258 (rV 815), en P "PTuple" 1291 (rV 842)]
def v3_13 (P : Params) : Obj := dcO (e3_13 P) 42
def e3_14 (P : Params) : List DictEntry := more (e3_13 P) [] [en P "PList" 1324 (rV 869), en P "PAs" 1359 (rV 896)]
def v3_14 (P : Params) : Obj := dcO (e3_14 P) 44
def e3_15 (P : Params) : List DictEntry := more (e3_14 P) [(0, en P "__name__" 165 (sV "lazycore.pattern_forms" 1426))] [en P "PLazy" 1392 (rV 923), en P "PBang" 1425 (rV 950), en P "NIL" 1429 (sV "[]" 1428), en P "CONS" 1431 (sV ":" 1430), en P "UNIT" 1433 (sV "()" 1432), en P "tuple_name" 1440 (rV 959), en P "listed" 1447 (rV 966), en P "lettered" 1454 (rV 973)]
def v3_15 (P : Params) : Obj := dcO (e3_15 P) 52
def e3_16 (P : Params) : List DictEntry := more (e3_15 P) [(0, en P "__name__" 165 (sV "lazycore.desugar_binds" 1541))] [en P "spread" 1461 (rV 980), en P "parts_of" 1468 (rV 987), en P "variables_of" 1477 (rV 994), en P "renamed_pattern" 1483 (rV 999), en P "Constructors" 1534 (rV 1035), en P "takes_all" 1540 (rV 1044), en P "TRUE" 1544 (sV "Prelude.True" 1543), en P "OTHERWISE" 1546 (sV "Prelude.otherwise" 1545), en P "choice" 1556 (rV 1051), en P "is_always" 1563 (rV 1058), en P "rhs_falls" 1569 (rV 1063), en P "guarded" 1582 (rV 1070), en P "rhs_code" 1592 (rV 1077), en P "function_core" 1598 (rV 1082), en P "taken" 1612 (rV 1089)]
def v3_16 (P : Params) : Obj := dcO (e3_16 P) 67
def e3_17 (P : Params) : List DictEntry := more (e3_16 P) [(0, en P "__name__" 165 (sV "lazycore.evidence" 1724))] [en P "pattern_pairs" 1618 (rV 1094), en P "bind_pairs" 1626 (rV 1101), en P "group_pairs" 1636 (rV 1108), en P "is_round" 1642 (rV 1113), en P "let_pairs" 1651 (rV 1120), en P "bound" 1661 (rV 1127), en P "text_core" 1672 (rV 1134), en P "done_statements" 1684 (rV 1141), en P "done_from" 1696 (rV 1148), en P "drawn" 1714 (rV 1155), en P "dictionary_con" 1723 (rV 1162), en P "EvVar" 1754 (rV 1179)]
def v3_17 (P : Params) : Obj := dcO (e3_17 P) 79
def e3_18 (P : Params) : List DictEntry := more (e3_17 P) [(0, en P "__name__" 165 (sV "lazycore.desugar_maker" 1800))] [en P "EvInstance" 1785 (rV 1200), en P "field_of" 1793 (rV 1209), en P "dictionary" 1799 (rV 1214)]
def v3_18 (P : Params) : Obj := dcO (e3_18 P) 82
def e3_19 (P : Params) : List DictEntry := more (e3_18 P) [(0, en P "__name__" 165 (sV "lazycore.fresh" 1897))] [en P "Maker" 1896 (rV 1273), en P "base_of" 1906 (rV 1284)]
def v3_19 (P : Params) : Obj := dcO (e3_19 P) 84
def e3_20 (P : Params) : List DictEntry := more (e3_19 P) [(0, en P "__name__" 165 (sV "law_np0255_01" 1990))] [en P "Fresh" 1955 (rV 1317), en P "Need" 1989 (rV 1338), en P "_law_pool" 2001 (rV 1349), en P "_law_take" 2010 (rV 1356), en P "_law_core" 2022 (rV 1363), en P "_law_matched" 2037 (rV 1370)]
def v3_20 (P : Params) : Obj := dcO (e3_20 P) 90
def e3_21 (P : Params) : List DictEntry := more (e3_20 P) [] [en P "_law_with" 2046 (rV 1377), en P "_law_value" 2052 (rV 1382), en P "_law_list" 2060 (rV 1389), en P "_law_called" 2076 (rV 1396), en P "_law_all" 2083 (rV 1403), en P "_law_chosen" 2096 (rV 1410), en P "_law_told" 2102 (rV 1415), en P "_law_statements" 2115 (rV 1422), en P "_law_pattern" 2122 (rV 1429), en P "_law_statement" 2131 (rV 1436), en P "_law_taken" 2139 (rV 1443), en P "_law_plain" 2145 (rV 1448), en P "_law_binds" 2158 (rV 1455), en P "law" 2164 (rV 1460)]
def v3_21 (P : Params) : Obj := dcO (e3_21 P) 104
noncomputable def l12_0 : List Value := []
def v12_0 (P : Params) : Obj := flO .none l12_0
def l12_1 : List Value := [iV 1 0, iV 0 0, rV 20, iV 5 0, iV 0 0, rV 27, iV 12 0, iV 0 0, rV 48]
def v12_1 (P : Params) : Obj := flO .none l12_1
def l12_2 : List Value := (l12_1 ++ tr3 [(26, 0, 90), (40, 0, 132)])
def v12_2 (P : Params) : Obj := flO .none l12_2
def l12_3 : List Value := (l12_2 ++ tr3 [(54, 0, 172), (68, 0, 214)])
def v12_3 (P : Params) : Obj := flO .none l12_3
def l12_4 : List Value := (l12_3 ++ tr3 [(84, 0, 252), (90, 0, 273)])
def v12_4 (P : Params) : Obj := flO .none l12_4
def l12_5 : List Value := (l12_4 ++ tr3 [(109, 0, 313), (124, 0, 353), (139, 0, 393)])
def v12_5 (P : Params) : Obj := flO .none l12_5
def l12_6 : List Value := (l12_5 ++ tr3 [(147, 0, 400), (160, 0, 407), (162, 0, 412), (164, 0, 419), (171, 0, 447)])
def v12_6 (P : Params) : Obj := flO .none l12_6
def l12_7 : List Value := (l12_6 ++ tr3 [(181, 0, 474), (190, 0, 501)])
def v12_7 (P : Params) : Obj := flO .none l12_7
def l12_8 : List Value := (l12_7 ++ tr3 [(200, 0, 526), (210, 0, 553)])
def v12_8 (P : Params) : Obj := flO .none l12_8
def l12_9 : List Value := (l12_8 ++ tr3 [(220, 0, 580), (230, 0, 607)])
def v12_9 (P : Params) : Obj := flO .none l12_9
def l12_10 : List Value := (l12_9 ++ tr3 [(239, 0, 634), (248, 0, 661)])
def v12_10 (P : Params) : Obj := flO .none l12_10
def l12_11 : List Value := (l12_10 ++ tr3 [(256, 0, 688), (265, 0, 715)])
def v12_11 (P : Params) : Obj := flO .none l12_11
def l12_12 : List Value := (l12_11 ++ tr3 [(273, 0, 742), (280, 0, 769)])
def v12_12 (P : Params) : Obj := flO .none l12_12
def l12_13 : List Value := (l12_12 ++ tr3 [(289, 0, 796), (298, 0, 823)])
def v12_13 (P : Params) : Obj := flO .none l12_13
def l12_14 : List Value := (l12_13 ++ tr3 [(306, 0, 850), (314, 0, 877)])
def v12_14 (P : Params) : Obj := flO .none l12_14
def l12_15 : List Value := (l12_14 ++ tr3 [(323, 0, 904), (331, 0, 931), (343, 0, 958), (345, 0, 965), (347, 0, 972)])
def v12_15 (P : Params) : Obj := flO .none l12_15
def l12_16 : List Value := (l12_15 ++ tr3 [(351, 0, 979), (359, 0, 986), (365, 0, 993), (370, 0, 998), (386, 0, 1005), (405, 0, 1043), (417, 0, 1050), (419, 0, 1057), (425, 0, 1062), (427, 0, 1069), (433, 0, 1076), (435, 0, 1081), (445, 0, 1088)])
def v12_16 (P : Params) : Obj := flO .none l12_16
def l12_17 : List Value := (l12_16 ++ tr3 [(451, 0, 1093), (460, 0, 1100), (464, 0, 1107), (469, 0, 1112), (475, 0, 1119), (481, 0, 1126), (486, 0, 1133), (492, 0, 1140), (494, 0, 1147), (504, 0, 1154), (512, 0, 1161), (515, 0, 1168)])
def v12_17 (P : Params) : Obj := flO .none l12_17
def l12_18 : List Value := (l12_17 ++ tr3 [(519, 0, 1189), (525, 0, 1208), (528, 0, 1213)])
def v12_18 (P : Params) : Obj := flO .none l12_18
def l12_19 : List Value := (l12_18 ++ tr3 [(538, 0, 1220), (569, 0, 1283)])
def v12_19 (P : Params) : Obj := flO .none l12_19
def l12_20 : List Value := (l12_19 ++ tr3 [(572, 0, 1290), (591, 0, 1327), (598, 0, 1348), (606, 0, 1355), (613, 0, 1362), (626, 0, 1369)])
def v12_20 (P : Params) : Obj := flO .none l12_20
def l12_21 : List Value := (l12_20 ++ tr3 [(638, 0, 1376), (642, 0, 1381), (663, 0, 1388), (669, 0, 1395), (683, 0, 1402), (685, 0, 1409), (698, 0, 1414), (706, 0, 1421), (726, 0, 1428), (734, 0, 1435), (743, 0, 1442), (751, 0, 1447), (753, 0, 1454), (765, 0, 1459)])
def v12_21 (P : Params) : Obj := flO .none l12_21
def v437_6 (P : Params) : Obj := clO [none, none, some (sV "Node" 741), some (sV "Node" 749), some (.builtin "object.__new__"), some (.bool true)] "Node" [.type "object"] [rV 437, .type "object"] 436 [rV 466]
def v437_7 (P : Params) : Obj := clO [none, none, some (sV "Node" 741), some (sV "Node" 749), some (.builtin "object.__new__"), some (.bool true)] "Node" [.type "object"] [rV 437, .type "object"] 436 [rV 466, rV 493, rV 518]
def v437_8 (P : Params) : Obj := clO [none, none, some (sV "Node" 741), some (sV "Node" 749), some (.builtin "object.__new__"), some (.bool true)] "Node" [.type "object"] [rV 437, .type "object"] 436 [rV 466, rV 493, rV 518, rV 545, rV 572]
def v437_9 (P : Params) : Obj := clO [none, none, some (sV "Node" 741), some (sV "Node" 749), some (.builtin "object.__new__"), some (.bool true)] "Node" [.type "object"] [rV 437, .type "object"] 436 [rV 466, rV 493, rV 518, rV 545, rV 572, rV 599, rV 626]
def v437_10 (P : Params) : Obj := clO [none, none, some (sV "Node" 741), some (sV "Node" 749), some (.builtin "object.__new__"), some (.bool true)] "Node" [.type "object"] [rV 437, .type "object"] 436 [rV 466, rV 493, rV 518, rV 545, rV 572, rV 599, rV 626, rV 653, rV 680]
def v437_11 (P : Params) : Obj := clO [none, none, some (sV "Node" 741), some (sV "Node" 749), some (.builtin "object.__new__"), some (.bool true)] "Node" [.type "object"] [rV 437, .type "object"] 436 [rV 466, rV 493, rV 518, rV 545, rV 572, rV 599, rV 626, rV 653, rV 680, rV 707, rV 734]
def v437_12 (P : Params) : Obj := clO [none, none, some (sV "Node" 741), some (sV "Node" 749), some (.builtin "object.__new__"), some (.bool true)] "Node" [.type "object"] [rV 437, .type "object"] 436 [rV 466, rV 493, rV 518, rV 545, rV 572, rV 599, rV 626, rV 653, rV 680, rV 707, rV 734, rV 761, rV 788]
def v437_13 (P : Params) : Obj := clO [none, none, some (sV "Node" 741), some (sV "Node" 749), some (.builtin "object.__new__"), some (.bool true)] "Node" [.type "object"] [rV 437, .type "object"] 436 [rV 466, rV 493, rV 518, rV 545, rV 572, rV 599, rV 626, rV 653, rV 680, rV 707, rV 734, rV 761, rV 788, rV 815, rV 842]
def v437_14 (P : Params) : Obj := clO [none, none, some (sV "Node" 741), some (sV "Node" 749), some (.builtin "object.__new__"), some (.bool true)] "Node" [.type "object"] [rV 437, .type "object"] 436 [rV 466, rV 493, rV 518, rV 545, rV 572, rV 599, rV 626, rV 653, rV 680, rV 707, rV 734, rV 761, rV 788, rV 815, rV 842, rV 869, rV 896]
def v437_15 (P : Params) : Obj := clO [none, none, some (sV "Node" 741), some (sV "Node" 749), some (.builtin "object.__new__"), some (.bool true)] "Node" [.type "object"] [rV 437, .type "object"] 436 [rV 466, rV 493, rV 518, rV 545, rV 572, rV 599, rV 626, rV 653, rV 680, rV 707, rV 734, rV 761, rV 788, rV 815, rV 842, rV 869, rV 896, rV 923, rV 950]
def n_0 (P : Params) (x3 : Obj) (x12 : Obj) : List Obj := [
  boot_o_0 P,
  boot_o_1 P,
  boot_o_2 P,
  x3,
  boot_o_4 P,
  boot_o_5 P,
  boot_o_6 P,
  boot_o_7 P,
  boot_o_8 P,
  boot_o_9 P,
  boot_o_10 P,
  tuO [] 0,
  x12,
  coC "<module>" "<module>" 182 1 11 12 185,
  plO (.type "frame") none [some (rV 13), some (rV 3), some (rV 3), none, some (sV "__main__" 164), none, some (rV 0)]]
def n_1 (P : Params) : List Obj := [
  tuO [] 0,
  flO .none [],
  tuO [sV "k" 190] 0,
  tuO [] 0,
  fn0 "_wall" "_wall" (dAt 0),
  coF "_wall" "_wall" 187 1 1 15 16 191 (rV 17) (rV 18) (rV 19),
  fnO "_wall" "_wall" (dAt 0) .none (sV "__main__" 164) 20,
  tuO [] 0,
  ppO,
  dcO [eM P 203 (sV "lazycore.clauses" 194), eQ P 205 (sV "Row" 204), eF P 207 (iV 5 206), eI P 217 (rV 35), eA P 221 (rV 36)] 5,
  tuO [] 0,
  flO .none [iV 7 0, iV 4 0, rV 34],
  coC "Row" "Row" 198 5 25 26 201,
  plO (.type "frame") none [some (rV 27), some (rV 3), some (rV 24), none, some (sV "lazycore.clauses" 194), none, some (rV 0)],
  tuO [] 0,
  flO .none [],
  tuO [sV "self" 211, sV "patterns" 212, sV "body" 213, sV "can_fail" 214] 0,
  tuO [] 0,
  fn0 "__init__" "Row.__init__" (mAt 2 0),
  coF "__init__" "Row.__init__" 208 7 4 29 30 215 (rV 31) (rV 32) (rV 33),
  fnO "__init__" "Row.__init__" (mAt 2 0) .none (sV "lazycore.clauses" 194) 34,
  tuO [sV "body" 218, sV "can_fail" 219, sV "patterns" 220] 0,
  dcO [eM P 203 (sV "lazycore.clauses" 194), eF P 207 (iV 5 206), eI P 217 (rV 35), eA P 221 (rV 36), en P "__dict__" 223 (rV 39), en P "__weakref__" 225 (rV 40), eD P 226 .none] 4,
  clO [none, none, some (sV "Row" 196), some (sV "Row" 204), some (.builtin "object.__new__"), some (.bool true)] "Row" [.type "object"] [rV 38, .type "object"] 37 [],
  gdO 222 38,
  gwO 224 38,
  suO 38,
  isO 38,
  tuO [] 0,
  ppO,
  dcO [eM P 238 (sV "lazycore.core" 229), eQ P 240 (sV "Var" 239), eF P 242 (iV 12 241), eI P 250 (rV 56), en P "groups" 257 (rV 63), en P "parts" 264 (rV 70), en P "rebuilt" 273 (rV 77), eA P 275 (rV 78)] 8,
  tuO [] 0,
  flO .none [iV 14 0, iV 4 0, rV 55, iV 17 0, iV 4 0, rV 62, iV 20 0, iV 4 0, rV 69, iV 23 0, iV 4 0, rV 76],
  coC "Var" "Var" 233 12 46 47 236,
  plO (.type "frame") none [some (rV 48), some (rV 3), some (rV 45), none, some (sV "lazycore.core" 229), none, some (rV 0)],
  tuO [] 0,
  flO .none [],
  tuO [sV "self" 246, sV "name" 247] 0,
  tuO [] 0,
  fn0 "__init__" "Var.__init__" (mAt 4 0),
  coF "__init__" "Var.__init__" 243 14 2 50 51 248 (rV 52) (rV 53) (rV 54),
  fnO "__init__" "Var.__init__" (mAt 4 0) .none (sV "lazycore.core" 229) 55,
  tuO [] 0,
  flO .none [],
  tuO [sV "self" 254] 0,
  tuO [] 0,
  fn0 "groups" "Var.groups" (mAt 4 1),
  coF "groups" "Var.groups" 251 17 1 57 58 255 (rV 59) (rV 60) (rV 61),
  fnO "groups" "Var.groups" (mAt 4 1) .none (sV "lazycore.core" 229) 62,
  tuO [] 0,
  flO .none [],
  tuO [sV "self" 261] 0,
  tuO [] 0,
  fn0 "parts" "Var.parts" (mAt 4 2),
  coF "parts" "Var.parts" 258 20 1 64 65 262 (rV 66) (rV 67) (rV 68),
  fnO "parts" "Var.parts" (mAt 4 2) .none (sV "lazycore.core" 229) 69,
  tuO [] 0,
  flO .none [],
  tuO [sV "self" 268, sV "groups" 269, sV "parts" 270] 0,
  tuO [] 0,
  fn0 "rebuilt" "Var.rebuilt" (mAt 4 3),
  coF "rebuilt" "Var.rebuilt" 265 23 3 71 72 271 (rV 73) (rV 74) (rV 75),
  fnO "rebuilt" "Var.rebuilt" (mAt 4 3) .none (sV "lazycore.core" 229) 76,
  tuO [sV "name" 274] 0,
  dcO [eM P 238 (sV "lazycore.core" 229), eF P 242 (iV 12 241), eI P 250 (rV 56), en P "groups" 257 (rV 63), en P "parts" 264 (rV 70), en P "rebuilt" 273 (rV 77), eA P 275 (rV 78), en P "__dict__" 277 (rV 81), en P "__weakref__" 279 (rV 82), eD P 280 .none] 4,
  clO [none, none, some (sV "Var" 231), some (sV "Var" 239), some (.builtin "object.__new__"), some (.bool true)] "Var" [.type "object"] [rV 80, .type "object"] 79 [],
  gdO 276 80,
  gwO 278 80,
  suO 80,
  isO 80]
def n_2 (P : Params) : List Obj := [
  tuO [] 0,
  ppO,
  dcO [eM P 291 (sV "lazycore.core" 229), eQ P 293 (sV "Lit" 292), eF P 295 (iV 26 294), eI P 304 (rV 98), en P "groups" 311 (rV 105), en P "parts" 318 (rV 112), en P "rebuilt" 327 (rV 119), eA P 330 (rV 120)] 8,
  tuO [] 0,
  flO .none [iV 28 0, iV 4 0, rV 97, iV 32 0, iV 4 0, rV 104, iV 35 0, iV 4 0, rV 111, iV 38 0, iV 4 0, rV 118],
  coC "Lit" "Lit" 286 26 88 89 289,
  plO (.type "frame") none [some (rV 90), some (rV 3), some (rV 87), none, some (sV "lazycore.core" 229), none, some (rV 0)],
  tuO [] 0,
  flO .none [],
  tuO [sV "self" 299, sV "kind" 300, sV "value" 301] 0,
  tuO [] 0,
  fn0 "__init__" "Lit.__init__" (mAt 6 0),
  coF "__init__" "Lit.__init__" 296 28 3 92 93 302 (rV 94) (rV 95) (rV 96),
  fnO "__init__" "Lit.__init__" (mAt 6 0) .none (sV "lazycore.core" 229) 97,
  tuO [] 0,
  flO .none [],
  tuO [sV "self" 308] 0,
  tuO [] 0,
  fn0 "groups" "Lit.groups" (mAt 6 1),
  coF "groups" "Lit.groups" 305 32 1 99 100 309 (rV 101) (rV 102) (rV 103),
  fnO "groups" "Lit.groups" (mAt 6 1) .none (sV "lazycore.core" 229) 104,
  tuO [] 0,
  flO .none [],
  tuO [sV "self" 315] 0,
  tuO [] 0,
  fn0 "parts" "Lit.parts" (mAt 6 2),
  coF "parts" "Lit.parts" 312 35 1 106 107 316 (rV 108) (rV 109) (rV 110),
  fnO "parts" "Lit.parts" (mAt 6 2) .none (sV "lazycore.core" 229) 111,
  tuO [] 0,
  flO .none [],
  tuO [sV "self" 322, sV "groups" 323, sV "parts" 324] 0,
  tuO [] 0,
  fn0 "rebuilt" "Lit.rebuilt" (mAt 6 3),
  coF "rebuilt" "Lit.rebuilt" 319 38 3 113 114 325 (rV 115) (rV 116) (rV 117),
  fnO "rebuilt" "Lit.rebuilt" (mAt 6 3) .none (sV "lazycore.core" 229) 118,
  tuO [sV "kind" 328, sV "value" 329] 0,
  dcO [eM P 291 (sV "lazycore.core" 229), eF P 295 (iV 26 294), eI P 304 (rV 98), en P "groups" 311 (rV 105), en P "parts" 318 (rV 112), en P "rebuilt" 327 (rV 119), eA P 330 (rV 120), en P "__dict__" 332 (rV 123), en P "__weakref__" 334 (rV 124), eD P 335 .none] 4,
  clO [none, none, some (sV "Lit" 284), some (sV "Lit" 292), some (.builtin "object.__new__"), some (.bool true)] "Lit" [.type "object"] [rV 122, .type "object"] 121 [],
  gdO 331 122,
  gwO 333 122,
  suO 122,
  isO 122,
  tuO [] 0,
  ppO,
  dcO [eM P 345 (sV "lazycore.core" 229), eQ P 347 (sV "App" 346), eF P 349 (iV 40 348), eI P 358 (rV 140), en P "groups" 365 (rV 147), en P "parts" 371 (rV 152), en P "rebuilt" 380 (rV 159), eA P 383 (rV 160)] 8,
  tuO [] 0,
  flO .none [iV 42 0, iV 4 0, rV 139, iV 46 0, iV 4 0, rV 146, iV 49 0, iV 4 0, rV 151, iV 52 0, iV 4 0, rV 158],
  coC "App" "App" 340 40 130 131 343,
  plO (.type "frame") none [some (rV 132), some (rV 3), some (rV 129), none, some (sV "lazycore.core" 229), none, some (rV 0)],
  tuO [] 0,
  flO .none [],
  tuO [sV "self" 353, sV "fun" 354, sV "args" 355] 0,
  tuO [] 0,
  fn0 "__init__" "App.__init__" (mAt 7 0),
  coF "__init__" "App.__init__" 350 42 3 134 135 356 (rV 136) (rV 137) (rV 138),
  fnO "__init__" "App.__init__" (mAt 7 0) .none (sV "lazycore.core" 229) 139,
  tuO [] 0,
  flO .none [],
  tuO [sV "self" 362] 0,
  tuO [] 0,
  fn0 "groups" "App.groups" (mAt 7 1),
  coF "groups" "App.groups" 359 46 1 141 142 363 (rV 143) (rV 144) (rV 145),
  fnO "groups" "App.groups" (mAt 7 1) .none (sV "lazycore.core" 229) 146,
  tuO [] 0,
  flO .none [],
  fn0 "parts" "App.parts" (mAt 7 2),
  coF "parts" "App.parts" 366 49 1 148 149 369 .none .none (rV 150),
  fnO "parts" "App.parts" (mAt 7 2) .none (sV "lazycore.core" 229) 151,
  tuO [] 0,
  flO .none [],
  tuO [sV "self" 375, sV "groups" 376, sV "parts" 377] 0,
  tuO [] 0,
  fn0 "rebuilt" "App.rebuilt" (mAt 7 3),
  coF "rebuilt" "App.rebuilt" 372 52 3 153 154 378 (rV 155) (rV 156) (rV 157),
  fnO "rebuilt" "App.rebuilt" (mAt 7 3) .none (sV "lazycore.core" 229) 158,
  tuO [sV "args" 381, sV "fun" 382] 0,
  dcO [eM P 345 (sV "lazycore.core" 229), eF P 349 (iV 40 348), eI P 358 (rV 140), en P "groups" 365 (rV 147), en P "parts" 371 (rV 152), en P "rebuilt" 380 (rV 159), eA P 383 (rV 160), en P "__dict__" 385 (rV 163), en P "__weakref__" 387 (rV 164), eD P 388 .none] 4,
  clO [none, none, some (sV "App" 338), some (sV "App" 346), some (.builtin "object.__new__"), some (.bool true)] "App" [.type "object"] [rV 162, .type "object"] 161 [],
  gdO 384 162,
  gwO 386 162,
  suO 162,
  isO 162]
def n_3 (P : Params) : List Obj := [
  tuO [] 0,
  ppO,
  dcO [eM P 398 (sV "lazycore.core" 229), eQ P 400 (sV "Lam" 399), eF P 402 (iV 54 401), eI P 411 (rV 180), en P "groups" 418 (rV 187), en P "parts" 425 (rV 194), en P "rebuilt" 434 (rV 201), eA P 437 (rV 202)] 8,
  tuO [] 0,
  flO .none [iV 56 0, iV 4 0, rV 179, iV 60 0, iV 4 0, rV 186, iV 63 0, iV 4 0, rV 193, iV 66 0, iV 4 0, rV 200],
  coC "Lam" "Lam" 393 54 170 171 396,
  plO (.type "frame") none [some (rV 172), some (rV 3), some (rV 169), none, some (sV "lazycore.core" 229), none, some (rV 0)],
  tuO [] 0,
  flO .none [],
  tuO [sV "self" 406, sV "params" 407, sV "body" 408] 0,
  tuO [] 0,
  fn0 "__init__" "Lam.__init__" (mAt 8 0),
  coF "__init__" "Lam.__init__" 403 56 3 174 175 409 (rV 176) (rV 177) (rV 178),
  fnO "__init__" "Lam.__init__" (mAt 8 0) .none (sV "lazycore.core" 229) 179,
  tuO [] 0,
  flO .none [],
  tuO [sV "self" 415] 0,
  tuO [] 0,
  fn0 "groups" "Lam.groups" (mAt 8 1),
  coF "groups" "Lam.groups" 412 60 1 181 182 416 (rV 183) (rV 184) (rV 185),
  fnO "groups" "Lam.groups" (mAt 8 1) .none (sV "lazycore.core" 229) 186,
  tuO [] 0,
  flO .none [],
  tuO [sV "self" 422] 0,
  tuO [] 0,
  fn0 "parts" "Lam.parts" (mAt 8 2),
  coF "parts" "Lam.parts" 419 63 1 188 189 423 (rV 190) (rV 191) (rV 192),
  fnO "parts" "Lam.parts" (mAt 8 2) .none (sV "lazycore.core" 229) 193,
  tuO [] 0,
  flO .none [],
  tuO [sV "self" 429, sV "groups" 430, sV "parts" 431] 0,
  tuO [] 0,
  fn0 "rebuilt" "Lam.rebuilt" (mAt 8 3),
  coF "rebuilt" "Lam.rebuilt" 426 66 3 195 196 432 (rV 197) (rV 198) (rV 199),
  fnO "rebuilt" "Lam.rebuilt" (mAt 8 3) .none (sV "lazycore.core" 229) 200,
  tuO [sV "body" 435, sV "params" 436] 0,
  dcO [eM P 398 (sV "lazycore.core" 229), eF P 402 (iV 54 401), eI P 411 (rV 180), en P "groups" 418 (rV 187), en P "parts" 425 (rV 194), en P "rebuilt" 434 (rV 201), eA P 437 (rV 202), en P "__dict__" 439 (rV 205), en P "__weakref__" 441 (rV 206), eD P 442 .none] 4,
  clO [none, none, some (sV "Lam" 391), some (sV "Lam" 399), some (.builtin "object.__new__"), some (.bool true)] "Lam" [.type "object"] [rV 204, .type "object"] 203 [],
  gdO 438 204,
  gwO 440 204,
  suO 204,
  isO 204,
  tuO [] 0,
  ppO,
  dcO [eM P 452 (sV "lazycore.core" 229), eQ P 454 (sV "Let" 453), eF P 456 (iV 68 455), eI P 466 (rV 222), en P "groups" 472 (rV 227), en P "parts" 478 (rV 232), en P "rebuilt" 487 (rV 239), eA P 491 (rV 240)] 8,
  tuO [] 0,
  flO .none [iV 70 0, iV 4 0, rV 221, iV 75 0, iV 4 0, rV 226, iV 78 0, iV 4 0, rV 231, iV 82 0, iV 4 0, rV 238],
  coC "Let" "Let" 447 68 212 213 450,
  plO (.type "frame") none [some (rV 214), some (rV 3), some (rV 211), none, some (sV "lazycore.core" 229), none, some (rV 0)],
  tuO [] 0,
  flO .none [],
  tuO [sV "self" 460, sV "binds" 461, sV "body" 462, sV "is_rec" 463] 0,
  tuO [] 0,
  fn0 "__init__" "Let.__init__" (mAt 9 0),
  coF "__init__" "Let.__init__" 457 70 4 216 217 464 (rV 218) (rV 219) (rV 220),
  fnO "__init__" "Let.__init__" (mAt 9 0) .none (sV "lazycore.core" 229) 221,
  tuO [] 0,
  flO .none [],
  fn0 "groups" "Let.groups" (mAt 9 1),
  coF "groups" "Let.groups" 467 75 1 223 224 470 .none .none (rV 225),
  fnO "groups" "Let.groups" (mAt 9 1) .none (sV "lazycore.core" 229) 226,
  tuO [] 0,
  flO .none [],
  fn0 "parts" "Let.parts" (mAt 9 2),
  coF "parts" "Let.parts" 473 78 1 228 229 476 .none .none (rV 230),
  fnO "parts" "Let.parts" (mAt 9 2) .none (sV "lazycore.core" 229) 231,
  tuO [] 0,
  flO .none [],
  tuO [sV "self" 482, sV "groups" 483, sV "parts" 484] 0,
  tuO [] 0,
  fn0 "rebuilt" "Let.rebuilt" (mAt 9 3),
  coF "rebuilt" "Let.rebuilt" 479 82 3 233 234 485 (rV 235) (rV 236) (rV 237),
  fnO "rebuilt" "Let.rebuilt" (mAt 9 3) .none (sV "lazycore.core" 229) 238,
  tuO [sV "binds" 488, sV "body" 489, sV "is_rec" 490] 0,
  dcO [eM P 452 (sV "lazycore.core" 229), eF P 456 (iV 68 455), eI P 466 (rV 222), en P "groups" 472 (rV 227), en P "parts" 478 (rV 232), en P "rebuilt" 487 (rV 239), eA P 491 (rV 240), en P "__dict__" 493 (rV 243), en P "__weakref__" 495 (rV 244), eD P 496 .none] 4,
  clO [none, none, some (sV "Let" 445), some (sV "Let" 453), some (.builtin "object.__new__"), some (.bool true)] "Let" [.type "object"] [rV 242, .type "object"] 241 [],
  gdO 492 242,
  gwO 494 242,
  suO 242,
  isO 242]
def n_4 (P : Params) : List Obj := [
  tuO [] 0,
  ppO,
  dcO [eM P 506 (sV "lazycore.core" 229), eQ P 508 (sV "Alt" 507), eF P 510 (iV 84 509), eI P 520 (rV 260), eA P 524 (rV 261)] 5,
  tuO [] 0,
  flO .none [iV 86 0, iV 4 0, rV 259],
  coC "Alt" "Alt" 501 84 250 251 504,
  plO (.type "frame") none [some (rV 252), some (rV 3), some (rV 249), none, some (sV "lazycore.core" 229), none, some (rV 0)],
  tuO [] 0,
  flO .none [],
  tuO [sV "self" 514, sV "key" 515, sV "names" 516, sV "body" 517] 0,
  tuO [] 0,
  fn0 "__init__" "Alt.__init__" (mAt 10 0),
  coF "__init__" "Alt.__init__" 511 86 4 254 255 518 (rV 256) (rV 257) (rV 258),
  fnO "__init__" "Alt.__init__" (mAt 10 0) .none (sV "lazycore.core" 229) 259,
  tuO [sV "body" 521, sV "key" 522, sV "names" 523] 0,
  dcO [eM P 506 (sV "lazycore.core" 229), eF P 510 (iV 84 509), eI P 520 (rV 260), eA P 524 (rV 261), en P "__dict__" 526 (rV 264), en P "__weakref__" 528 (rV 265), eD P 529 .none] 4,
  clO [none, none, some (sV "Alt" 499), some (sV "Alt" 507), some (.builtin "object.__new__"), some (.bool true)] "Alt" [.type "object"] [rV 263, .type "object"] 262 [],
  gdO 525 263,
  gwO 527 263,
  suO 263,
  isO 263,
  tuO [] 0,
  ppO,
  dcO [eM P 539 (sV "lazycore.core" 229), eQ P 541 (sV "Case" 540), eF P 543 (iV 90 542), eI P 554 (rV 281), en P "groups" 560 (rV 286), en P "parts" 569 (rV 293), en P "rebuilt" 578 (rV 300), eA P 583 (rV 301)] 8,
  tuO [] 0,
  flO .none [iV 92 0, iV 4 0, rV 280, iV 98 0, iV 4 0, rV 285, iV 101 0, iV 4 0, rV 292, iV 107 0, iV 4 0, rV 299],
  coC "Case" "Case" 534 90 271 272 537,
  plO (.type "frame") none [some (rV 273), some (rV 3), some (rV 270), none, some (sV "lazycore.core" 229), none, some (rV 0)],
  tuO [] 0,
  flO .none [],
  tuO [sV "self" 547, sV "value" 548, sV "name" 549, sV "alts" 550, sV "other" 551] 0,
  tuO [] 0,
  fn0 "__init__" "Case.__init__" (mAt 11 0),
  coF "__init__" "Case.__init__" 544 92 5 275 276 552 (rV 277) (rV 278) (rV 279),
  fnO "__init__" "Case.__init__" (mAt 11 0) .none (sV "lazycore.core" 229) 280,
  tuO [] 0,
  flO .none [],
  fn0 "groups" "Case.groups" (mAt 11 1),
  coF "groups" "Case.groups" 555 98 1 282 283 558 .none .none (rV 284),
  fnO "groups" "Case.groups" (mAt 11 1) .none (sV "lazycore.core" 229) 285,
  tuO [] 0,
  flO .none [],
  tuO [sV "self" 564, sV "found" 565, sV "at" 566] 0,
  tuO [] 0,
  fn0 "parts" "Case.parts" (mAt 11 2),
  coF "parts" "Case.parts" 561 101 1 287 288 567 (rV 289) (rV 290) (rV 291),
  fnO "parts" "Case.parts" (mAt 11 2) .none (sV "lazycore.core" 229) 292,
  tuO [] 0,
  flO .none [],
  tuO [sV "self" 573, sV "groups" 574, sV "parts" 575] 0,
  tuO [] 0,
  fn0 "rebuilt" "Case.rebuilt" (mAt 11 3),
  coF "rebuilt" "Case.rebuilt" 570 107 3 294 295 576 (rV 296) (rV 297) (rV 298),
  fnO "rebuilt" "Case.rebuilt" (mAt 11 3) .none (sV "lazycore.core" 229) 299,
  tuO [sV "alts" 579, sV "name" 580, sV "other" 581, sV "value" 582] 0,
  dcO [eM P 539 (sV "lazycore.core" 229), eF P 543 (iV 90 542), eI P 554 (rV 281), en P "groups" 560 (rV 286), en P "parts" 569 (rV 293), en P "rebuilt" 578 (rV 300), eA P 583 (rV 301), en P "__dict__" 585 (rV 304), en P "__weakref__" 587 (rV 305), eD P 588 .none] 4,
  clO [none, none, some (sV "Case" 532), some (sV "Case" 540), some (.builtin "object.__new__"), some (.bool true)] "Case" [.type "object"] [rV 303, .type "object"] 302 [],
  gdO 584 303,
  gwO 586 303,
  suO 303,
  isO 303]
def n_5 (P : Params) : List Obj := [
  tuO [] 0,
  ppO,
  dcO [eM P 598 (sV "lazycore.core" 229), eQ P 600 (sV "Con" 599), eF P 602 (iV 109 601), eI P 611 (rV 321), en P "groups" 618 (rV 328), en P "parts" 624 (rV 333), en P "rebuilt" 633 (rV 340), eA P 636 (rV 341)] 8,
  tuO [] 0,
  flO .none [iV 111 0, iV 4 0, rV 320, iV 115 0, iV 4 0, rV 327, iV 118 0, iV 4 0, rV 332, iV 121 0, iV 4 0, rV 339],
  coC "Con" "Con" 593 109 311 312 596,
  plO (.type "frame") none [some (rV 313), some (rV 3), some (rV 310), none, some (sV "lazycore.core" 229), none, some (rV 0)],
  tuO [] 0,
  flO .none [],
  tuO [sV "self" 606, sV "name" 607, sV "args" 608] 0,
  tuO [] 0,
  fn0 "__init__" "Con.__init__" (mAt 12 0),
  coF "__init__" "Con.__init__" 603 111 3 315 316 609 (rV 317) (rV 318) (rV 319),
  fnO "__init__" "Con.__init__" (mAt 12 0) .none (sV "lazycore.core" 229) 320,
  tuO [] 0,
  flO .none [],
  tuO [sV "self" 615] 0,
  tuO [] 0,
  fn0 "groups" "Con.groups" (mAt 12 1),
  coF "groups" "Con.groups" 612 115 1 322 323 616 (rV 324) (rV 325) (rV 326),
  fnO "groups" "Con.groups" (mAt 12 1) .none (sV "lazycore.core" 229) 327,
  tuO [] 0,
  flO .none [],
  fn0 "parts" "Con.parts" (mAt 12 2),
  coF "parts" "Con.parts" 619 118 1 329 330 622 .none .none (rV 331),
  fnO "parts" "Con.parts" (mAt 12 2) .none (sV "lazycore.core" 229) 332,
  tuO [] 0,
  flO .none [],
  tuO [sV "self" 628, sV "groups" 629, sV "parts" 630] 0,
  tuO [] 0,
  fn0 "rebuilt" "Con.rebuilt" (mAt 12 3),
  coF "rebuilt" "Con.rebuilt" 625 121 3 334 335 631 (rV 336) (rV 337) (rV 338),
  fnO "rebuilt" "Con.rebuilt" (mAt 12 3) .none (sV "lazycore.core" 229) 339,
  tuO [sV "args" 634, sV "name" 635] 0,
  dcO [eM P 598 (sV "lazycore.core" 229), eF P 602 (iV 109 601), eI P 611 (rV 321), en P "groups" 618 (rV 328), en P "parts" 624 (rV 333), en P "rebuilt" 633 (rV 340), eA P 636 (rV 341), en P "__dict__" 638 (rV 344), en P "__weakref__" 640 (rV 345), eD P 641 .none] 4,
  clO [none, none, some (sV "Con" 591), some (sV "Con" 599), some (.builtin "object.__new__"), some (.bool true)] "Con" [.type "object"] [rV 343, .type "object"] 342 [],
  gdO 637 343,
  gwO 639 343,
  suO 343,
  isO 343,
  tuO [] 0,
  ppO,
  dcO [eM P 652 (sV "lazycore.core" 229), eQ P 654 (sV "Prim" 653), eF P 656 (iV 124 655), eI P 665 (rV 361), en P "groups" 672 (rV 368), en P "parts" 678 (rV 373), en P "rebuilt" 687 (rV 380), eA P 690 (rV 381)] 8,
  tuO [] 0,
  flO .none [iV 126 0, iV 4 0, rV 360, iV 130 0, iV 4 0, rV 367, iV 133 0, iV 4 0, rV 372, iV 136 0, iV 4 0, rV 379],
  coC "Prim" "Prim" 647 124 351 352 650,
  plO (.type "frame") none [some (rV 353), some (rV 3), some (rV 350), none, some (sV "lazycore.core" 229), none, some (rV 0)],
  tuO [] 0,
  flO .none [],
  tuO [sV "self" 660, sV "op" 661, sV "args" 662] 0,
  tuO [] 0,
  fn0 "__init__" "Prim.__init__" (mAt 14 0),
  coF "__init__" "Prim.__init__" 657 126 3 355 356 663 (rV 357) (rV 358) (rV 359),
  fnO "__init__" "Prim.__init__" (mAt 14 0) .none (sV "lazycore.core" 229) 360,
  tuO [] 0,
  flO .none [],
  tuO [sV "self" 669] 0,
  tuO [] 0,
  fn0 "groups" "Prim.groups" (mAt 14 1),
  coF "groups" "Prim.groups" 666 130 1 362 363 670 (rV 364) (rV 365) (rV 366),
  fnO "groups" "Prim.groups" (mAt 14 1) .none (sV "lazycore.core" 229) 367,
  tuO [] 0,
  flO .none [],
  fn0 "parts" "Prim.parts" (mAt 14 2),
  coF "parts" "Prim.parts" 673 133 1 369 370 676 .none .none (rV 371),
  fnO "parts" "Prim.parts" (mAt 14 2) .none (sV "lazycore.core" 229) 372,
  tuO [] 0,
  flO .none [],
  tuO [sV "self" 682, sV "groups" 683, sV "parts" 684] 0,
  tuO [] 0,
  fn0 "rebuilt" "Prim.rebuilt" (mAt 14 3),
  coF "rebuilt" "Prim.rebuilt" 679 136 3 374 375 685 (rV 376) (rV 377) (rV 378),
  fnO "rebuilt" "Prim.rebuilt" (mAt 14 3) .none (sV "lazycore.core" 229) 379,
  tuO [sV "args" 688, sV "op" 689] 0,
  dcO [eM P 652 (sV "lazycore.core" 229), eF P 656 (iV 124 655), eI P 665 (rV 361), en P "groups" 672 (rV 368), en P "parts" 678 (rV 373), en P "rebuilt" 687 (rV 380), eA P 690 (rV 381), en P "__dict__" 692 (rV 384), en P "__weakref__" 694 (rV 385), eD P 695 .none] 4,
  clO [none, none, some (sV "Prim" 645), some (sV "Prim" 653), some (.builtin "object.__new__"), some (.bool true)] "Prim" [.type "object"] [rV 383, .type "object"] 382 [],
  gdO 691 383,
  gwO 693 383,
  suO 383,
  isO 383,
  tuO [] 0,
  flO .none [],
  tuO [sV "names" 703, sV "groups" 704, sV "scope" 705, sV "found" 706, sV "number" 707, sV "name" 708] 0,
  tuO [] 0,
  fn0 "scoped" "scoped" (dAt 16),
  coF "scoped" "scoped" 700 139 3 388 389 709 (rV 390) (rV 391) (rV 392),
  fnO "scoped" "scoped" (dAt 16) .none (sV "lazycore.core_names" 698) 393]
def n_6 (P : Params) (x437 : Obj) : List Obj := [
  tuO [] 0,
  flO .none [],
  tuO [sV "expr" 715, sV "found" 716, sV "tasks" 717, sV "node" 718, sV "bound" 719, sV "groups" 720, sV "part" 721, sV "scope" 722] 0,
  tuO [] 0,
  fn0 "free_names" "free_names" (dAt 17),
  coF "free_names" "free_names" 712 147 1 395 396 723 (rV 397) (rV 398) (rV 399),
  fnO "free_names" "free_names" (dAt 17) .none (sV "lazycore.core_names" 698) 400,
  tuO [] 0,
  flO .none [],
  tuO [sV "node" 731] 0,
  tuO [] 0,
  fn0 "row_of" "row_of" (dAt 19),
  coF "row_of" "row_of" 728 160 1 402 403 732 (rV 404) (rV 405) (rV 406),
  fnO "row_of" "row_of" (dAt 19) .none (sV "lazycore.nodes" 726) 407,
  tuO [] 0,
  flO .none [],
  fn0 "rows_of" "rows_of" (dAt 20),
  coF "rows_of" "rows_of" 735 162 1 409 410 738 .none .none (rV 411),
  fnO "rows_of" "rows_of" (dAt 20) .none (sV "lazycore.nodes" 726) 412,
  tuO [] 0,
  ppO,
  dcO [eM P 748 (sV "lazycore.nodes" 726), eQ P 750 (sV "Node" 749), eF P 752 (iV 164 751), eI P 760 (rV 427), en P "row" 767 (rV 434), eA P 769 (rV 435)] 6,
  tuO [] 0,
  flO .none [iV 166 0, iV 4 0, rV 426, iV 169 0, iV 4 0, rV 433],
  coC "Node" "Node" 743 164 417 418 746,
  plO (.type "frame") none [some (rV 419), some (rV 3), some (rV 416), none, some (sV "lazycore.nodes" 726), none, some (rV 0)],
  tuO [] 0,
  flO .none [],
  tuO [sV "self" 756, sV "place" 757] 0,
  tuO [] 0,
  fn0 "__init__" "Node.__init__" (mAt 21 0),
  coF "__init__" "Node.__init__" 753 166 2 421 422 758 (rV 423) (rV 424) (rV 425),
  fnO "__init__" "Node.__init__" (mAt 21 0) .none (sV "lazycore.nodes" 726) 426,
  tuO [] 0,
  flO .none [],
  tuO [sV "self" 764] 0,
  tuO [] 0,
  fn0 "row" "Node.row" (mAt 21 1),
  coF "row" "Node.row" 761 169 1 428 429 765 (rV 430) (rV 431) (rV 432),
  fnO "row" "Node.row" (mAt 21 1) .none (sV "lazycore.nodes" 726) 433,
  tuO [sV "place" 768] 0,
  dcO [eM P 748 (sV "lazycore.nodes" 726), eF P 752 (iV 164 751), eI P 760 (rV 427), en P "row" 767 (rV 434), eA P 769 (rV 435), en P "__dict__" 771 (rV 438), en P "__weakref__" 773 (rV 439), eD P 774 .none] 4,
  x437,
  gdO 770 437,
  gwO 772 437,
  suO 437,
  isO 437,
  tuO [rV 437] 0,
  ppO,
  dcO [eM P 784 (sV "lazycore.nodes" 726), eQ P 786 (sV "FunBind" 785), eF P 788 (iV 171 787), eI P 798 (rV 456), en P "row" 805 (rV 463), eA P 809 (rV 464)] 6,
  tuO [] 0,
  flO .none [iV 173 0, iV 4 0, rV 455, iV 179 0, iV 4 0, rV 462],
  coC "FunBind" "FunBind" 779 171 445 446 782,
  plO (.type "frame") none [some (rV 447), some (rV 3), some (rV 444), none, some (sV "lazycore.nodes" 726), none, some (rV 0)],
  tuO [.none] 0,
  tuO [] 0,
  flO .none [],
  tuO [sV "self" 792, sV "name" 793, sV "clauses" 794, sV "place" 795] 0,
  tuO [] 0,
  fn0 "__init__" "FunBind.__init__" (mAt 22 0),
  coF "__init__" "FunBind.__init__" 789 173 4 450 451 796 (rV 452) (rV 453) (rV 454),
  fnO "__init__" "FunBind.__init__" (mAt 22 0) (rV 449) (sV "lazycore.nodes" 726) 455,
  tuO [] 0,
  flO .none [],
  tuO [sV "self" 802] 0,
  tuO [] 0,
  fn0 "row" "FunBind.row" (mAt 22 1),
  coF "row" "FunBind.row" 799 179 1 457 458 803 (rV 459) (rV 460) (rV 461),
  fnO "row" "FunBind.row" (mAt 22 1) .none (sV "lazycore.nodes" 726) 462,
  tuO [sV "clauses" 806, sV "given" 807, sV "name" 808] 0,
  dcO [eM P 784 (sV "lazycore.nodes" 726), eF P 788 (iV 171 787), eI P 798 (rV 456), en P "row" 805 (rV 463), eA P 809 (rV 464), eD P 810 .none] 2,
  clO [some (rV 442), none, some (sV "FunBind" 777), some (sV "FunBind" 785), some (.builtin "object.__new__"), some (.bool true)] "FunBind" [rV 437] [rV 466, rV 437, .type "object"] 465 [],
  suO 466,
  isO 466]
def n_7 (P : Params) : List Obj := [
  tuO [rV 437] 0,
  ppO,
  dcO [eM P 820 (sV "lazycore.nodes" 726), eQ P 822 (sV "Clause" 821), eF P 824 (iV 181 823), eI P 834 (rV 483), en P "row" 841 (rV 490), eA P 844 (rV 491)] 6,
  tuO [] 0,
  flO .none [iV 183 0, iV 4 0, rV 482, iV 188 0, iV 4 0, rV 489],
  coC "Clause" "Clause" 815 181 472 473 818,
  plO (.type "frame") none [some (rV 474), some (rV 3), some (rV 471), none, some (sV "lazycore.nodes" 726), none, some (rV 0)],
  tuO [.none] 0,
  tuO [] 0,
  flO .none [],
  tuO [sV "self" 828, sV "patterns" 829, sV "rhs" 830, sV "place" 831] 0,
  tuO [] 0,
  fn0 "__init__" "Clause.__init__" (mAt 23 0),
  coF "__init__" "Clause.__init__" 825 183 4 477 478 832 (rV 479) (rV 480) (rV 481),
  fnO "__init__" "Clause.__init__" (mAt 23 0) (rV 476) (sV "lazycore.nodes" 726) 482,
  tuO [] 0,
  flO .none [],
  tuO [sV "self" 838] 0,
  tuO [] 0,
  fn0 "row" "Clause.row" (mAt 23 1),
  coF "row" "Clause.row" 835 188 1 484 485 839 (rV 486) (rV 487) (rV 488),
  fnO "row" "Clause.row" (mAt 23 1) .none (sV "lazycore.nodes" 726) 489,
  tuO [sV "patterns" 842, sV "rhs" 843] 0,
  dcO [eM P 820 (sV "lazycore.nodes" 726), eF P 824 (iV 181 823), eI P 834 (rV 483), en P "row" 841 (rV 490), eA P 844 (rV 491), eD P 845 .none] 2,
  clO [some (rV 469), none, some (sV "Clause" 813), some (sV "Clause" 821), some (.builtin "object.__new__"), some (.bool true)] "Clause" [rV 437] [rV 493, rV 437, .type "object"] 492 [],
  suO 493,
  isO 493,
  tuO [rV 437] 0,
  ppO,
  dcO [eM P 855 (sV "lazycore.nodes" 726), eQ P 857 (sV "Rhs" 856), eF P 859 (iV 190 858), eI P 869 (rV 510), en P "row" 875 (rV 515), eA P 878 (rV 516)] 6,
  tuO [] 0,
  flO .none [iV 192 0, iV 4 0, rV 509, iV 197 0, iV 4 0, rV 514],
  coC "Rhs" "Rhs" 850 190 499 500 853,
  plO (.type "frame") none [some (rV 501), some (rV 3), some (rV 498), none, some (sV "lazycore.nodes" 726), none, some (rV 0)],
  tuO [.none] 0,
  tuO [] 0,
  flO .none [],
  tuO [sV "self" 863, sV "guarded" 864, sV "where" 865, sV "place" 866] 0,
  tuO [] 0,
  fn0 "__init__" "Rhs.__init__" (mAt 24 0),
  coF "__init__" "Rhs.__init__" 860 192 4 504 505 867 (rV 506) (rV 507) (rV 508),
  fnO "__init__" "Rhs.__init__" (mAt 24 0) (rV 503) (sV "lazycore.nodes" 726) 509,
  tuO [] 0,
  flO .none [],
  fn0 "row" "Rhs.row" (mAt 24 1),
  coF "row" "Rhs.row" 870 197 1 511 512 873 .none .none (rV 513),
  fnO "row" "Rhs.row" (mAt 24 1) .none (sV "lazycore.nodes" 726) 514,
  tuO [sV "guarded" 876, sV "where" 877] 0,
  dcO [eM P 855 (sV "lazycore.nodes" 726), eF P 859 (iV 190 858), eI P 869 (rV 510), en P "row" 875 (rV 515), eA P 878 (rV 516), eD P 879 .none] 2,
  clO [some (rV 496), none, some (sV "Rhs" 848), some (sV "Rhs" 856), some (.builtin "object.__new__"), some (.bool true)] "Rhs" [rV 437] [rV 518, rV 437, .type "object"] 517 [],
  suO 518,
  isO 518]
def n_8 (P : Params) : List Obj := [
  tuO [rV 437] 0,
  ppO,
  dcO [eM P 889 (sV "lazycore.nodes" 726), eQ P 891 (sV "Binds" 890), eF P 893 (iV 200 892), eI P 903 (rV 535), en P "row" 910 (rV 542), eA P 914 (rV 543)] 6,
  tuO [] 0,
  flO .none [iV 202 0, iV 4 0, rV 534, iV 208 0, iV 4 0, rV 541],
  coC "Binds" "Binds" 884 200 524 525 887,
  plO (.type "frame") none [some (rV 526), some (rV 3), some (rV 523), none, some (sV "lazycore.nodes" 726), none, some (rV 0)],
  tuO [.none] 0,
  tuO [] 0,
  flO .none [],
  tuO [sV "self" 897, sV "sigs" 898, sV "binds" 899, sV "place" 900] 0,
  tuO [] 0,
  fn0 "__init__" "Binds.__init__" (mAt 25 0),
  coF "__init__" "Binds.__init__" 894 202 4 529 530 901 (rV 531) (rV 532) (rV 533),
  fnO "__init__" "Binds.__init__" (mAt 25 0) (rV 528) (sV "lazycore.nodes" 726) 534,
  tuO [] 0,
  flO .none [],
  tuO [sV "self" 907] 0,
  tuO [] 0,
  fn0 "row" "Binds.row" (mAt 25 1),
  coF "row" "Binds.row" 904 208 1 536 537 908 (rV 538) (rV 539) (rV 540),
  fnO "row" "Binds.row" (mAt 25 1) .none (sV "lazycore.nodes" 726) 541,
  tuO [sV "binds" 911, sV "groups" 912, sV "sigs" 913] 0,
  dcO [eM P 889 (sV "lazycore.nodes" 726), eF P 893 (iV 200 892), eI P 903 (rV 535), en P "row" 910 (rV 542), eA P 914 (rV 543), eD P 915 .none] 2,
  clO [some (rV 521), none, some (sV "Binds" 882), some (sV "Binds" 890), some (.builtin "object.__new__"), some (.bool true)] "Binds" [rV 437] [rV 545, rV 437, .type "object"] 544 [],
  suO 545,
  isO 545,
  tuO [rV 437] 0,
  ppO,
  dcO [eM P 925 (sV "lazycore.nodes" 726), eQ P 927 (sV "Var" 926), eF P 929 (iV 210 928), eI P 938 (rV 562), en P "row" 945 (rV 569), eA P 948 (rV 570)] 6,
  tuO [] 0,
  flO .none [iV 212 0, iV 4 0, rV 561, iV 217 0, iV 4 0, rV 568],
  coC "Var" "Var" 920 210 551 552 923,
  plO (.type "frame") none [some (rV 553), some (rV 3), some (rV 550), none, some (sV "lazycore.nodes" 726), none, some (rV 0)],
  tuO [.none] 0,
  tuO [] 0,
  flO .none [],
  tuO [sV "self" 933, sV "name" 934, sV "place" 935] 0,
  tuO [] 0,
  fn0 "__init__" "Var.__init__" (mAt 26 0),
  coF "__init__" "Var.__init__" 930 212 3 556 557 936 (rV 558) (rV 559) (rV 560),
  fnO "__init__" "Var.__init__" (mAt 26 0) (rV 555) (sV "lazycore.nodes" 726) 561,
  tuO [] 0,
  flO .none [],
  tuO [sV "self" 942] 0,
  tuO [] 0,
  fn0 "row" "Var.row" (mAt 26 1),
  coF "row" "Var.row" 939 217 1 563 564 943 (rV 565) (rV 566) (rV 567),
  fnO "row" "Var.row" (mAt 26 1) .none (sV "lazycore.nodes" 726) 568,
  tuO [sV "name" 946, sV "uses" 947] 0,
  dcO [eM P 925 (sV "lazycore.nodes" 726), eF P 929 (iV 210 928), eI P 938 (rV 562), en P "row" 945 (rV 569), eA P 948 (rV 570), eD P 949 .none] 2,
  clO [some (rV 548), none, some (sV "Var" 918), some (sV "Var" 926), some (.builtin "object.__new__"), some (.bool true)] "Var" [rV 437] [rV 572, rV 437, .type "object"] 571 [],
  suO 572,
  isO 572]
def n_9 (P : Params) : List Obj := [
  tuO [rV 437] 0,
  ppO,
  dcO [eM P 960 (sV "lazycore.nodes" 726), eQ P 962 (sV "Con" 961), eF P 964 (iV 220 963), eI P 973 (rV 589), en P "row" 980 (rV 596), eA P 983 (rV 597)] 6,
  tuO [] 0,
  flO .none [iV 222 0, iV 4 0, rV 588, iV 227 0, iV 4 0, rV 595],
  coC "Con" "Con" 955 220 578 579 958,
  plO (.type "frame") none [some (rV 580), some (rV 3), some (rV 577), none, some (sV "lazycore.nodes" 726), none, some (rV 0)],
  tuO [.none] 0,
  tuO [] 0,
  flO .none [],
  tuO [sV "self" 968, sV "name" 969, sV "place" 970] 0,
  tuO [] 0,
  fn0 "__init__" "Con.__init__" (mAt 28 0),
  coF "__init__" "Con.__init__" 965 222 3 583 584 971 (rV 585) (rV 586) (rV 587),
  fnO "__init__" "Con.__init__" (mAt 28 0) (rV 582) (sV "lazycore.nodes" 726) 588,
  tuO [] 0,
  flO .none [],
  tuO [sV "self" 977] 0,
  tuO [] 0,
  fn0 "row" "Con.row" (mAt 28 1),
  coF "row" "Con.row" 974 227 1 590 591 978 (rV 592) (rV 593) (rV 594),
  fnO "row" "Con.row" (mAt 28 1) .none (sV "lazycore.nodes" 726) 595,
  tuO [sV "name" 981, sV "uses" 982] 0,
  dcO [eM P 960 (sV "lazycore.nodes" 726), eF P 964 (iV 220 963), eI P 973 (rV 589), en P "row" 980 (rV 596), eA P 983 (rV 597), eD P 984 .none] 2,
  clO [some (rV 575), none, some (sV "Con" 953), some (sV "Con" 961), some (.builtin "object.__new__"), some (.bool true)] "Con" [rV 437] [rV 599, rV 437, .type "object"] 598 [],
  suO 599,
  isO 599,
  tuO [rV 437] 0,
  ppO,
  dcO [eM P 995 (sV "lazycore.nodes" 726), eQ P 997 (sV "Do" 996), eF P 999 (iV 230 998), eI P 1008 (rV 616), en P "row" 1015 (rV 623), eA P 1018 (rV 624)] 6,
  tuO [] 0,
  flO .none [iV 232 0, iV 4 0, rV 615, iV 237 0, iV 4 0, rV 622],
  coC "Do" "Do" 990 230 605 606 993,
  plO (.type "frame") none [some (rV 607), some (rV 3), some (rV 604), none, some (sV "lazycore.nodes" 726), none, some (rV 0)],
  tuO [.none] 0,
  tuO [] 0,
  flO .none [],
  tuO [sV "self" 1003, sV "statements" 1004, sV "place" 1005] 0,
  tuO [] 0,
  fn0 "__init__" "Do.__init__" (mAt 30 0),
  coF "__init__" "Do.__init__" 1000 232 3 610 611 1006 (rV 612) (rV 613) (rV 614),
  fnO "__init__" "Do.__init__" (mAt 30 0) (rV 609) (sV "lazycore.nodes" 726) 615,
  tuO [] 0,
  flO .none [],
  tuO [sV "self" 1012] 0,
  tuO [] 0,
  fn0 "row" "Do.row" (mAt 30 1),
  coF "row" "Do.row" 1009 237 1 617 618 1013 (rV 619) (rV 620) (rV 621),
  fnO "row" "Do.row" (mAt 30 1) .none (sV "lazycore.nodes" 726) 622,
  tuO [sV "statements" 1016, sV "uses" 1017] 0,
  dcO [eM P 995 (sV "lazycore.nodes" 726), eF P 999 (iV 230 998), eI P 1008 (rV 616), en P "row" 1015 (rV 623), eA P 1018 (rV 624), eD P 1019 .none] 2,
  clO [some (rV 602), none, some (sV "Do" 988), some (sV "Do" 996), some (.builtin "object.__new__"), some (.bool true)] "Do" [rV 437] [rV 626, rV 437, .type "object"] 625 [],
  suO 626,
  isO 626]
def n_10 (P : Params) : List Obj := [
  tuO [rV 437] 0,
  ppO,
  dcO [eM P 1029 (sV "lazycore.nodes" 726), eQ P 1031 (sV "Generate" 1030), eF P 1033 (iV 239 1032), eI P 1043 (rV 643), en P "row" 1050 (rV 650), eA P 1053 (rV 651)] 6,
  tuO [] 0,
  flO .none [iV 241 0, iV 4 0, rV 642, iV 246 0, iV 4 0, rV 649],
  coC "Generate" "Generate" 1024 239 632 633 1027,
  plO (.type "frame") none [some (rV 634), some (rV 3), some (rV 631), none, some (sV "lazycore.nodes" 726), none, some (rV 0)],
  tuO [.none] 0,
  tuO [] 0,
  flO .none [],
  tuO [sV "self" 1037, sV "pattern" 1038, sV "expr" 1039, sV "place" 1040] 0,
  tuO [] 0,
  fn0 "__init__" "Generate.__init__" (mAt 31 0),
  coF "__init__" "Generate.__init__" 1034 241 4 637 638 1041 (rV 639) (rV 640) (rV 641),
  fnO "__init__" "Generate.__init__" (mAt 31 0) (rV 636) (sV "lazycore.nodes" 726) 642,
  tuO [] 0,
  flO .none [],
  tuO [sV "self" 1047] 0,
  tuO [] 0,
  fn0 "row" "Generate.row" (mAt 31 1),
  coF "row" "Generate.row" 1044 246 1 644 645 1048 (rV 646) (rV 647) (rV 648),
  fnO "row" "Generate.row" (mAt 31 1) .none (sV "lazycore.nodes" 726) 649,
  tuO [sV "expr" 1051, sV "pattern" 1052] 0,
  dcO [eM P 1029 (sV "lazycore.nodes" 726), eF P 1033 (iV 239 1032), eI P 1043 (rV 643), en P "row" 1050 (rV 650), eA P 1053 (rV 651), eD P 1054 .none] 2,
  clO [some (rV 629), none, some (sV "Generate" 1022), some (sV "Generate" 1030), some (.builtin "object.__new__"), some (.bool true)] "Generate" [rV 437] [rV 653, rV 437, .type "object"] 652 [],
  suO 653,
  isO 653,
  tuO [rV 437] 0,
  ppO,
  dcO [eM P 1064 (sV "lazycore.nodes" 726), eQ P 1066 (sV "Say" 1065), eF P 1068 (iV 248 1067), eI P 1077 (rV 670), en P "row" 1084 (rV 677), eA P 1086 (rV 678)] 6,
  tuO [] 0,
  flO .none [iV 250 0, iV 4 0, rV 669, iV 254 0, iV 4 0, rV 676],
  coC "Say" "Say" 1059 248 659 660 1062,
  plO (.type "frame") none [some (rV 661), some (rV 3), some (rV 658), none, some (sV "lazycore.nodes" 726), none, some (rV 0)],
  tuO [.none] 0,
  tuO [] 0,
  flO .none [],
  tuO [sV "self" 1072, sV "expr" 1073, sV "place" 1074] 0,
  tuO [] 0,
  fn0 "__init__" "Say.__init__" (mAt 32 0),
  coF "__init__" "Say.__init__" 1069 250 3 664 665 1075 (rV 666) (rV 667) (rV 668),
  fnO "__init__" "Say.__init__" (mAt 32 0) (rV 663) (sV "lazycore.nodes" 726) 669,
  tuO [] 0,
  flO .none [],
  tuO [sV "self" 1081] 0,
  tuO [] 0,
  fn0 "row" "Say.row" (mAt 32 1),
  coF "row" "Say.row" 1078 254 1 671 672 1082 (rV 673) (rV 674) (rV 675),
  fnO "row" "Say.row" (mAt 32 1) .none (sV "lazycore.nodes" 726) 676,
  tuO [sV "expr" 1085] 0,
  dcO [eM P 1064 (sV "lazycore.nodes" 726), eF P 1068 (iV 248 1067), eI P 1077 (rV 670), en P "row" 1084 (rV 677), eA P 1086 (rV 678), eD P 1087 .none] 2,
  clO [some (rV 656), none, some (sV "Say" 1057), some (sV "Say" 1065), some (.builtin "object.__new__"), some (.bool true)] "Say" [rV 437] [rV 680, rV 437, .type "object"] 679 [],
  suO 680,
  isO 680]
def n_11 (P : Params) : List Obj := [
  tuO [rV 437] 0,
  ppO,
  dcO [eM P 1097 (sV "lazycore.nodes" 726), eQ P 1099 (sV "LetSay" 1098), eF P 1101 (iV 256 1100), eI P 1110 (rV 697), en P "row" 1117 (rV 704), eA P 1119 (rV 705)] 6,
  tuO [] 0,
  flO .none [iV 258 0, iV 4 0, rV 696, iV 262 0, iV 4 0, rV 703],
  coC "LetSay" "LetSay" 1092 256 686 687 1095,
  plO (.type "frame") none [some (rV 688), some (rV 3), some (rV 685), none, some (sV "lazycore.nodes" 726), none, some (rV 0)],
  tuO [.none] 0,
  tuO [] 0,
  flO .none [],
  tuO [sV "self" 1105, sV "binds" 1106, sV "place" 1107] 0,
  tuO [] 0,
  fn0 "__init__" "LetSay.__init__" (mAt 33 0),
  coF "__init__" "LetSay.__init__" 1102 258 3 691 692 1108 (rV 693) (rV 694) (rV 695),
  fnO "__init__" "LetSay.__init__" (mAt 33 0) (rV 690) (sV "lazycore.nodes" 726) 696,
  tuO [] 0,
  flO .none [],
  tuO [sV "self" 1114] 0,
  tuO [] 0,
  fn0 "row" "LetSay.row" (mAt 33 1),
  coF "row" "LetSay.row" 1111 262 1 698 699 1115 (rV 700) (rV 701) (rV 702),
  fnO "row" "LetSay.row" (mAt 33 1) .none (sV "lazycore.nodes" 726) 703,
  tuO [sV "binds" 1118] 0,
  dcO [eM P 1097 (sV "lazycore.nodes" 726), eF P 1101 (iV 256 1100), eI P 1110 (rV 697), en P "row" 1117 (rV 704), eA P 1119 (rV 705), eD P 1120 .none] 2,
  clO [some (rV 683), none, some (sV "LetSay" 1090), some (sV "LetSay" 1098), some (.builtin "object.__new__"), some (.bool true)] "LetSay" [rV 437] [rV 707, rV 437, .type "object"] 706 [],
  suO 707,
  isO 707,
  tuO [rV 437] 0,
  ppO,
  dcO [eM P 1132 (sV "lazycore.pattern_nodes" 1123), eQ P 1134 (sV "PVar" 1133), eF P 1136 (iV 265 1135), eI P 1145 (rV 724), en P "row" 1152 (rV 731), eA P 1154 (rV 732)] 6,
  tuO [] 0,
  flO .none [iV 267 0, iV 4 0, rV 723, iV 271 0, iV 4 0, rV 730],
  coC "PVar" "PVar" 1127 265 713 714 1130,
  plO (.type "frame") none [some (rV 715), some (rV 3), some (rV 712), none, some (sV "lazycore.pattern_nodes" 1123), none, some (rV 0)],
  tuO [.none] 0,
  tuO [] 0,
  flO .none [],
  tuO [sV "self" 1140, sV "name" 1141, sV "place" 1142] 0,
  tuO [] 0,
  fn0 "__init__" "PVar.__init__" (mAt 35 0),
  coF "__init__" "PVar.__init__" 1137 267 3 718 719 1143 (rV 720) (rV 721) (rV 722),
  fnO "__init__" "PVar.__init__" (mAt 35 0) (rV 717) (sV "lazycore.pattern_nodes" 1123) 723,
  tuO [] 0,
  flO .none [],
  tuO [sV "self" 1149] 0,
  tuO [] 0,
  fn0 "row" "PVar.row" (mAt 35 1),
  coF "row" "PVar.row" 1146 271 1 725 726 1150 (rV 727) (rV 728) (rV 729),
  fnO "row" "PVar.row" (mAt 35 1) .none (sV "lazycore.pattern_nodes" 1123) 730,
  tuO [sV "name" 1153] 0,
  dcO [eM P 1132 (sV "lazycore.pattern_nodes" 1123), eF P 1136 (iV 265 1135), eI P 1145 (rV 724), en P "row" 1152 (rV 731), eA P 1154 (rV 732), eD P 1155 .none] 2,
  clO [some (rV 710), none, some (sV "PVar" 1125), some (sV "PVar" 1133), some (.builtin "object.__new__"), some (.bool true)] "PVar" [rV 437] [rV 734, rV 437, .type "object"] 733 [],
  suO 734,
  isO 734]
def n_12 (P : Params) : List Obj := [
  tuO [rV 437] 0,
  ppO,
  dcO [eM P 1165 (sV "lazycore.pattern_nodes" 1123), eQ P 1167 (sV "PWild" 1166), eF P 1169 (iV 273 1168), eI P 1177 (rV 751), en P "row" 1184 (rV 758), eA P 1185 (rV 759)] 6,
  tuO [] 0,
  flO .none [iV 275 0, iV 4 0, rV 750, iV 278 0, iV 4 0, rV 757],
  coC "PWild" "PWild" 1160 273 740 741 1163,
  plO (.type "frame") none [some (rV 742), some (rV 3), some (rV 739), none, some (sV "lazycore.pattern_nodes" 1123), none, some (rV 0)],
  tuO [.none] 0,
  tuO [] 0,
  flO .none [],
  tuO [sV "self" 1173, sV "place" 1174] 0,
  tuO [] 0,
  fn0 "__init__" "PWild.__init__" (mAt 36 0),
  coF "__init__" "PWild.__init__" 1170 275 2 745 746 1175 (rV 747) (rV 748) (rV 749),
  fnO "__init__" "PWild.__init__" (mAt 36 0) (rV 744) (sV "lazycore.pattern_nodes" 1123) 750,
  tuO [] 0,
  flO .none [],
  tuO [sV "self" 1181] 0,
  tuO [] 0,
  fn0 "row" "PWild.row" (mAt 36 1),
  coF "row" "PWild.row" 1178 278 1 752 753 1182 (rV 754) (rV 755) (rV 756),
  fnO "row" "PWild.row" (mAt 36 1) .none (sV "lazycore.pattern_nodes" 1123) 757,
  tuO [] 0,
  dcO [eM P 1165 (sV "lazycore.pattern_nodes" 1123), eF P 1169 (iV 273 1168), eI P 1177 (rV 751), en P "row" 1184 (rV 758), eA P 1185 (rV 759), eD P 1186 .none] 2,
  clO [some (rV 737), none, some (sV "PWild" 1158), some (sV "PWild" 1166), some (.builtin "object.__new__"), some (.bool true)] "PWild" [rV 437] [rV 761, rV 437, .type "object"] 760 [],
  suO 761,
  isO 761,
  tuO [rV 437] 0,
  ppO,
  dcO [eM P 1196 (sV "lazycore.pattern_nodes" 1123), eQ P 1198 (sV "PLit" 1197), eF P 1200 (iV 280 1199), eI P 1210 (rV 778), en P "row" 1217 (rV 785), eA P 1220 (rV 786)] 6,
  tuO [] 0,
  flO .none [iV 282 0, iV 4 0, rV 777, iV 287 0, iV 4 0, rV 784],
  coC "PLit" "PLit" 1191 280 767 768 1194,
  plO (.type "frame") none [some (rV 769), some (rV 3), some (rV 766), none, some (sV "lazycore.pattern_nodes" 1123), none, some (rV 0)],
  tuO [.none] 0,
  tuO [] 0,
  flO .none [],
  tuO [sV "self" 1204, sV "kind" 1205, sV "value" 1206, sV "place" 1207] 0,
  tuO [] 0,
  fn0 "__init__" "PLit.__init__" (mAt 37 0),
  coF "__init__" "PLit.__init__" 1201 282 4 772 773 1208 (rV 774) (rV 775) (rV 776),
  fnO "__init__" "PLit.__init__" (mAt 37 0) (rV 771) (sV "lazycore.pattern_nodes" 1123) 777,
  tuO [] 0,
  flO .none [],
  tuO [sV "self" 1214] 0,
  tuO [] 0,
  fn0 "row" "PLit.row" (mAt 37 1),
  coF "row" "PLit.row" 1211 287 1 779 780 1215 (rV 781) (rV 782) (rV 783),
  fnO "row" "PLit.row" (mAt 37 1) .none (sV "lazycore.pattern_nodes" 1123) 784,
  tuO [sV "kind" 1218, sV "value" 1219] 0,
  dcO [eM P 1196 (sV "lazycore.pattern_nodes" 1123), eF P 1200 (iV 280 1199), eI P 1210 (rV 778), en P "row" 1217 (rV 785), eA P 1220 (rV 786), eD P 1221 .none] 2,
  clO [some (rV 764), none, some (sV "PLit" 1189), some (sV "PLit" 1197), some (.builtin "object.__new__"), some (.bool true)] "PLit" [rV 437] [rV 788, rV 437, .type "object"] 787 [],
  suO 788,
  isO 788]
def n_13 (P : Params) : List Obj := [
  tuO [rV 437] 0,
  ppO,
  dcO [eM P 1231 (sV "lazycore.pattern_nodes" 1123), eQ P 1233 (sV "PCon" 1232), eF P 1235 (iV 289 1234), eI P 1245 (rV 805), en P "row" 1252 (rV 812), eA P 1255 (rV 813)] 6,
  tuO [] 0,
  flO .none [iV 291 0, iV 4 0, rV 804, iV 296 0, iV 4 0, rV 811],
  coC "PCon" "PCon" 1226 289 794 795 1229,
  plO (.type "frame") none [some (rV 796), some (rV 3), some (rV 793), none, some (sV "lazycore.pattern_nodes" 1123), none, some (rV 0)],
  tuO [.none] 0,
  tuO [] 0,
  flO .none [],
  tuO [sV "self" 1239, sV "name" 1240, sV "args" 1241, sV "place" 1242] 0,
  tuO [] 0,
  fn0 "__init__" "PCon.__init__" (mAt 38 0),
  coF "__init__" "PCon.__init__" 1236 291 4 799 800 1243 (rV 801) (rV 802) (rV 803),
  fnO "__init__" "PCon.__init__" (mAt 38 0) (rV 798) (sV "lazycore.pattern_nodes" 1123) 804,
  tuO [] 0,
  flO .none [],
  tuO [sV "self" 1249] 0,
  tuO [] 0,
  fn0 "row" "PCon.row" (mAt 38 1),
  coF "row" "PCon.row" 1246 296 1 806 807 1250 (rV 808) (rV 809) (rV 810),
  fnO "row" "PCon.row" (mAt 38 1) .none (sV "lazycore.pattern_nodes" 1123) 811,
  tuO [sV "args" 1253, sV "name" 1254] 0,
  dcO [eM P 1231 (sV "lazycore.pattern_nodes" 1123), eF P 1235 (iV 289 1234), eI P 1245 (rV 805), en P "row" 1252 (rV 812), eA P 1255 (rV 813), eD P 1256 .none] 2,
  clO [some (rV 791), none, some (sV "PCon" 1224), some (sV "PCon" 1232), some (.builtin "object.__new__"), some (.bool true)] "PCon" [rV 437] [rV 815, rV 437, .type "object"] 814 [],
  suO 815,
  isO 815,
  tuO [rV 437] 0,
  ppO,
  dcO [eM P 1266 (sV "lazycore.pattern_nodes" 1123), eQ P 1268 (sV "PTuple" 1267), eF P 1270 (iV 298 1269), eI P 1279 (rV 832), en P "row" 1286 (rV 839), eA P 1288 (rV 840)] 6,
  tuO [] 0,
  flO .none [iV 300 0, iV 4 0, rV 831, iV 304 0, iV 4 0, rV 838],
  coC "PTuple" "PTuple" 1261 298 821 822 1264,
  plO (.type "frame") none [some (rV 823), some (rV 3), some (rV 820), none, some (sV "lazycore.pattern_nodes" 1123), none, some (rV 0)],
  tuO [.none] 0,
  tuO [] 0,
  flO .none [],
  tuO [sV "self" 1274, sV "items" 1275, sV "place" 1276] 0,
  tuO [] 0,
  fn0 "__init__" "PTuple.__init__" (mAt 39 0),
  coF "__init__" "PTuple.__init__" 1271 300 3 826 827 1277 (rV 828) (rV 829) (rV 830),
  fnO "__init__" "PTuple.__init__" (mAt 39 0) (rV 825) (sV "lazycore.pattern_nodes" 1123) 831,
  tuO [] 0,
  flO .none [],
  tuO [sV "self" 1283] 0,
  tuO [] 0,
  fn0 "row" "PTuple.row" (mAt 39 1),
  coF "row" "PTuple.row" 1280 304 1 833 834 1284 (rV 835) (rV 836) (rV 837),
  fnO "row" "PTuple.row" (mAt 39 1) .none (sV "lazycore.pattern_nodes" 1123) 838,
  tuO [sV "items" 1287] 0,
  dcO [eM P 1266 (sV "lazycore.pattern_nodes" 1123), eF P 1270 (iV 298 1269), eI P 1279 (rV 832), en P "row" 1286 (rV 839), eA P 1288 (rV 840), eD P 1289 .none] 2,
  clO [some (rV 818), none, some (sV "PTuple" 1259), some (sV "PTuple" 1267), some (.builtin "object.__new__"), some (.bool true)] "PTuple" [rV 437] [rV 842, rV 437, .type "object"] 841 [],
  suO 842,
  isO 842]
def n_14 (P : Params) : List Obj := [
  tuO [rV 437] 0,
  ppO,
  dcO [eM P 1299 (sV "lazycore.pattern_nodes" 1123), eQ P 1301 (sV "PList" 1300), eF P 1303 (iV 306 1302), eI P 1312 (rV 859), en P "row" 1319 (rV 866), eA P 1321 (rV 867)] 6,
  tuO [] 0,
  flO .none [iV 308 0, iV 4 0, rV 858, iV 312 0, iV 4 0, rV 865],
  coC "PList" "PList" 1294 306 848 849 1297,
  plO (.type "frame") none [some (rV 850), some (rV 3), some (rV 847), none, some (sV "lazycore.pattern_nodes" 1123), none, some (rV 0)],
  tuO [.none] 0,
  tuO [] 0,
  flO .none [],
  tuO [sV "self" 1307, sV "items" 1308, sV "place" 1309] 0,
  tuO [] 0,
  fn0 "__init__" "PList.__init__" (mAt 40 0),
  coF "__init__" "PList.__init__" 1304 308 3 853 854 1310 (rV 855) (rV 856) (rV 857),
  fnO "__init__" "PList.__init__" (mAt 40 0) (rV 852) (sV "lazycore.pattern_nodes" 1123) 858,
  tuO [] 0,
  flO .none [],
  tuO [sV "self" 1316] 0,
  tuO [] 0,
  fn0 "row" "PList.row" (mAt 40 1),
  coF "row" "PList.row" 1313 312 1 860 861 1317 (rV 862) (rV 863) (rV 864),
  fnO "row" "PList.row" (mAt 40 1) .none (sV "lazycore.pattern_nodes" 1123) 865,
  tuO [sV "items" 1320] 0,
  dcO [eM P 1299 (sV "lazycore.pattern_nodes" 1123), eF P 1303 (iV 306 1302), eI P 1312 (rV 859), en P "row" 1319 (rV 866), eA P 1321 (rV 867), eD P 1322 .none] 2,
  clO [some (rV 845), none, some (sV "PList" 1292), some (sV "PList" 1300), some (.builtin "object.__new__"), some (.bool true)] "PList" [rV 437] [rV 869, rV 437, .type "object"] 868 [],
  suO 869,
  isO 869,
  tuO [rV 437] 0,
  ppO,
  dcO [eM P 1332 (sV "lazycore.pattern_nodes" 1123), eQ P 1334 (sV "PAs" 1333), eF P 1336 (iV 314 1335), eI P 1346 (rV 886), en P "row" 1353 (rV 893), eA P 1356 (rV 894)] 6,
  tuO [] 0,
  flO .none [iV 316 0, iV 4 0, rV 885, iV 321 0, iV 4 0, rV 892],
  coC "PAs" "PAs" 1327 314 875 876 1330,
  plO (.type "frame") none [some (rV 877), some (rV 3), some (rV 874), none, some (sV "lazycore.pattern_nodes" 1123), none, some (rV 0)],
  tuO [.none] 0,
  tuO [] 0,
  flO .none [],
  tuO [sV "self" 1340, sV "name" 1341, sV "pattern" 1342, sV "place" 1343] 0,
  tuO [] 0,
  fn0 "__init__" "PAs.__init__" (mAt 41 0),
  coF "__init__" "PAs.__init__" 1337 316 4 880 881 1344 (rV 882) (rV 883) (rV 884),
  fnO "__init__" "PAs.__init__" (mAt 41 0) (rV 879) (sV "lazycore.pattern_nodes" 1123) 885,
  tuO [] 0,
  flO .none [],
  tuO [sV "self" 1350] 0,
  tuO [] 0,
  fn0 "row" "PAs.row" (mAt 41 1),
  coF "row" "PAs.row" 1347 321 1 887 888 1351 (rV 889) (rV 890) (rV 891),
  fnO "row" "PAs.row" (mAt 41 1) .none (sV "lazycore.pattern_nodes" 1123) 892,
  tuO [sV "name" 1354, sV "pattern" 1355] 0,
  dcO [eM P 1332 (sV "lazycore.pattern_nodes" 1123), eF P 1336 (iV 314 1335), eI P 1346 (rV 886), en P "row" 1353 (rV 893), eA P 1356 (rV 894), eD P 1357 .none] 2,
  clO [some (rV 872), none, some (sV "PAs" 1325), some (sV "PAs" 1333), some (.builtin "object.__new__"), some (.bool true)] "PAs" [rV 437] [rV 896, rV 437, .type "object"] 895 [],
  suO 896,
  isO 896]
def n_15 (P : Params) : List Obj := [
  tuO [rV 437] 0,
  ppO,
  dcO [eM P 1367 (sV "lazycore.pattern_nodes" 1123), eQ P 1369 (sV "PLazy" 1368), eF P 1371 (iV 323 1370), eI P 1380 (rV 913), en P "row" 1387 (rV 920), eA P 1389 (rV 921)] 6,
  tuO [] 0,
  flO .none [iV 325 0, iV 4 0, rV 912, iV 329 0, iV 4 0, rV 919],
  coC "PLazy" "PLazy" 1362 323 902 903 1365,
  plO (.type "frame") none [some (rV 904), some (rV 3), some (rV 901), none, some (sV "lazycore.pattern_nodes" 1123), none, some (rV 0)],
  tuO [.none] 0,
  tuO [] 0,
  flO .none [],
  tuO [sV "self" 1375, sV "pattern" 1376, sV "place" 1377] 0,
  tuO [] 0,
  fn0 "__init__" "PLazy.__init__" (mAt 42 0),
  coF "__init__" "PLazy.__init__" 1372 325 3 907 908 1378 (rV 909) (rV 910) (rV 911),
  fnO "__init__" "PLazy.__init__" (mAt 42 0) (rV 906) (sV "lazycore.pattern_nodes" 1123) 912,
  tuO [] 0,
  flO .none [],
  tuO [sV "self" 1384] 0,
  tuO [] 0,
  fn0 "row" "PLazy.row" (mAt 42 1),
  coF "row" "PLazy.row" 1381 329 1 914 915 1385 (rV 916) (rV 917) (rV 918),
  fnO "row" "PLazy.row" (mAt 42 1) .none (sV "lazycore.pattern_nodes" 1123) 919,
  tuO [sV "pattern" 1388] 0,
  dcO [eM P 1367 (sV "lazycore.pattern_nodes" 1123), eF P 1371 (iV 323 1370), eI P 1380 (rV 913), en P "row" 1387 (rV 920), eA P 1389 (rV 921), eD P 1390 .none] 2,
  clO [some (rV 899), none, some (sV "PLazy" 1360), some (sV "PLazy" 1368), some (.builtin "object.__new__"), some (.bool true)] "PLazy" [rV 437] [rV 923, rV 437, .type "object"] 922 [],
  suO 923,
  isO 923,
  tuO [rV 437] 0,
  ppO,
  dcO [eM P 1400 (sV "lazycore.pattern_nodes" 1123), eQ P 1402 (sV "PBang" 1401), eF P 1404 (iV 331 1403), eI P 1413 (rV 940), en P "row" 1420 (rV 947), eA P 1422 (rV 948)] 6,
  tuO [] 0,
  flO .none [iV 333 0, iV 4 0, rV 939, iV 337 0, iV 4 0, rV 946],
  coC "PBang" "PBang" 1395 331 929 930 1398,
  plO (.type "frame") none [some (rV 931), some (rV 3), some (rV 928), none, some (sV "lazycore.pattern_nodes" 1123), none, some (rV 0)],
  tuO [.none] 0,
  tuO [] 0,
  flO .none [],
  tuO [sV "self" 1408, sV "pattern" 1409, sV "place" 1410] 0,
  tuO [] 0,
  fn0 "__init__" "PBang.__init__" (mAt 43 0),
  coF "__init__" "PBang.__init__" 1405 333 3 934 935 1411 (rV 936) (rV 937) (rV 938),
  fnO "__init__" "PBang.__init__" (mAt 43 0) (rV 933) (sV "lazycore.pattern_nodes" 1123) 939,
  tuO [] 0,
  flO .none [],
  tuO [sV "self" 1417] 0,
  tuO [] 0,
  fn0 "row" "PBang.row" (mAt 43 1),
  coF "row" "PBang.row" 1414 337 1 941 942 1418 (rV 943) (rV 944) (rV 945),
  fnO "row" "PBang.row" (mAt 43 1) .none (sV "lazycore.pattern_nodes" 1123) 946,
  tuO [sV "pattern" 1421] 0,
  dcO [eM P 1400 (sV "lazycore.pattern_nodes" 1123), eF P 1404 (iV 331 1403), eI P 1413 (rV 940), en P "row" 1420 (rV 947), eA P 1422 (rV 948), eD P 1423 .none] 2,
  clO [some (rV 926), none, some (sV "PBang" 1393), some (sV "PBang" 1401), some (.builtin "object.__new__"), some (.bool true)] "PBang" [rV 437] [rV 950, rV 437, .type "object"] 949 [],
  suO 950,
  isO 950,
  tuO [] 0,
  flO .none [],
  tuO [sV "many" 1437] 0,
  tuO [] 0,
  fn0 "tuple_name" "tuple_name" (dAt 48),
  coF "tuple_name" "tuple_name" 1434 343 1 953 954 1438 (rV 955) (rV 956) (rV 957),
  fnO "tuple_name" "tuple_name" (dAt 48) .none (sV "lazycore.pattern_forms" 1426) 958,
  tuO [] 0,
  flO .none [],
  tuO [sV "items" 1444] 0,
  tuO [] 0,
  fn0 "listed" "listed" (dAt 49),
  coF "listed" "listed" 1441 345 1 960 961 1445 (rV 962) (rV 963) (rV 964),
  fnO "listed" "listed" (dAt 49) .none (sV "lazycore.pattern_forms" 1426) 965,
  tuO [] 0,
  flO .none [],
  tuO [sV "text" 1451] 0,
  tuO [] 0,
  fn0 "lettered" "lettered" (dAt 50),
  coF "lettered" "lettered" 1448 347 1 967 968 1452 (rV 969) (rV 970) (rV 971),
  fnO "lettered" "lettered" (dAt 50) .none (sV "lazycore.pattern_forms" 1426) 972]
def n_16 (P : Params) : List Obj := [
  tuO [] 0,
  flO .none [],
  tuO [sV "pattern" 1458] 0,
  tuO [] 0,
  fn0 "spread" "spread" (dAt 51),
  coF "spread" "spread" 1455 351 1 974 975 1459 (rV 976) (rV 977) (rV 978),
  fnO "spread" "spread" (dAt 51) .none (sV "lazycore.pattern_forms" 1426) 979,
  tuO [] 0,
  flO .none [],
  tuO [sV "pattern" 1465] 0,
  tuO [] 0,
  fn0 "parts_of" "parts_of" (dAt 52),
  coF "parts_of" "parts_of" 1462 359 1 981 982 1466 (rV 983) (rV 984) (rV 985),
  fnO "parts_of" "parts_of" (dAt 52) .none (sV "lazycore.pattern_forms" 1426) 986,
  tuO [] 0,
  flO .none [],
  tuO [sV "pattern" 1472, sV "found" 1473, sV "part" 1474] 0,
  tuO [] 0,
  fn0 "variables_of" "variables_of" (dAt 53),
  coF "variables_of" "variables_of" 1469 365 1 988 989 1475 (rV 990) (rV 991) (rV 992),
  fnO "variables_of" "variables_of" (dAt 53) .none (sV "lazycore.pattern_forms" 1426) 993,
  tuO [] 0,
  flO .none [],
  fn0 "renamed_pattern" "renamed_pattern" (dAt 54),
  coF "renamed_pattern" "renamed_pattern" 1478 370 2 995 996 1481 .none .none (rV 997),
  fnO "renamed_pattern" "renamed_pattern" (dAt 54) .none (sV "lazycore.pattern_forms" 1426) 998,
  tuO [] 0,
  ppO,
  dcO [eM P 1491 (sV "lazycore.pattern_forms" 1426), eQ P 1493 (sV "Constructors" 1492), eF P 1495 (iV 386 1494), eI P 1503 (rV 1013), en P "arity" 1511 (rV 1020), en P "is_newtype" 1519 (rV 1027), en P "siblings" 1525 (rV 1032), eA P 1527 (rV 1033)] 8,
  tuO [] 0,
  flO .none [iV 388 0, iV 4 0, rV 1012, iV 391 0, iV 4 0, rV 1019, iV 394 0, iV 4 0, rV 1026, iV 397 0, iV 4 0, rV 1031],
  coC "Constructors" "Constructors" 1486 386 1003 1004 1489,
  plO (.type "frame") none [some (rV 1005), some (rV 3), some (rV 1002), none, some (sV "lazycore.pattern_forms" 1426), none, some (rV 0)],
  tuO [] 0,
  flO .none [],
  tuO [sV "self" 1499, sV "cons" 1500] 0,
  tuO [] 0,
  fn0 "__init__" "Constructors.__init__" (mAt 55 0),
  coF "__init__" "Constructors.__init__" 1496 388 2 1007 1008 1501 (rV 1009) (rV 1010) (rV 1011),
  fnO "__init__" "Constructors.__init__" (mAt 55 0) .none (sV "lazycore.pattern_forms" 1426) 1012,
  tuO [] 0,
  flO .none [],
  tuO [sV "self" 1507, sV "name" 1508] 0,
  tuO [] 0,
  fn0 "arity" "Constructors.arity" (mAt 55 1),
  coF "arity" "Constructors.arity" 1504 391 2 1014 1015 1509 (rV 1016) (rV 1017) (rV 1018),
  fnO "arity" "Constructors.arity" (mAt 55 1) .none (sV "lazycore.pattern_forms" 1426) 1019,
  tuO [] 0,
  flO .none [],
  tuO [sV "self" 1515, sV "name" 1516] 0,
  tuO [] 0,
  fn0 "is_newtype" "Constructors.is_newtype" (mAt 55 2),
  coF "is_newtype" "Constructors.is_newtype" 1512 394 2 1021 1022 1517 (rV 1023) (rV 1024) (rV 1025),
  fnO "is_newtype" "Constructors.is_newtype" (mAt 55 2) .none (sV "lazycore.pattern_forms" 1426) 1026,
  tuO [] 0,
  flO .none [],
  fn0 "siblings" "Constructors.siblings" (mAt 55 3),
  coF "siblings" "Constructors.siblings" 1520 397 2 1028 1029 1523 .none .none (rV 1030),
  fnO "siblings" "Constructors.siblings" (mAt 55 3) .none (sV "lazycore.pattern_forms" 1426) 1031,
  tuO [sV "cons" 1526] 0,
  dcO [eM P 1491 (sV "lazycore.pattern_forms" 1426), eF P 1495 (iV 386 1494), eI P 1503 (rV 1013), en P "arity" 1511 (rV 1020), en P "is_newtype" 1519 (rV 1027), en P "siblings" 1525 (rV 1032), eA P 1527 (rV 1033), en P "__dict__" 1529 (rV 1036), en P "__weakref__" 1531 (rV 1037), eD P 1532 .none] 4,
  clO [none, none, some (sV "Constructors" 1484), some (sV "Constructors" 1492), some (.builtin "object.__new__"), some (.bool true)] "Constructors" [.type "object"] [rV 1035, .type "object"] 1034 [],
  gdO 1528 1035,
  gwO 1530 1035,
  suO 1035,
  isO 1035,
  tuO [] 0,
  flO .none [],
  fn0 "takes_all" "takes_all" (dAt 56),
  coF "takes_all" "takes_all" 1535 405 2 1040 1041 1538 .none .none (rV 1042),
  fnO "takes_all" "takes_all" (dAt 56) .none (sV "lazycore.pattern_forms" 1426) 1043,
  tuO [] 0,
  flO .none [],
  tuO [sV "fresh" 1550, sV "condition" 1551, sV "then" 1552, sV "other" 1553] 0,
  tuO [] 0,
  fn0 "choice" "choice" (dAt 60),
  coF "choice" "choice" 1547 417 4 1045 1046 1554 (rV 1047) (rV 1048) (rV 1049),
  fnO "choice" "choice" (dAt 60) .none (sV "lazycore.desugar_binds" 1541) 1050,
  tuO [] 0,
  flO .none [],
  tuO [sV "condition" 1560] 0,
  tuO [] 0,
  fn0 "is_always" "is_always" (dAt 61),
  coF "is_always" "is_always" 1557 419 1 1052 1053 1561 (rV 1054) (rV 1055) (rV 1056),
  fnO "is_always" "is_always" (dAt 61) .none (sV "lazycore.desugar_binds" 1541) 1057,
  tuO [] 0,
  flO .none [],
  fn0 "rhs_falls" "rhs_falls" (dAt 62),
  coF "rhs_falls" "rhs_falls" 1564 425 1 1059 1060 1567 .none .none (rV 1061),
  fnO "rhs_falls" "rhs_falls" (dAt 62) .none (sV "lazycore.desugar_binds" 1541) 1062,
  tuO [] 0,
  flO .none [],
  tuO [sV "maker" 1573, sV "rhs" 1574, sV "fall" 1575, sV "found" 1576, sV "condition" 1577, sV "expr" 1578, sV "core" 1579] 0,
  tuO [] 0,
  fn0 "guarded" "guarded" (dAt 63),
  coF "guarded" "guarded" 1570 427 3 1064 1065 1580 (rV 1066) (rV 1067) (rV 1068),
  fnO "guarded" "guarded" (dAt 63) .none (sV "lazycore.desugar_binds" 1541) 1069,
  tuO [] 0,
  flO .none [],
  tuO [sV "maker" 1586, sV "rhs" 1587] 0,
  tuO [sV "maker" 1588, sV "rhs" 1589] 0,
  fn0 "rhs_code" "rhs_code" (dAt 64),
  coF "rhs_code" "rhs_code" 1583 433 2 1071 1072 1590 (rV 1073) (rV 1074) (rV 1075),
  fnO "rhs_code" "rhs_code" (dAt 64) .none (sV "lazycore.desugar_binds" 1541) 1076,
  tuO [] 0,
  flO .none [],
  fn0 "function_core" "function_core" (dAt 65),
  coF "function_core" "function_core" 1593 435 3 1078 1079 1596 .none .none (rV 1080),
  fnO "function_core" "function_core" (dAt 65) .none (sV "lazycore.desugar_binds" 1541) 1081,
  tuO [] 0,
  flO .none [],
  tuO [sV "maker" 1602, sV "pattern" 1603, sV "name" 1604, sV "value" 1605, sV "other" 1606, sV "row" 1607] 0,
  tuO [sV "name" 1608, sV "others" 1609] 0,
  fn0 "taken" "taken" (dAt 66),
  coF "taken" "taken" 1599 445 4 1083 1084 1610 (rV 1085) (rV 1086) (rV 1087),
  fnO "taken" "taken" (dAt 66) .none (sV "lazycore.desugar_binds" 1541) 1088]
def n_17 (P : Params) : List Obj := [
  tuO [] 0,
  flO .none [],
  fn0 "pattern_pairs" "pattern_pairs" (dAt 67),
  coF "pattern_pairs" "pattern_pairs" 1613 451 2 1090 1091 1616 .none .none (rV 1092),
  fnO "pattern_pairs" "pattern_pairs" (dAt 67) .none (sV "lazycore.desugar_binds" 1541) 1093,
  tuO [] 0,
  flO .none [],
  tuO [sV "maker" 1622, sV "bind" 1623] 0,
  tuO [] 0,
  fn0 "bind_pairs" "bind_pairs" (dAt 68),
  coF "bind_pairs" "bind_pairs" 1619 460 2 1095 1096 1624 (rV 1097) (rV 1098) (rV 1099),
  fnO "bind_pairs" "bind_pairs" (dAt 68) .none (sV "lazycore.desugar_binds" 1541) 1100,
  tuO [] 0,
  flO .none [],
  tuO [sV "maker" 1630, sV "group" 1631, sV "found" 1632, sV "bind" 1633] 0,
  tuO [] 0,
  fn0 "group_pairs" "group_pairs" (dAt 69),
  coF "group_pairs" "group_pairs" 1627 464 2 1102 1103 1634 (rV 1104) (rV 1105) (rV 1106),
  fnO "group_pairs" "group_pairs" (dAt 69) .none (sV "lazycore.desugar_binds" 1541) 1107,
  tuO [] 0,
  flO .none [],
  fn0 "is_round" "is_round" (dAt 70),
  coF "is_round" "is_round" 1637 469 1 1109 1110 1640 .none .none (rV 1111),
  fnO "is_round" "is_round" (dAt 70) .none (sV "lazycore.desugar_binds" 1541) 1112,
  tuO [] 0,
  flO .none [],
  tuO [sV "pairs" 1646, sV "body" 1647, sV "pair" 1648] 0,
  tuO [] 0,
  fn0 "let_pairs" "let_pairs" (dAt 71),
  coF "let_pairs" "let_pairs" 1643 475 2 1114 1115 1649 (rV 1116) (rV 1117) (rV 1118),
  fnO "let_pairs" "let_pairs" (dAt 71) .none (sV "lazycore.desugar_binds" 1541) 1119,
  tuO [] 0,
  flO .none [],
  tuO [sV "maker" 1655, sV "binds" 1656, sV "body" 1657, sV "group" 1658] 0,
  tuO [] 0,
  fn0 "bound" "bound" (dAt 72),
  coF "bound" "bound" 1652 481 3 1121 1122 1659 (rV 1123) (rV 1124) (rV 1125),
  fnO "bound" "bound" (dAt 72) .none (sV "lazycore.desugar_binds" 1541) 1126,
  tuO [] 0,
  flO .none [],
  tuO [sV "text" 1667, sV "found" 1668, sV "sign" 1669] 0,
  tuO [] 0,
  fn0 "text_core" "text_core" (dAt 74),
  coF "text_core" "text_core" 1664 486 1 1128 1129 1670 (rV 1130) (rV 1131) (rV 1132),
  fnO "text_core" "text_core" (dAt 74) .none (sV "lazycore.failures" 1662) 1133,
  tuO [] 0,
  flO .none [],
  tuO [sV "maker" 1678, sV "node" 1679] 0,
  tuO [sV "maker" 1680, sV "node" 1681] 0,
  fn0 "done_statements" "done_statements" (dAt 76),
  coF "done_statements" "done_statements" 1675 492 2 1135 1136 1682 (rV 1137) (rV 1138) (rV 1139),
  fnO "done_statements" "done_statements" (dAt 76) .none (sV "lazycore.desugar_statements" 1673) 1140,
  tuO [] 0,
  flO .none [],
  tuO [sV "maker" 1688, sV "way" 1689, sV "statements" 1690, sV "at" 1691, sV "statement" 1692, sV "value" 1693] 0,
  tuO [] 0,
  fn0 "done_from" "done_from" (dAt 77),
  coF "done_from" "done_from" 1685 494 4 1142 1143 1694 (rV 1144) (rV 1145) (rV 1146),
  fnO "done_from" "done_from" (dAt 77) .none (sV "lazycore.desugar_statements" 1673) 1147,
  tuO [] 0,
  flO .none [],
  tuO [sV "maker" 1700, sV "way" 1701, sV "pattern" 1702, sV "statements" 1703, sV "at" 1704, sV "item" 1705, sV "row" 1706, sV "fail" 1707] 0,
  tuO [sV "maker" 1708, sV "way" 1709, sV "statements" 1710, sV "at" 1711] 0,
  fn0 "drawn" "drawn" (dAt 78),
  coF "drawn" "drawn" 1697 504 5 1149 1150 1712 (rV 1151) (rV 1152) (rV 1153),
  fnO "drawn" "drawn" (dAt 78) .none (sV "lazycore.desugar_statements" 1673) 1154,
  tuO [] 0,
  flO .none [],
  tuO [sV "class_name" 1720] 0,
  tuO [] 0,
  fn0 "dictionary_con" "dictionary_con" (dAt 80),
  coF "dictionary_con" "dictionary_con" 1717 512 1 1156 1157 1721 (rV 1158) (rV 1159) (rV 1160),
  fnO "dictionary_con" "dictionary_con" (dAt 80) .none (sV "lazycore.classes" 1715) 1161,
  tuO [] 0,
  ppO,
  dcO [eM P 1733 (sV "lazycore.evidence" 1724), eQ P 1735 (sV "EvVar" 1734), eF P 1737 (iV 515 1736), eI P 1745 (rV 1176), eA P 1747 (rV 1177)] 5,
  tuO [] 0,
  flO .none [iV 517 0, iV 4 0, rV 1175],
  coC "EvVar" "EvVar" 1728 515 1166 1167 1731,
  plO (.type "frame") none [some (rV 1168), some (rV 3), some (rV 1165), none, some (sV "lazycore.evidence" 1724), none, some (rV 0)],
  tuO [] 0,
  flO .none [],
  tuO [sV "self" 1741, sV "name" 1742] 0,
  tuO [] 0,
  fn0 "__init__" "EvVar.__init__" (mAt 82 0),
  coF "__init__" "EvVar.__init__" 1738 517 2 1170 1171 1743 (rV 1172) (rV 1173) (rV 1174),
  fnO "__init__" "EvVar.__init__" (mAt 82 0) .none (sV "lazycore.evidence" 1724) 1175,
  tuO [sV "name" 1746] 0,
  dcO [eM P 1733 (sV "lazycore.evidence" 1724), eF P 1737 (iV 515 1736), eI P 1745 (rV 1176), eA P 1747 (rV 1177), en P "__dict__" 1749 (rV 1180), en P "__weakref__" 1751 (rV 1181), eD P 1752 .none] 4,
  clO [none, none, some (sV "EvVar" 1726), some (sV "EvVar" 1734), some (.builtin "object.__new__"), some (.bool true)] "EvVar" [.type "object"] [rV 1179, .type "object"] 1178 [],
  gdO 1748 1179,
  gwO 1750 1179,
  suO 1179,
  isO 1179]
def n_18 (P : Params) : List Obj := [
  tuO [] 0,
  ppO,
  dcO [eM P 1762 (sV "lazycore.evidence" 1724), eQ P 1764 (sV "EvInstance" 1763), eF P 1766 (iV 519 1765), eI P 1775 (rV 1197), eA P 1778 (rV 1198)] 5,
  tuO [] 0,
  flO .none [iV 521 0, iV 4 0, rV 1196],
  coC "EvInstance" "EvInstance" 1757 519 1187 1188 1760,
  plO (.type "frame") none [some (rV 1189), some (rV 3), some (rV 1186), none, some (sV "lazycore.evidence" 1724), none, some (rV 0)],
  tuO [] 0,
  flO .none [],
  tuO [sV "self" 1770, sV "name" 1771, sV "args" 1772] 0,
  tuO [] 0,
  fn0 "__init__" "EvInstance.__init__" (mAt 83 0),
  coF "__init__" "EvInstance.__init__" 1767 521 3 1191 1192 1773 (rV 1193) (rV 1194) (rV 1195),
  fnO "__init__" "EvInstance.__init__" (mAt 83 0) .none (sV "lazycore.evidence" 1724) 1196,
  tuO [sV "args" 1776, sV "name" 1777] 0,
  dcO [eM P 1762 (sV "lazycore.evidence" 1724), eF P 1766 (iV 519 1765), eI P 1775 (rV 1197), eA P 1778 (rV 1198), en P "__dict__" 1780 (rV 1201), en P "__weakref__" 1782 (rV 1202), eD P 1783 .none] 4,
  clO [none, none, some (sV "EvInstance" 1755), some (sV "EvInstance" 1763), some (.builtin "object.__new__"), some (.bool true)] "EvInstance" [.type "object"] [rV 1200, .type "object"] 1199 [],
  gdO 1779 1200,
  gwO 1781 1200,
  suO 1200,
  isO 1200,
  tuO [] 0,
  flO .none [],
  fn0 "field_of" "field_of" (dAt 85),
  coF "field_of" "field_of" 1788 525 5 1205 1206 1791 .none .none (rV 1207),
  fnO "field_of" "field_of" (dAt 85) .none (sV "lazycore.desugar_dictionaries" 1786) 1208,
  tuO [] 0,
  flO .none [],
  fn0 "dictionary" "dictionary" (dAt 86),
  coF "dictionary" "dictionary" 1794 528 3 1210 1211 1797 .none .none (rV 1212),
  fnO "dictionary" "dictionary" (dAt 86) .none (sV "lazycore.desugar_dictionaries" 1786) 1213]
def n_19 (P : Params) : List Obj := [
  tuO [] 0,
  ppO,
  dcO [eM P 1809 (sV "lazycore.desugar_maker" 1800), eQ P 1811 (sV "Maker" 1810), eF P 1813 (iV 538 1812), eI P 1826 (rV 1228), en P "expression" 1834 (rV 1235), en P "fail" 1841 (rV 1242), en P "match" 1851 (rV 1249), en P "named" 1862 (rV 1256), en P "list_case" 1874 (rV 1263), en P "evidence" 1882 (rV 1270), eA P 1889 (rV 1271)] 11,
  tuO [] 0,
  flO .none [iV 540 0, iV 4 0, rV 1227, iV 548 0, iV 4 0, rV 1234, iV 551 0, iV 4 0, rV 1241, iV 554 0, iV 4 0, rV 1248, iV 557 0, iV 4 0, rV 1255, iV 563 0, iV 4 0, rV 1262, iV 566 0, iV 4 0, rV 1269],
  coC "Maker" "Maker" 1804 538 1218 1219 1807,
  plO (.type "frame") none [some (rV 1220), some (rV 3), some (rV 1217), none, some (sV "lazycore.desugar_maker" 1800), none, some (rV 0)],
  tuO [] 0,
  flO .none [],
  tuO [sV "self" 1817, sV "types" 1818, sV "classes" 1819, sV "fresh" 1820, sV "matcher" 1821, sV "unmatched" 1822, sV "desugar" 1823] 0,
  tuO [] 0,
  fn0 "__init__" "Maker.__init__" (mAt 88 0),
  coF "__init__" "Maker.__init__" 1814 540 7 1222 1223 1824 (rV 1224) (rV 1225) (rV 1226),
  fnO "__init__" "Maker.__init__" (mAt 88 0) .none (sV "lazycore.desugar_maker" 1800) 1227,
  tuO [] 0,
  flO .none [],
  tuO [sV "self" 1830, sV "node" 1831] 0,
  tuO [] 0,
  fn0 "expression" "Maker.expression" (mAt 88 1),
  coF "expression" "Maker.expression" 1827 548 2 1229 1230 1832 (rV 1231) (rV 1232) (rV 1233),
  fnO "expression" "Maker.expression" (mAt 88 1) .none (sV "lazycore.desugar_maker" 1800) 1234,
  tuO [] 0,
  flO .none [],
  tuO [sV "self" 1838] 0,
  tuO [] 0,
  fn0 "fail" "Maker.fail" (mAt 88 2),
  coF "fail" "Maker.fail" 1835 551 1 1236 1237 1839 (rV 1238) (rV 1239) (rV 1240),
  fnO "fail" "Maker.fail" (mAt 88 2) .none (sV "lazycore.desugar_maker" 1800) 1241,
  tuO [] 0,
  flO .none [],
  tuO [sV "self" 1845, sV "names" 1846, sV "rows" 1847, sV "fail" 1848] 0,
  tuO [] 0,
  fn0 "match" "Maker.match" (mAt 88 3),
  coF "match" "Maker.match" 1842 554 4 1243 1244 1849 (rV 1245) (rV 1246) (rV 1247),
  fnO "match" "Maker.match" (mAt 88 3) .none (sV "lazycore.desugar_maker" 1800) 1248,
  tuO [] 0,
  flO .none [],
  tuO [sV "self" 1855, sV "core" 1856, sV "base" 1857, sV "inside" 1858, sV "name" 1859] 0,
  tuO [] 0,
  fn0 "named" "Maker.named" (mAt 88 4),
  coF "named" "Maker.named" 1852 557 4 1250 1251 1860 (rV 1252) (rV 1253) (rV 1254),
  fnO "named" "Maker.named" (mAt 88 4) .none (sV "lazycore.desugar_maker" 1800) 1255,
  tuO [] 0,
  flO .none [],
  tuO [sV "self" 1866, sV "items" 1867, sV "empty" 1868, sV "item" 1869, sV "more" 1870, sV "step" 1871] 0,
  tuO [] 0,
  fn0 "list_case" "Maker.list_case" (mAt 88 5),
  coF "list_case" "Maker.list_case" 1863 563 6 1257 1258 1872 (rV 1259) (rV 1260) (rV 1261),
  fnO "list_case" "Maker.list_case" (mAt 88 5) .none (sV "lazycore.desugar_maker" 1800) 1262,
  tuO [] 0,
  flO .none [],
  tuO [sV "self" 1878, sV "use" 1879] 0,
  tuO [] 0,
  fn0 "evidence" "Maker.evidence" (mAt 88 6),
  coF "evidence" "Maker.evidence" 1875 566 2 1264 1265 1880 (rV 1266) (rV 1267) (rV 1268),
  fnO "evidence" "Maker.evidence" (mAt 88 6) .none (sV "lazycore.desugar_maker" 1800) 1269,
  tuO [sV "classes" 1883, sV "desugar" 1884, sV "fresh" 1885, sV "matcher" 1886, sV "types" 1887, sV "unmatched" 1888] 0,
  dcO [eM P 1809 (sV "lazycore.desugar_maker" 1800), eF P 1813 (iV 538 1812), eI P 1826 (rV 1228), en P "expression" 1834 (rV 1235), en P "fail" 1841 (rV 1242), en P "match" 1851 (rV 1249), en P "named" 1862 (rV 1256), en P "list_case" 1874 (rV 1263), en P "evidence" 1882 (rV 1270), eA P 1889 (rV 1271), en P "__dict__" 1891 (rV 1274), en P "__weakref__" 1893 (rV 1275), eD P 1894 .none] 4,
  clO [none, none, some (sV "Maker" 1802), some (sV "Maker" 1810), some (.builtin "object.__new__"), some (.bool true)] "Maker" [.type "object"] [rV 1273, .type "object"] 1272 [],
  gdO 1890 1273,
  gwO 1892 1273,
  suO 1273,
  isO 1273,
  tuO [] 0,
  flO .none [],
  tuO [sV "name" 1902, sV "at" 1903] 0,
  tuO [] 0,
  fn0 "base_of" "base_of" (dAt 90),
  coF "base_of" "base_of" 1899 569 1 1278 1279 1904 (rV 1280) (rV 1281) (rV 1282),
  fnO "base_of" "base_of" (dAt 90) .none (sV "lazycore.fresh" 1897) 1283]
def n_20 (P : Params) : List Obj := [
  tuO [] 0,
  ppO,
  dcO [eM P 1914 (sV "lazycore.fresh" 1897), eQ P 1916 (sV "Fresh" 1915), eF P 1918 (iV 572 1917), eI P 1926 (rV 1300), en P "avoid" 1935 (rV 1307), en P "next" 1945 (rV 1314), eA P 1948 (rV 1315)] 7,
  tuO [] 0,
  flO .none [iV 574 0, iV 4 0, rV 1299, iV 579 0, iV 4 0, rV 1306, iV 583 0, iV 4 0, rV 1313],
  coC "Fresh" "Fresh" 1909 572 1288 1289 1912,
  plO (.type "frame") none [some (rV 1290), some (rV 3), some (rV 1287), none, some (sV "lazycore.fresh" 1897), none, some (rV 0)],
  tuO [] 0,
  tuO [rV 1292] 0,
  tuO [] 0,
  flO .none [],
  tuO [sV "self" 1922, sV "avoided" 1923] 0,
  tuO [] 0,
  fn0 "__init__" "Fresh.__init__" (mAt 91 0),
  coF "__init__" "Fresh.__init__" 1919 574 2 1294 1295 1924 (rV 1296) (rV 1297) (rV 1298),
  fnO "__init__" "Fresh.__init__" (mAt 91 0) (rV 1293) (sV "lazycore.fresh" 1897) 1299,
  tuO [] 0,
  flO .none [],
  tuO [sV "self" 1930, sV "names" 1931, sV "name" 1932] 0,
  tuO [] 0,
  fn0 "avoid" "Fresh.avoid" (mAt 91 1),
  coF "avoid" "Fresh.avoid" 1927 579 2 1301 1302 1933 (rV 1303) (rV 1304) (rV 1305),
  fnO "avoid" "Fresh.avoid" (mAt 91 1) .none (sV "lazycore.fresh" 1897) 1306,
  tuO [] 0,
  flO .none [],
  tuO [sV "self" 1939, sV "base" 1940, sV "told" 1941, sV "number" 1942] 0,
  tuO [] 0,
  fn0 "next" "Fresh.next" (mAt 91 2),
  coF "next" "Fresh.next" 1936 583 2 1308 1309 1943 (rV 1310) (rV 1311) (rV 1312),
  fnO "next" "Fresh.next" (mAt 91 2) .none (sV "lazycore.fresh" 1897) 1313,
  tuO [sV "avoided" 1946, sV "numbers" 1947] 0,
  dcO [eM P 1914 (sV "lazycore.fresh" 1897), eF P 1918 (iV 572 1917), eI P 1926 (rV 1300), en P "avoid" 1935 (rV 1307), en P "next" 1945 (rV 1314), eA P 1948 (rV 1315), en P "__dict__" 1950 (rV 1318), en P "__weakref__" 1952 (rV 1319), eD P 1953 .none] 4,
  clO [none, none, some (sV "Fresh" 1907), some (sV "Fresh" 1915), some (.builtin "object.__new__"), some (.bool true)] "Fresh" [.type "object"] [rV 1317, .type "object"] 1316 [],
  gdO 1949 1317,
  gwO 1951 1317,
  suO 1317,
  isO 1317,
  tuO [] 0,
  ppO,
  dcO [eM P 1965 (sV "lazycore.schemes" 1956), eQ P 1967 (sV "Need" 1966), eF P 1969 (iV 591 1968), eI P 1978 (rV 1335), eA P 1982 (rV 1336)] 5,
  tuO [] 0,
  flO .none [iV 593 0, iV 4 0, rV 1334],
  coC "Need" "Need" 1960 591 1325 1326 1963,
  plO (.type "frame") none [some (rV 1327), some (rV 3), some (rV 1324), none, some (sV "lazycore.schemes" 1956), none, some (rV 0)],
  tuO [] 0,
  flO .none [],
  tuO [sV "self" 1973, sV "pred" 1974, sV "place" 1975] 0,
  tuO [] 0,
  fn0 "__init__" "Need.__init__" (mAt 93 0),
  coF "__init__" "Need.__init__" 1970 593 3 1329 1330 1976 (rV 1331) (rV 1332) (rV 1333),
  fnO "__init__" "Need.__init__" (mAt 93 0) .none (sV "lazycore.schemes" 1956) 1334,
  tuO [sV "place" 1979, sV "pred" 1980, sV "solution" 1981] 0,
  dcO [eM P 1965 (sV "lazycore.schemes" 1956), eF P 1969 (iV 591 1968), eI P 1978 (rV 1335), eA P 1982 (rV 1336), en P "__dict__" 1984 (rV 1339), en P "__weakref__" 1986 (rV 1340), eD P 1987 .none] 4,
  clO [none, none, some (sV "Need" 1958), some (sV "Need" 1966), some (.builtin "object.__new__"), some (.bool true)] "Need" [.type "object"] [rV 1338, .type "object"] 1337 [],
  gdO 1983 1338,
  gwO 1985 1338,
  suO 1338,
  isO 1338,
  tuO [] 0,
  flO .none [],
  tuO [sV "script" 1995, sV "big" 1996, sV "mixed" 1997, sV "k" 1998] 0,
  tuO [] 0,
  fn0 "_law_pool" "_law_pool" (dAt 95),
  coF "_law_pool" "_law_pool" 1992 598 1 1343 1344 1999 (rV 1345) (rV 1346) (rV 1347),
  fnO "_law_pool" "_law_pool" (dAt 95) .none (sV "law_np0255_01" 1990) 1348,
  tuO [] 0,
  flO .none [],
  tuO [sV "source" 2005, sV "top" 2006, sV "digit" 2007] 0,
  tuO [] 0,
  fn0 "_law_take" "_law_take" (dAt 96),
  coF "_law_take" "_law_take" 2002 606 2 1350 1351 2008 (rV 1352) (rV 1353) (rV 1354),
  fnO "_law_take" "_law_take" (dAt 96) .none (sV "law_np0255_01" 1990) 1355,
  tuO [] 0,
  flO .none [],
  tuO [sV "maker" 2014, sV "told" 2015, sV "found" 2016, sV "name" 2017, sV "item" 2018, sV "core" 2019] 0,
  tuO [] 0,
  fn0 "_law_core" "_law_core" (dAt 97),
  coF "_law_core" "_law_core" 2011 613 2 1357 1358 2020 (rV 1359) (rV 1360) (rV 1361),
  fnO "_law_core" "_law_core" (dAt 97) .none (sV "law_np0255_01" 1990) 1362,
  tuO [] 0,
  flO .none [],
  tuO [sV "names" 2026, sV "rows" 2027, sV "fail" 2028, sV "cons" 2029, sV "fresh" 2030, sV "pattern" 2031, sV "body" 2032, sV "first" 2033, sV "second" 2034] 0,
  tuO [] 0,
  fn0 "_law_matched" "_law_matched" (dAt 98),
  coF "_law_matched" "_law_matched" 2023 626 5 1364 1365 2035 (rV 1366) (rV 1367) (rV 1368),
  fnO "_law_matched" "_law_matched" (dAt 98) .none (sV "law_np0255_01" 1990) 1369]
def n_21 (P : Params) : List Obj := [
  tuO [] 0,
  flO .none [],
  tuO [sV "known" 2041, sV "more" 2042, sV "found" 2043] 0,
  tuO [] 0,
  fn0 "_law_with" "_law_with" (dAt 99),
  coF "_law_with" "_law_with" 2038 638 2 1371 1372 2044 (rV 1373) (rV 1374) (rV 1375),
  fnO "_law_with" "_law_with" (dAt 99) .none (sV "law_np0255_01" 1990) 1376,
  tuO [] 0,
  flO .none [],
  fn0 "_law_value" "_law_value" (dAt 100),
  coF "_law_value" "_law_value" 2047 642 2 1378 1379 2050 .none .none (rV 1380),
  fnO "_law_value" "_law_value" (dAt 100) .none (sV "law_np0255_01" 1990) 1381,
  tuO [] 0,
  flO .none [],
  tuO [sV "value" 2056, sV "found" 2057] 0,
  tuO [] 0,
  fn0 "_law_list" "_law_list" (dAt 101),
  coF "_law_list" "_law_list" 2053 663 1 1383 1384 2058 (rV 1385) (rV 1386) (rV 1387),
  fnO "_law_list" "_law_list" (dAt 101) .none (sV "law_np0255_01" 1990) 1388,
  tuO [] 0,
  flO .none [],
  tuO [sV "core" 2064, sV "env" 2065, sV "name" 2066, sV "args" 2067, sV "found" 2068, sV "item" 2069, sV "kind" 2070, sV "params" 2071, sV "body" 2072, sV "place" 2073] 0,
  tuO [] 0,
  fn0 "_law_called" "_law_called" (dAt 102),
  coF "_law_called" "_law_called" 2061 669 2 1390 1391 2074 (rV 1392) (rV 1393) (rV 1394),
  fnO "_law_called" "_law_called" (dAt 102) .none (sV "law_np0255_01" 1990) 1395,
  tuO [] 0,
  flO .none [],
  tuO [sV "value" 2080] 0,
  tuO [] 0,
  fn0 "_law_all" "_law_all" (dAt 103),
  coF "_law_all" "_law_all" 2077 683 1 1397 1398 2081 (rV 1399) (rV 1400) (rV 1401),
  fnO "_law_all" "_law_all" (dAt 103) .none (sV "law_np0255_01" 1990) 1402,
  tuO [] 0,
  flO .none [],
  tuO [sV "core" 2087, sV "env" 2088, sV "value" 2089, sV "place" 2090, sV "alt" 2091, sV "name" 2092, sV "field" 2093] 0,
  tuO [] 0,
  fn0 "_law_chosen" "_law_chosen" (dAt 104),
  coF "_law_chosen" "_law_chosen" 2084 685 2 1404 1405 2094 (rV 1406) (rV 1407) (rV 1408),
  fnO "_law_chosen" "_law_chosen" (dAt 104) .none (sV "law_np0255_01" 1990) 1409,
  tuO [] 0,
  flO .none [],
  fn0 "_law_told" "_law_told" (dAt 105),
  coF "_law_told" "_law_told" 2097 698 3 1411 1412 2100 .none .none (rV 1413),
  fnO "_law_told" "_law_told" (dAt 105) .none (sV "law_np0255_01" 1990) 1414,
  tuO [] 0,
  flO .none [],
  tuO [sV "source" 2106, sV "rows" 2107, sV "names" 2108, sV "turn" 2109, sV "way" 2110, sV "name" 2111, sV "value" 2112] 0,
  tuO [] 0,
  fn0 "_law_statements" "_law_statements" (dAt 106),
  coF "_law_statements" "_law_statements" 2103 706 1 1416 1417 2113 (rV 1418) (rV 1419) (rV 1420),
  fnO "_law_statements" "_law_statements" (dAt 106) .none (sV "law_np0255_01" 1990) 1421,
  tuO [] 0,
  flO .none [],
  tuO [sV "told" 2119] 0,
  tuO [] 0,
  fn0 "_law_pattern" "_law_pattern" (dAt 107),
  coF "_law_pattern" "_law_pattern" 2116 726 1 1423 1424 2120 (rV 1425) (rV 1426) (rV 1427),
  fnO "_law_pattern" "_law_pattern" (dAt 107) .none (sV "law_np0255_01" 1990) 1428,
  tuO [] 0,
  flO .none [],
  tuO [sV "row" 2126, sV "bind" 2127, sV "binds" 2128] 0,
  tuO [] 0,
  fn0 "_law_statement" "_law_statement" (dAt 108),
  coF "_law_statement" "_law_statement" 2123 734 1 1430 1431 2129 (rV 1432) (rV 1433) (rV 1434),
  fnO "_law_statement" "_law_statement" (dAt 108) .none (sV "law_np0255_01" 1990) 1435,
  tuO [] 0,
  flO .none [],
  tuO [sV "told" 2135, sV "item" 2136] 0,
  tuO [] 0,
  fn0 "_law_taken" "_law_taken" (dAt 109),
  coF "_law_taken" "_law_taken" 2132 743 2 1437 1438 2137 (rV 1439) (rV 1440) (rV 1441),
  fnO "_law_taken" "_law_taken" (dAt 109) .none (sV "law_np0255_01" 1990) 1442,
  tuO [] 0,
  flO .none [],
  fn0 "_law_plain" "_law_plain" (dAt 110),
  coF "_law_plain" "_law_plain" 2140 751 2 1444 1445 2143 .none .none (rV 1446),
  fnO "_law_plain" "_law_plain" (dAt 110) .none (sV "law_np0255_01" 1990) 1447,
  tuO [] 0,
  flO .none [],
  tuO [sV "rows" 2149, sV "at" 2150, sV "known" 2151, sV "row" 2152, sV "found" 2153, sV "item" 2154, sV "told" 2155] 0,
  tuO [] 0,
  fn0 "_law_binds" "_law_binds" (dAt 111),
  coF "_law_binds" "_law_binds" 2146 753 3 1449 1450 2156 (rV 1451) (rV 1452) (rV 1453),
  fnO "_law_binds" "_law_binds" (dAt 111) .none (sV "law_np0255_01" 1990) 1454,
  tuO [] 0,
  flO .none [],
  fn0 "law" "law" (dAt 112),
  coF "law" "law" 2159 765 1 1456 1457 2162 .none .none (rV 1458),
  fnO "law" "law" (dAt 112) .none (sV "law_np0255_01" 1990) 1459]
def L_0 (P : Params) : List Obj := flat [n_0 P (v3_0 P) (v12_0 P)]
def L_1 (P : Params) : List Obj := flat [n_0 P (v3_1 P) (v12_1 P), n_1 P]
def L_2 (P : Params) : List Obj := flat [n_0 P (v3_2 P) (v12_2 P), n_1 P, n_2 P]
def L_3 (P : Params) : List Obj := flat [n_0 P (v3_3 P) (v12_3 P), n_1 P, n_2 P, n_3 P]
def L_4 (P : Params) : List Obj := flat [n_0 P (v3_4 P) (v12_4 P), n_1 P, n_2 P, n_3 P, n_4 P]
def L_5 (P : Params) : List Obj := flat [n_0 P (v3_5 P) (v12_5 P), n_1 P, n_2 P, n_3 P, n_4 P, n_5 P]
def L_6 (P : Params) : List Obj := flat [n_0 P (v3_6 P) (v12_6 P), n_1 P, n_2 P, n_3 P, n_4 P, n_5 P, n_6 P (v437_6 P)]
def L_7 (P : Params) : List Obj := flat [n_0 P (v3_7 P) (v12_7 P), n_1 P, n_2 P, n_3 P, n_4 P, n_5 P, n_6 P (v437_7 P), n_7 P]
def L_8 (P : Params) : List Obj := flat [n_0 P (v3_8 P) (v12_8 P), n_1 P, n_2 P, n_3 P, n_4 P, n_5 P, n_6 P (v437_8 P), n_7 P, n_8 P]
def L_9 (P : Params) : List Obj := flat [n_0 P (v3_9 P) (v12_9 P), n_1 P, n_2 P, n_3 P, n_4 P, n_5 P, n_6 P (v437_9 P), n_7 P, n_8 P, n_9 P]
def L_10 (P : Params) : List Obj := flat [n_0 P (v3_10 P) (v12_10 P), n_1 P, n_2 P, n_3 P, n_4 P, n_5 P, n_6 P (v437_10 P), n_7 P, n_8 P, n_9 P, n_10 P]
def L_11 (P : Params) : List Obj := flat [n_0 P (v3_11 P) (v12_11 P), n_1 P, n_2 P, n_3 P, n_4 P, n_5 P, n_6 P (v437_11 P), n_7 P, n_8 P, n_9 P, n_10 P, n_11 P]
def L_12 (P : Params) : List Obj := flat [n_0 P (v3_12 P) (v12_12 P), n_1 P, n_2 P, n_3 P, n_4 P, n_5 P, n_6 P (v437_12 P), n_7 P, n_8 P, n_9 P, n_10 P, n_11 P, n_12 P]
def L_13 (P : Params) : List Obj := flat [n_0 P (v3_13 P) (v12_13 P), n_1 P, n_2 P, n_3 P, n_4 P, n_5 P, n_6 P (v437_13 P), n_7 P, n_8 P, n_9 P, n_10 P, n_11 P, n_12 P, n_13 P]
def L_14 (P : Params) : List Obj := flat [n_0 P (v3_14 P) (v12_14 P), n_1 P, n_2 P, n_3 P, n_4 P, n_5 P, n_6 P (v437_14 P), n_7 P, n_8 P, n_9 P, n_10 P, n_11 P, n_12 P, n_13 P, n_14 P]
def L_15 (P : Params) : List Obj := flat [n_0 P (v3_15 P) (v12_15 P), n_1 P, n_2 P, n_3 P, n_4 P, n_5 P, n_6 P (v437_15 P), n_7 P, n_8 P, n_9 P, n_10 P, n_11 P, n_12 P, n_13 P, n_14 P, n_15 P]
def L_16 (P : Params) : List Obj := flat [n_0 P (v3_16 P) (v12_16 P), n_1 P, n_2 P, n_3 P, n_4 P, n_5 P, n_6 P (v437_15 P), n_7 P, n_8 P, n_9 P, n_10 P, n_11 P, n_12 P, n_13 P, n_14 P, n_15 P, n_16 P]
def L_17 (P : Params) : List Obj := flat [n_0 P (v3_17 P) (v12_17 P), n_1 P, n_2 P, n_3 P, n_4 P, n_5 P, n_6 P (v437_15 P), n_7 P, n_8 P, n_9 P, n_10 P, n_11 P, n_12 P, n_13 P, n_14 P, n_15 P, n_16 P, n_17 P]
def L_18 (P : Params) : List Obj := flat [n_0 P (v3_18 P) (v12_18 P), n_1 P, n_2 P, n_3 P, n_4 P, n_5 P, n_6 P (v437_15 P), n_7 P, n_8 P, n_9 P, n_10 P, n_11 P, n_12 P, n_13 P, n_14 P, n_15 P, n_16 P, n_17 P, n_18 P]
def L_19 (P : Params) : List Obj := flat [n_0 P (v3_19 P) (v12_19 P), n_1 P, n_2 P, n_3 P, n_4 P, n_5 P, n_6 P (v437_15 P), n_7 P, n_8 P, n_9 P, n_10 P, n_11 P, n_12 P, n_13 P, n_14 P, n_15 P, n_16 P, n_17 P, n_18 P, n_19 P]
def L_20 (P : Params) : List Obj := flat [n_0 P (v3_20 P) (v12_20 P), n_1 P, n_2 P, n_3 P, n_4 P, n_5 P, n_6 P (v437_15 P), n_7 P, n_8 P, n_9 P, n_10 P, n_11 P, n_12 P, n_13 P, n_14 P, n_15 P, n_16 P, n_17 P, n_18 P, n_19 P, n_20 P]
def L_21 (P : Params) : List Obj := flat [n_0 P (v3_21 P) (v12_21 P), n_1 P, n_2 P, n_3 P, n_4 P, n_5 P, n_6 P (v437_15 P), n_7 P, n_8 P, n_9 P, n_10 P, n_11 P, n_12 P, n_13 P, n_14 P, n_15 P, n_16 P, n_17 P, n_18 P, n_19 P, n_20 P, n_21 P]
def St_0 (w : World) (os : OsState) : SharedT := stOf (L_0 w.params) 15 187 os
noncomputable def pos_0 : Pos := ⟨0, 0, 0, 0⟩
def St_1 (w : World) (os : OsState) : SharedT := stOf (L_1 w.params) 85 284 os
noncomputable def pos_1 : Pos := ⟨25, 0, 25, 8⟩
def St_2 (w : World) (os : OsState) : SharedT := stOf (L_2 w.params) 167 391 os
noncomputable def pos_2 : Pos := ⟨40, 0, 53, 16⟩
def St_3 (w : World) (os : OsState) : SharedT := stOf (L_3 w.params) 247 499 os
noncomputable def pos_3 : Pos := ⟨68, 0, 83, 16⟩
def St_4 (w : World) (os : OsState) : SharedT := stOf (L_4 w.params) 308 591 os
noncomputable def pos_4 : Pos := ⟨90, 0, 108, 16⟩
def St_5 (w : World) (os : OsState) : SharedT := stOf (L_5 w.params) 395 712 os
noncomputable def pos_5 : Pos := ⟨139, 0, 146, 16⟩
def St_6 (w : World) (os : OsState) : SharedT := stOf (L_6 w.params) 469 813 os
noncomputable def pos_6 : Pos := ⟨171, 0, 180, 60⟩
def St_7 (w : World) (os : OsState) : SharedT := stOf (L_7 w.params) 521 882 os
noncomputable def pos_7 : Pos := ⟨190, 0, 199, 46⟩
def St_8 (w : World) (os : OsState) : SharedT := stOf (L_8 w.params) 575 953 os
noncomputable def pos_8 : Pos := ⟨219, 0, 219, 9⟩
def St_9 (w : World) (os : OsState) : SharedT := stOf (L_9 w.params) 629 1022 os
noncomputable def pos_9 : Pos := ⟨230, 0, 238, 47⟩
def St_10 (w : World) (os : OsState) : SharedT := stOf (L_10 w.params) 683 1090 os
noncomputable def pos_10 : Pos := ⟨248, 0, 255, 39⟩
def St_11 (w : World) (os : OsState) : SharedT := stOf (L_11 w.params) 737 1158 os
noncomputable def pos_11 : Pos := ⟨265, 0, 272, 34⟩
def St_12 (w : World) (os : OsState) : SharedT := stOf (L_12 w.params) 791 1224 os
noncomputable def pos_12 : Pos := ⟨280, 0, 288, 46⟩
def St_13 (w : World) (os : OsState) : SharedT := stOf (L_13 w.params) 845 1292 os
noncomputable def pos_13 : Pos := ⟨298, 0, 305, 46⟩
def St_14 (w : World) (os : OsState) : SharedT := stOf (L_14 w.params) 899 1360 os
noncomputable def pos_14 : Pos := ⟨314, 0, 322, 53⟩
def St_15 (w : World) (os : OsState) : SharedT := stOf (L_15 w.params) 974 1455 os
noncomputable def pos_15 : Pos := ⟨347, 0, 350, 88⟩
def St_16 (w : World) (os : OsState) : SharedT := stOf (L_16 w.params) 1090 1613 os
noncomputable def pos_16 : Pos := ⟨445, 0, 450, 52⟩
def St_17 (w : World) (os : OsState) : SharedT := stOf (L_17 w.params) 1184 1755 os
noncomputable def pos_17 : Pos := ⟨515, 0, 518, 24⟩
def St_18 (w : World) (os : OsState) : SharedT := stOf (L_18 w.params) 1215 1802 os
noncomputable def pos_18 : Pos := ⟨537, 0, 537, 8⟩
def St_19 (w : World) (os : OsState) : SharedT := stOf (L_19 w.params) 1285 1907 os
noncomputable def pos_19 : Pos := ⟨569, 0, 571, 68⟩
def St_20 (w : World) (os : OsState) : SharedT := stOf (L_20 w.params) 1371 2038 os
noncomputable def pos_20 : Pos := ⟨626, 0, 637, 94⟩
def St_21 (w : World) (os : OsState) : SharedT := stOf (L_21 w.params) 1461 2165 os
noncomputable def pos_21 : Pos := ⟨765, 0, 775, 42⟩
abbrev sts_0 : List Stmt := (pw.main.body.drop 0).take 6
abbrev sts_1 : List Stmt := (pw.main.body.drop 6).take 2
abbrev sts_2 : List Stmt := (pw.main.body.drop 8).take 2
abbrev sts_3 : List Stmt := (pw.main.body.drop 10).take 2
abbrev sts_4 : List Stmt := (pw.main.body.drop 12).take 5
abbrev sts_5 : List Stmt := (pw.main.body.drop 17).take 6
abbrev sts_6 : List Stmt := (pw.main.body.drop 23).take 2
abbrev sts_7 : List Stmt := (pw.main.body.drop 25).take 3
abbrev sts_8 : List Stmt := (pw.main.body.drop 28).take 3
abbrev sts_9 : List Stmt := (pw.main.body.drop 31).take 2
abbrev sts_10 : List Stmt := (pw.main.body.drop 33).take 3
abbrev sts_11 : List Stmt := (pw.main.body.drop 36).take 2
abbrev sts_12 : List Stmt := (pw.main.body.drop 38).take 2
abbrev sts_13 : List Stmt := (pw.main.body.drop 40).take 2
abbrev sts_14 : List Stmt := (pw.main.body.drop 42).take 9
abbrev sts_15 : List Stmt := (pw.main.body.drop 51).take 16
abbrev sts_16 : List Stmt := (pw.main.body.drop 67).take 16
abbrev sts_17 : List Stmt := (pw.main.body.drop 83).take 5
abbrev sts_18 : List Stmt := (pw.main.body.drop 88).take 3
abbrev sts_19 : List Stmt := (pw.main.body.drop 91).take 8
abbrev sts_20 : List Stmt := (pw.main.body.drop 99).take 14
def envT : Env := { scope := pw.main.scope, locals := mainNs, globals := mainNs, cells := [], code := .ref 13, frame := some 14 }
end Mine
end
section
open PySem PySem.W PyProof.Rows
set_option maxRecDepth 100000
set_option maxHeartbeats 8000000
namespace Mine
noncomputable def mAs : List Addr := [2, 3, 34, 35, 37, 38, 55, 56, 79, 80, 97, 98, 104, 105, 111, 112, 121, 122, 139, 140, 161, 162, 179, 180, 203, 204, 221, 222, 241, 242, 259, 260, 262, 263, 280, 281, 302, 303, 320, 321, 342, 343, 360, 361, 382, 383, 400, 401, 426, 427, 436, 437, 449, 455, 456, 465, 466, 476, 482, 483, 492, 493, 503, 509, 510, 517, 518, 528, 534, 535, 544, 545, 572, 599, 609, 615, 616, 625, 626, 636, 642, 643, 652, 653, 663, 669, 670, 679, 680, 690, 696, 697, 706, 707, 717, 723, 724, 733, 734, 744, 750, 751, 760, 761, 771, 777, 778, 787, 788, 798, 804, 805, 814, 815, 825, 831, 832, 841, 842, 869, 896, 923, 950, 958, 959, 979, 980, 1012, 1013, 1031, 1032, 1034, 1035, 1043, 1044, 1057, 1058, 1069, 1070, 1076, 1077, 1081, 1082, 1100, 1101, 1107, 1108, 1112, 1113, 1119, 1120, 1126, 1127, 1133, 1134, 1140, 1141, 1147, 1148, 1154, 1155, 1175, 1176, 1178, 1179, 1200, 1213, 1214, 1227, 1228, 1234, 1235, 1241, 1242, 1248, 1249, 1255, 1256, 1269, 1270, 1272, 1273, 1283, 1284, 1292, 1293, 1299, 1300, 1306, 1307, 1313, 1314, 1316, 1317, 1334, 1335, 1337, 1338, 1348, 1349, 1355, 1356, 1362, 1363, 1369, 1370, 1376, 1377, 1381, 1382, 1388, 1389, 1395, 1396, 1402, 1403, 1409, 1410, 1414, 1415, 1421, 1422, 1428, 1429, 1435, 1436, 1442, 1443, 1447, 1448, 1454, 1455, 1459, 1460]
noncomputable def pickL : List Addr → Nat → List Obj → Frag
  | [], _, _ => []
  | _ :: _, _, [] => []
  | a :: as, i, o :: l => match Nat.beq a i with
    | true => (a, o) :: pickL as (i + 1) l
    | false => pickL (a :: as) (i + 1) l
noncomputable def mK (P : Params) : Frag := pickL mAs 0 (L_21 P)
theorem mK_as : ∀ P, mAs = (mK P).map (·.1) := fun _ => by kernel_rfl
noncomputable def mHook : Hook := kmHook mK mAs mK_as [1072, 1136, 1150]
noncomputable abbrev cT : Code := .body pw.main.body envT
noncomputable abbrev q0 : Pos := ⟨0, 0, 0, 0⟩
theorem gq_0 (w : World) (os : OsState) : PySem.W.Fast.tw10110043849684766642 PySem.W.Fast.tw14364793385576792824 pw w 11 (some (.ref 6)) 1 606 (St_0 w os) (piecesOf sts_0 envT cT pos_0 [topFrame q0]) = some (.next, St_1 w os, cT, pos_1) := by kernel_rfl
theorem gq_1 (w : World) (os : OsState) : PySem.W.Fast.tw10110043849684766642 PySem.W.Fast.tw14364793385576792824 pw w 11 (some (.ref 6)) 1 637 (St_1 w os) (piecesOf sts_1 envT cT pos_1 [topFrame q0]) = some (.next, St_2 w os, cT, pos_2) := by kernel_rfl
theorem gq_2 (w : World) (os : OsState) : PySem.W.Fast.tw10110043849684766642 PySem.W.Fast.tw14364793385576792824 pw w 11 (some (.ref 6)) 1 636 (St_2 w os) (piecesOf sts_2 envT cT pos_2 [topFrame q0]) = some (.next, St_3 w os, cT, pos_3) := by kernel_rfl
theorem gq_3 (w : World) (os : OsState) : PySem.W.Fast.tw10110043849684766642 PySem.W.Fast.tw14364793385576792824 pw w 11 (some (.ref 6)) 1 550 (St_3 w os) (piecesOf sts_3 envT cT pos_3 [topFrame q0]) = some (.next, St_4 w os, cT, pos_4) := by kernel_rfl
theorem gq_4 (w : World) (os : OsState) : PySem.W.Fast.tw10110043849684766642 PySem.W.Fast.tw14364793385576792824 pw w 11 (some (.ref 6)) 1 690 (St_4 w os) (piecesOf sts_4 envT cT pos_4 [topFrame q0]) = some (.next, St_5 w os, cT, pos_5) := by kernel_rfl
theorem gq_5 (w : World) (os : OsState) : PySem.W.Fast.tw10110043849684766642 PySem.W.Fast.tw14364793385576792824 pw w 11 (some (.ref 6)) 1 640 (St_5 w os) (piecesOf sts_5 envT cT pos_5 [topFrame q0]) = some (.next, St_6 w os, cT, pos_6) := by kernel_rfl
theorem gq_6 (w : World) (os : OsState) : PySem.W.Fast.tw10110043849684766642 PySem.W.Fast.tw14364793385576792824 pw w 11 (some (.ref 6)) 1 559 (St_6 w os) (piecesOf sts_6 envT cT pos_6 [topFrame q0]) = some (.next, St_7 w os, cT, pos_7) := by kernel_rfl
theorem gq_7 (w : World) (os : OsState) : PySem.W.Fast.tw10110043849684766642 PySem.W.Fast.tw14364793385576792824 pw w 11 (some (.ref 6)) 1 573 (St_7 w os) (piecesOf sts_7 envT cT pos_7 [topFrame q0]) = some (.next, St_8 w os, cT, pos_8) := by kernel_rfl
theorem gq_8 (w : World) (os : OsState) : PySem.W.Fast.tw10110043849684766642 PySem.W.Fast.tw14364793385576792824 pw w 11 (some (.ref 6)) 1 571 (St_8 w os) (piecesOf sts_8 envT cT pos_8 [topFrame q0]) = some (.next, St_9 w os, cT, pos_9) := by kernel_rfl
theorem gq_9 (w : World) (os : OsState) : PySem.W.Fast.tw10110043849684766642 PySem.W.Fast.tw14364793385576792824 pw w 11 (some (.ref 6)) 1 560 (St_9 w os) (piecesOf sts_9 envT cT pos_9 [topFrame q0]) = some (.next, St_10 w os, cT, pos_10) := by kernel_rfl
theorem gq_10 (w : World) (os : OsState) : PySem.W.Fast.tw10110043849684766642 PySem.W.Fast.tw14364793385576792824 pw w 11 (some (.ref 6)) 1 568 (St_10 w os) (piecesOf sts_10 envT cT pos_10 [topFrame q0]) = some (.next, St_11 w os, cT, pos_11) := by kernel_rfl
theorem gq_11 (w : World) (os : OsState) : PySem.W.Fast.tw10110043849684766642 PySem.W.Fast.tw14364793385576792824 pw w 11 (some (.ref 6)) 1 558 (St_11 w os) (piecesOf sts_11 envT cT pos_11 [topFrame q0]) = some (.next, St_12 w os, cT, pos_12) := by kernel_rfl
theorem gq_12 (w : World) (os : OsState) : PySem.W.Fast.tw10110043849684766642 PySem.W.Fast.tw14364793385576792824 pw w 11 (some (.ref 6)) 1 560 (St_12 w os) (piecesOf sts_12 envT cT pos_12 [topFrame q0]) = some (.next, St_13 w os, cT, pos_13) := by kernel_rfl
theorem gq_13 (w : World) (os : OsState) : PySem.W.Fast.tw10110043849684766642 PySem.W.Fast.tw14364793385576792824 pw w 11 (some (.ref 6)) 1 560 (St_13 w os) (piecesOf sts_13 envT cT pos_13 [topFrame q0]) = some (.next, St_14 w os, cT, pos_14) := by kernel_rfl
theorem gq_14 (w : World) (os : OsState) : PySem.W.Fast.tw10110043849684766642 PySem.W.Fast.tw14364793385576792824 pw w 11 (some (.ref 6)) 1 688 (St_14 w os) (piecesOf sts_14 envT cT pos_14 [topFrame q0]) = some (.next, St_15 w os, cT, pos_15) := by kernel_rfl
theorem gq_15 (w : World) (os : OsState) : PySem.W.Fast.tw10110043849684766642 PySem.W.Fast.tw14364793385576792824 pw w 11 (some (.ref 6)) 1 714 (St_15 w os) (piecesOf sts_15 envT cT pos_15 [topFrame q0]) = some (.next, St_16 w os, cT, pos_16) := by kernel_rfl
theorem gq_16 (w : World) (os : OsState) : PySem.W.Fast.tw10110043849684766642 PySem.W.Fast.tw14364793385576792824 pw w 11 (some (.ref 6)) 1 617 (St_16 w os) (piecesOf sts_16 envT cT pos_16 [topFrame q0]) = some (.next, St_17 w os, cT, pos_17) := by kernel_rfl
theorem gq_17 (w : World) (os : OsState) : PySem.W.Fast.tw10110043849684766642 PySem.W.Fast.tw14364793385576792824 pw w 11 (some (.ref 6)) 1 299 (St_17 w os) (piecesOf sts_17 envT cT pos_17 [topFrame q0]) = some (.next, St_18 w os, cT, pos_18) := by kernel_rfl
theorem gq_18 (w : World) (os : OsState) : PySem.W.Fast.tw10110043849684766642 PySem.W.Fast.tw14364793385576792824 pw w 11 (some (.ref 6)) 1 474 (St_18 w os) (piecesOf sts_18 envT cT pos_18 [topFrame q0]) = some (.next, St_19 w os, cT, pos_19) := by kernel_rfl
theorem gq_19 (w : World) (os : OsState) : PySem.W.Fast.tw10110043849684766642 PySem.W.Fast.tw14364793385576792824 pw w 11 (some (.ref 6)) 1 678 (St_19 w os) (piecesOf sts_19 envT cT pos_19 [topFrame q0]) = some (.next, St_20 w os, cT, pos_20) := by kernel_rfl
theorem gq_20 (w : World) (os : OsState) : PySem.W.Fast.tw10110043849684766642 PySem.W.Fast.tw14364793385576792824 pw w 11 (some (.ref 6)) 1 441 (St_20 w os) (piecesOf sts_20 envT cT pos_20 [topFrame q0]) = some (.next, St_21 w os, cT, pos_21) := by kernel_rfl
end Mine
end
noncomputable section
open PySem PySem.W PyProof.Rows
set_option maxRecDepth 100000
set_option maxHeartbeats 8000000
namespace Mine
noncomputable abbrev ann0 : Option Value := some (.ref 6)
theorem seg_tw (w : World) (n : Nat) (s : SharedT) (t : Thread) : segRunT treeTable pw w 11 ann0 1 n s t = PySem.W.Fast.tw10110043849684766642 PySem.W.Fast.tw14364793385576792824 pw w 11 ann0 1 n s t := by
  rw [← PySem.W.Fast.te10110043849684766642, ← PySem.W.Fast.te14364793385576792824]
theorem drop_split {α : Type} (l : List α) (a m : Nat) : l.drop a = (l.drop a).take m ++ l.drop (a + m) := by
  rw [← List.drop_drop]; exact (List.take_append_drop m _).symm
theorem piece_on {w : World} {a m n N : Nat} {s s' : SharedT} {r : Shared} {pos p' : Pos} (h : PySem.W.Fast.tw10110043849684766642 PySem.W.Fast.tw14364793385576792824 pw w 11 ann0 1 n s (piecesOf ((pw.main.body.drop a).take m) envT cT pos [topFrame q0]) = some (.next, s', cT, p'))
    (k : topRun treeTable pw w 11 ann0 N s'.abs (restOf (pw.main.body.drop (a + m)) envT cT p' [topFrame q0]) = some r) :
    topRun treeTable pw w 11 ann0 (n + N) s.abs (restOf (pw.main.body.drop a) envT cT pos [topFrame q0]) = some r := by
  rw [drop_split pw.main.body a m]
  exact piece_app (segRun_of ((seg_tw w n s _).trans h)) k
noncomputable def Hf (P : Params) : Heap := ⟨⟨L_21 P⟩, {}⟩
theorem abs_f (P : Params) : absHeap (btOf 12 (L_21 P)) 1461 {} = Hf P := by kernel_rfl
noncomputable def Sf (w : World) (os : OsState) : Shared := ⟨Hf w.params, #[], ⟨0, 0, 0, 0⟩, 2165, os⟩
theorem abs_s (w : World) (os : OsState) : (St_21 w os).abs = Sf w os := by
  show (⟨absHeap (btOf 12 (L_21 w.params)) 1461 {}, #[], ⟨0, 0, 0, 0⟩, 2165, os⟩ : Shared) = _
  rw [abs_f]; rfl
theorem run_21 (w : World) (os : OsState) : topRun treeTable pw w 11 ann0 2 (St_21 w os).abs (restOf (pw.main.body.drop 113) envT cT pos_21 [topFrame q0]) = some (Sf w os) := by
  rw [abs_s]
  show topRun treeTable pw w 11 ann0 2 (Sf w os) ⟨doneF .next, cT, pos_21, [topFrame q0]⟩ = _
  kernel_rfl
theorem run_20 (w : World) (os : OsState) : topRun treeTable pw w 11 ann0 (441 + 2) (St_20 w os).abs (restOf (pw.main.body.drop 99) envT cT pos_20 [topFrame q0]) = some (Sf w os) := piece_on (a := 99) (m := 14) (gq_20 w os) (run_21 w os)
theorem run_19 (w : World) (os : OsState) : topRun treeTable pw w 11 ann0 (678 + 443) (St_19 w os).abs (restOf (pw.main.body.drop 91) envT cT pos_19 [topFrame q0]) = some (Sf w os) := piece_on (a := 91) (m := 8) (gq_19 w os) (run_20 w os)
theorem run_18 (w : World) (os : OsState) : topRun treeTable pw w 11 ann0 (474 + 1121) (St_18 w os).abs (restOf (pw.main.body.drop 88) envT cT pos_18 [topFrame q0]) = some (Sf w os) := piece_on (a := 88) (m := 3) (gq_18 w os) (run_19 w os)
theorem run_17 (w : World) (os : OsState) : topRun treeTable pw w 11 ann0 (299 + 1595) (St_17 w os).abs (restOf (pw.main.body.drop 83) envT cT pos_17 [topFrame q0]) = some (Sf w os) := piece_on (a := 83) (m := 5) (gq_17 w os) (run_18 w os)
theorem run_16 (w : World) (os : OsState) : topRun treeTable pw w 11 ann0 (617 + 1894) (St_16 w os).abs (restOf (pw.main.body.drop 67) envT cT pos_16 [topFrame q0]) = some (Sf w os) := piece_on (a := 67) (m := 16) (gq_16 w os) (run_17 w os)
theorem run_15 (w : World) (os : OsState) : topRun treeTable pw w 11 ann0 (714 + 2511) (St_15 w os).abs (restOf (pw.main.body.drop 51) envT cT pos_15 [topFrame q0]) = some (Sf w os) := piece_on (a := 51) (m := 16) (gq_15 w os) (run_16 w os)
theorem run_14 (w : World) (os : OsState) : topRun treeTable pw w 11 ann0 (688 + 3225) (St_14 w os).abs (restOf (pw.main.body.drop 42) envT cT pos_14 [topFrame q0]) = some (Sf w os) := piece_on (a := 42) (m := 9) (gq_14 w os) (run_15 w os)
theorem run_13 (w : World) (os : OsState) : topRun treeTable pw w 11 ann0 (560 + 3913) (St_13 w os).abs (restOf (pw.main.body.drop 40) envT cT pos_13 [topFrame q0]) = some (Sf w os) := piece_on (a := 40) (m := 2) (gq_13 w os) (run_14 w os)
theorem run_12 (w : World) (os : OsState) : topRun treeTable pw w 11 ann0 (560 + 4473) (St_12 w os).abs (restOf (pw.main.body.drop 38) envT cT pos_12 [topFrame q0]) = some (Sf w os) := piece_on (a := 38) (m := 2) (gq_12 w os) (run_13 w os)
theorem run_11 (w : World) (os : OsState) : topRun treeTable pw w 11 ann0 (558 + 5033) (St_11 w os).abs (restOf (pw.main.body.drop 36) envT cT pos_11 [topFrame q0]) = some (Sf w os) := piece_on (a := 36) (m := 2) (gq_11 w os) (run_12 w os)
theorem run_10 (w : World) (os : OsState) : topRun treeTable pw w 11 ann0 (568 + 5591) (St_10 w os).abs (restOf (pw.main.body.drop 33) envT cT pos_10 [topFrame q0]) = some (Sf w os) := piece_on (a := 33) (m := 3) (gq_10 w os) (run_11 w os)
theorem run_9 (w : World) (os : OsState) : topRun treeTable pw w 11 ann0 (560 + 6159) (St_9 w os).abs (restOf (pw.main.body.drop 31) envT cT pos_9 [topFrame q0]) = some (Sf w os) := piece_on (a := 31) (m := 2) (gq_9 w os) (run_10 w os)
theorem run_8 (w : World) (os : OsState) : topRun treeTable pw w 11 ann0 (571 + 6719) (St_8 w os).abs (restOf (pw.main.body.drop 28) envT cT pos_8 [topFrame q0]) = some (Sf w os) := piece_on (a := 28) (m := 3) (gq_8 w os) (run_9 w os)
theorem run_7 (w : World) (os : OsState) : topRun treeTable pw w 11 ann0 (573 + 7290) (St_7 w os).abs (restOf (pw.main.body.drop 25) envT cT pos_7 [topFrame q0]) = some (Sf w os) := piece_on (a := 25) (m := 3) (gq_7 w os) (run_8 w os)
theorem run_6 (w : World) (os : OsState) : topRun treeTable pw w 11 ann0 (559 + 7863) (St_6 w os).abs (restOf (pw.main.body.drop 23) envT cT pos_6 [topFrame q0]) = some (Sf w os) := piece_on (a := 23) (m := 2) (gq_6 w os) (run_7 w os)
theorem run_5 (w : World) (os : OsState) : topRun treeTable pw w 11 ann0 (640 + 8422) (St_5 w os).abs (restOf (pw.main.body.drop 17) envT cT pos_5 [topFrame q0]) = some (Sf w os) := piece_on (a := 17) (m := 6) (gq_5 w os) (run_6 w os)
theorem run_4 (w : World) (os : OsState) : topRun treeTable pw w 11 ann0 (690 + 9062) (St_4 w os).abs (restOf (pw.main.body.drop 12) envT cT pos_4 [topFrame q0]) = some (Sf w os) := piece_on (a := 12) (m := 5) (gq_4 w os) (run_5 w os)
theorem run_3 (w : World) (os : OsState) : topRun treeTable pw w 11 ann0 (550 + 9752) (St_3 w os).abs (restOf (pw.main.body.drop 10) envT cT pos_3 [topFrame q0]) = some (Sf w os) := piece_on (a := 10) (m := 2) (gq_3 w os) (run_4 w os)
theorem run_2 (w : World) (os : OsState) : topRun treeTable pw w 11 ann0 (636 + 10302) (St_2 w os).abs (restOf (pw.main.body.drop 8) envT cT pos_2 [topFrame q0]) = some (Sf w os) := piece_on (a := 8) (m := 2) (gq_2 w os) (run_3 w os)
theorem run_1 (w : World) (os : OsState) : topRun treeTable pw w 11 ann0 (637 + 10938) (St_1 w os).abs (restOf (pw.main.body.drop 6) envT cT pos_1 [topFrame q0]) = some (Sf w os) := piece_on (a := 6) (m := 2) (gq_1 w os) (run_2 w os)
theorem run_0 (w : World) (os : OsState) : topRun treeTable pw w 11 ann0 (606 + 11575) (St_0 w os).abs (restOf (pw.main.body.drop 0) envT cT pos_0 [topFrame q0]) = some (Sf w os) := piece_on (a := 0) (m := 6) (gq_0 w os) (run_1 w os)
theorem pre_block (w : World) (os : OsState) : topGo treeTable pw w 11 ann0 12 ⟨boot_heap w.params, #[], boot_drawn, boot_toks, os⟩ (topStub pw) = some ((St_0 w os).abs, ⟨denote treeTable cT, cT, q0, [topFrame q0]⟩) := by kernel_rfl
theorem block0 (w : World) (os : OsState) : segRun treeTable pw w 11 ann0 1 1 (St_0 w os).abs (blockOf pw.main.body envT cT q0 [topFrame q0]) = some (.next, (St_0 w os).abs, cT, pos_0) := by kernel_rfl
theorem run_all (w : World) (os : OsState) : topRun treeTable pw w 11 ann0 (12 + (1 + 12181)) ⟨boot_heap w.params, #[], boot_drawn, boot_toks, os⟩ (topStub pw) = some (Sf w os) :=
  go_top (pre_block w os) (piece_block (block0 w os) (run_0 w os))
theorem boot0 (N : Nat) (hN : Nat.ble 600 N = true) : ∀ w : World, (fencedOpening treeTable pw w N).map (fun s => (s.heap, s.gens, s.drawn, s.toks)) = some (boot_heap w.params, Array.mk [], boot_drawn, boot_toks) := boot_open (by rfl) hN (fun _ => by rfl)
end Mine
end
section
open PySem PySem.W PyProof.Rows
set_option maxRecDepth 100000
set_option maxHeartbeats 8000000
namespace Mine
abbrev rw0 : OpenLaw := PySem.Challenge.rw_np0255_01
noncomputable def qv : Program := { pw with main := { pw.main with body := [dAt 112] } }
noncomputable def lo : List Str := [Str.ofString "_wall", Str.ofString "Row", Str.ofString "Var", Str.ofString "Var_core", Str.ofString "Lit", Str.ofString "App", Str.ofString "Lam", Str.ofString "Let", Str.ofString "Alt", Str.ofString "Case", Str.ofString "Con", Str.ofString "Con_core", Str.ofString "Prim", Str.ofString "scoped", Str.ofString "free_names", Str.ofString "row_of", Str.ofString "rows_of", Str.ofString "Node", Str.ofString "FunBind", Str.ofString "Clause", Str.ofString "Rhs", Str.ofString "Binds", Str.ofString "Var_nodes", Str.ofString "Con_nodes", Str.ofString "Do", Str.ofString "Generate", Str.ofString "Say", Str.ofString "LetSay", Str.ofString "PVar", Str.ofString "PWild", Str.ofString "PLit", Str.ofString "PCon", Str.ofString "PTuple", Str.ofString "PList", Str.ofString "PAs", Str.ofString "PLazy", Str.ofString "PBang", Str.ofString "NIL", Str.ofString "CONS", Str.ofString "UNIT", Str.ofString "tuple_name", Str.ofString "listed", Str.ofString "lettered", Str.ofString "spread", Str.ofString "parts_of", Str.ofString "variables_of", Str.ofString "renamed_pattern", Str.ofString "Constructors", Str.ofString "takes_all", Str.ofString "TRUE", Str.ofString "OTHERWISE", Str.ofString "choice", Str.ofString "is_always", Str.ofString "rhs_falls", Str.ofString "guarded", Str.ofString "rhs_code", Str.ofString "function_core", Str.ofString "taken", Str.ofString "pattern_pairs", Str.ofString "bind_pairs", Str.ofString "group_pairs", Str.ofString "is_round", Str.ofString "let_pairs", Str.ofString "bound", Str.ofString "text_core", Str.ofString "done_statements", Str.ofString "done_from", Str.ofString "drawn", Str.ofString "dictionary_con", Str.ofString "EvVar", Str.ofString "EvInstance", Str.ofString "field_of", Str.ofString "dictionary", Str.ofString "Maker", Str.ofString "base_of", Str.ofString "Fresh", Str.ofString "Need", Str.ofString "_law_pool", Str.ofString "_law_take", Str.ofString "_law_core", Str.ofString "_law_matched", Str.ofString "_law_with", Str.ofString "_law_value", Str.ofString "_law_list", Str.ofString "_law_called", Str.ofString "_law_all", Str.ofString "_law_chosen", Str.ofString "_law_told", Str.ofString "_law_statements", Str.ofString "_law_pattern", Str.ofString "_law_statement", Str.ofString "_law_taken", Str.ofString "_law_plain", Str.ofString "_law_binds"]
end Mine
end
noncomputable section
open PySem PySem.W PyProof.Rows
set_option maxRecDepth 100000
set_option maxHeartbeats 8000000
namespace Mine
noncomputable abbrev Xt0 : Shared → Bool := fun s => xlAt qv [] s && recOk (RowW.records rw0.row.toRowW) s
noncomputable abbrev sE (w : World) (os : OsState) : Shared := { heap := Hf w.params, gens := #[], drawn := ⟨0, 0, 0, 0⟩, toks := 2165, os := os }
theorem lf_a (w : World) : staticsOk (importedModules pw.main.body) (boot_heap w.params) (Hf w.params) = true := by kernel_rfl
theorem lf_b (w : World) : namesBound pw (Hf w.params) = true := by kernel_rfl
theorem lf_c (w : World) (os : OsState) : gensDone (sE w os) = true := by kernel_rfl
theorem lf_d (w : World) : laidKept (boot_heap w.params) (Hf w.params) = true := by kernel_rfl
theorem lf_e (w : World) (os : OsState) : openSeen qv lo (importedModules pw.main.body) Xt0 true (sE w os) = openGood qv lo := by kernel_rfl
theorem lf_f (w : World) (os : OsState) : mHook.obs (sE w os) = mHook.val w := by kernel_rfl
theorem and4 {a b c d : Bool} (ha : a = true) (hb : b = true) (hc : c = true) (hd : d = true) : (a && b && c && d) = true := by rw [ha, hb, hc, hd]; rfl
theorem left0 : LeftO pw qv lo Xt0 mHook.obs mHook.val 24000 := by
  refine LeftO.of_pieces (H₀ := boot_heap) (H₁ := Hf) (gs₀ := #[]) (gs₁ := #[]) (d₀ := boot_drawn) (d₁ := ⟨0, 0, 0, 0⟩) (k₀ := boot_toks) (k₁ := 2165) (m₀ := 11) (ann := ann0) (M := 12 + (1 + 12181)) (boot0 24000 (by decide)) ?s run_all (by decide) ?l
  case s => intro w; kernel_rfl
  case l =>
    intro w
    funext os
    exact Prod.ext (and4 (lf_a w) (lf_b w) (lf_c w os) (lf_d w)) (Prod.ext (lf_e w os) (lf_f w os))
noncomputable def fdPos (s : Stmt) : Pos := fdE s default fun _ _ _ p => p
noncomputable abbrev lawD : DefRec := ⟨Str.ofString "law", fdP (dAt 112), fdB (dAt 112), fdS (dAt 112), fdPos (dAt 112)⟩
set_option pp.explicit false in
theorem law_of (call : WalkO qv lo (XL qv []) mHook.says rw0.row.toRowW lawD [] fun f vs => PySem.call f vs) (said : rw0.row.wellSaid = true) : rw0.row.Holds := by
  refine holds_open (q := qv) (loose := lo) (Xt := Xt0) (XP := XL qv []) (Yf := mHook.obs) (Ya := mHook.val) (YP := mHook.says) (N := 24000) left0 mHook.of mHook.keeps (fun s e => xl_of s (Bool.and_eq_true_iff.mp e).1) XL.keeps (by kernel_rfl) (by kernel_rfl) (by kernel_rfl) (fun s e => recFacts_of (Bool.and_eq_true_iff.mp e).2) (by rfl) said (by decide +kernel) ⟨rfl, rfl, rfl, rfl, rfl, by decide +kernel⟩ ?hw call
  w_witness2
end Mine
end
section
open PySem PySem.W PyProof.Rows
set_option maxRecDepth 100000
set_option maxHeartbeats 8000000
set_option genSizeOf false
set_option genInjectivity false
set_option genCtorIdx false
namespace Mine
theorem nS {α : Type} {P : Prop} {x : α} (h : none = some x) : P := nomatch h
theorem nT {P : Prop} (h : false = true) : P := nomatch h
set_option genCtorIdx true in
inductive T where
  | none
  | bool (b : Bool)
  | int (i : Int)
  | sym (n : Nat)
  | glob (g : Nat)
  | bi (n : Nat)
  | tup (l : List T)
  | lst (l : List T)
  | dct (l : List (Nat × T))
  | inst (c : Nat) (l : List (Nat × T))
  | lam (k : Nat) (l : List (Nat × T))
  | own (i : Nat)
set_option genCtorIdx true in
inductive Cell where
  | lst (l : List T)
  | dct (l : List (Nat × T))
  | inst (c : Nat) (l : List (Nat × T))
abbrev Sg := List Cell
set_option genCtorIdx true in
inductive LV where
  | t (v : T)
  | l (xs : List T)
  | d (es : List (Nat × T))
  | i (c : Nat) (fs : List (Nat × T))
abbrev Rho := List (Nat × LV)
abbrev CP := T → List T → Sg → (T → Sg → Prop) → Prop
noncomputable def lk {α : Type} : List (Nat × α) → Nat → Option α
  | [], _ => none
  | (j, v) :: r, i => match Nat.beq j i with
    | true => some v
    | false => lk r i
noncomputable def pt {α : Type} : List (Nat × α) → Nat → α → List (Nat × α)
  | [], i, v => [(i, v)]
  | (j, u) :: r, i, v => match Nat.beq j i with
    | true => (j, v) :: r
    | false => (j, u) :: pt r i v
noncomputable def LV.frz : LV → LV
  | .t v => .t v
  | .l xs => .t (.lst xs)
  | .d es => .t (.dct es)
  | .i c fs => .t (.inst c fs)
noncomputable def frzR : Rho → Rho
  | [] => []
  | (i, v) :: r => (i, v.frz) :: frzR r
set_option genCtorIdx true in
inductive Op where
  | add | sub | mul | fdiv | mod | pow
set_option genCtorIdx true in
inductive Cm where
  | eq | ne | lt | gt | ge | inn | nin | is | isn
inductive X where
  | bad
  | loc (i : Nat)
  | cel (i : Nat)
  | con (t : T)
  | attr (e : X) (a : Nat)
  | idx (e i : X)
  | rev (e : X)
  | bin (op : Op) (a b : X)
  | cmp (op : Cm) (a b : X)
  | and (a b : X)
  | or (a b : X)
  | not (a : X)
  | ite (c a b : X)
  | tup (l : List X)
  | lst (l : List X)
  | dct (l : List (X × X))
  | call (f : X) (l : List X)
  | meth (e : X) (a : Nat) (l : List X)
  | cellL (l : List X)
  | cellD
  | comp (elt : X) (i : Nat) (it : X) (ifs : List X)
  | compT (elt : X) (is : List Nat) (it : X)
  | tail (e i : X)
  | popC (e : X)
  | sortC (e : X)
  | lam (k : Nat)
inductive R where
  | x (e : X)
  | newl
  | dcopy (e : X)
  | newi (c : Nat) (l : List X)
inductive S where
  | bad
  | ret (e : X)
  | ifS (c : X) (a b : List S)
  | asg (i : Nat) (r : R)
  | asgT (is : List Nat) (l : List X)
  | unpk (is : List Nat) (e : X)
  | setA (e : X) (a : Nat) (v : X)
  | setAL (i : Nat) (a : Nat) (v : X)
  | setS (e j v : X)
  | putD (i : Nat) (k v : X)
  | app (i : Nat) (e : X)
  | ext (i : Nat) (e : X)
  | upd (i : Nat) (e : X)
  | appC (e v : X)
  | forS (is : List Nat) (one : Bool) (e : X) (b : List S)
  | forR (i : Nat) (e : X) (b : List S)
  | forZ (is : List Nat) (x y : X) (b : List S)
  | whl (n : Nat) (c : X) (b : List S)
  | whlL (n : Nat) (e : X) (b : List S)
  | skipC (i : Nat) (e : X)
  | expr (e : X)
  | cont
set_option genCtorIdx true in
inductive Fl where
  | next | cont | ret (v : T)
inductive CS where
  | set (a : Nat) (e : X)
  | base (a : Nat) (e : X)
structure FnI where
  ps : List Nat
  cs : List Nat := []
  ds : List T := []
  body : List S
structure ClI where
  ps : List Nat
  ds : List T := []
  body : List CS
structure LamI where
  ps : List Nat
  fr : List Nat
  body : X
set_option genCtorIdx true in
inductive GI where
  | fn (f : FnI)
  | cls (c : ClI)
  | clsP (init : Nat)
  | bare
  | orc
structure Tab where
  sadd : List (Nat × List (Nat × Nat))
  srev : List (Nat × Nat)
  schars : List (Nat × List Nat)
  sstr : List (Nat × Nat)
  smul : List (Nat × List (Nat × Nat))
  srfind : List (Nat × List (Nat × Int))
  meth : List (Nat × List (Nat × Nat))
  attrs : List (Nat × List Nat)
  gs : List GI
  lams : List LamI
noncomputable def lk2 {α : Type} (l : List (Nat × List (Nat × α))) (a b : Nat) : Option α := match lk l a with
  | some r => lk r b
  | none => none
noncomputable def small (a : Int) : Prop := a.natAbs < 2 ^ 62
noncomputable def tInt (t : T) (K : Int → Prop) : Prop := match t with
  | .int i => K i
  | _ => False
@[elab_as_elim] theorem tInt_e {P : T → Prop} {t : T} {K : Int → Prop} (h : tInt t K) (f : ∀ (i : Int), K i → P (.int i)) : P t := by
  cases t with
  | int i => exact f i h
  | _ => exact h.elim
noncomputable def tSym (t : T) (K : Nat → Prop) : Prop := match t with
  | .sym n => K n
  | _ => False
@[elab_as_elim] theorem tSym_e {P : T → Prop} {t : T} {K : Nat → Prop} (h : tSym t K) (f : ∀ (n : Nat), K n → P (.sym n)) : P t := by
  cases t with
  | sym n => exact f n h
  | _ => exact h.elim
noncomputable def tLst (t : T) (K : (List T) → Prop) : Prop := match t with
  | .lst l => K l
  | _ => False
@[elab_as_elim] theorem tLst_e {P : T → Prop} {t : T} {K : (List T) → Prop} (h : tLst t K) (f : ∀ (l : List T), K l → P (.lst l)) : P t := by
  cases t with
  | lst l => exact f l h
  | _ => exact h.elim
noncomputable def tGlob (t : T) (K : Nat → Prop) : Prop := match t with
  | .glob g => K g
  | _ => False
@[elab_as_elim] theorem tGlob_e {P : T → Prop} {t : T} {K : Nat → Prop} (h : tGlob t K) (f : ∀ (g : Nat), K g → P (.glob g)) : P t := by
  cases t with
  | glob g => exact f g h
  | _ => exact h.elim
noncomputable def tNone (t : T) (K : Prop) : Prop := match t with
  | .none => K
  | _ => False
@[elab_as_elim] theorem tNone_e {P : T → Prop} {t : T} {K : Prop} (h : tNone t K) (f : K → P .none) : P t := by
  cases t with
  | none => exact f h
  | _ => exact h.elim
noncomputable def oP {α : Type} (o : Option α) (K : α → Prop) : Prop := match o with
  | some x => K x
  | Option.none => False
@[elab_as_elim] theorem own_m {P : T → Prop} {t : T} {K : Nat → Prop} (h : match t with
    | .own i => K i
    | _ => False) (f : ∀ i, K i → P (.own i)) : P t := by
  cases t with
  | own i => exact f i h
  | _ => exact h.elim
@[elab_as_elim] theorem lst_m {P : T → Prop} {t : T} {K : List T → Prop} (h : match t with
    | .lst i => K i
    | _ => False) (f : ∀ i, K i → P (.lst i)) : P t := by
  cases t with
  | lst i => exact f i h
  | _ => exact h.elim
theorem some_m {Q : Prop} {c : Option T} {K : T → Prop} (h : match c with
    | some v => K v
    | Option.none => False) (f : ∀ v, c = some v → K v → Q) : Q := by
  cases c with
  | none => exact h.elim
  | some v => exact f v rfl h
theorem lvt_m {Q : Prop} {c : Option LV} {K : T → Prop} (h : match c with
    | some (.t v) => K v
    | _ => False) (f : ∀ (v : T), c = some (.t v) → K v → Q) : Q := by
  cases c with
  | none => exact h.elim
  | some c => cases c with
    | t v => exact f v rfl h
    | _ => exact h.elim
theorem lvl_m {Q : Prop} {c : Option LV} {K : (List T) → Prop} (h : match c with
    | some (.l l) => K l
    | _ => False) (f : ∀ (l : List T), c = some (.l l) → K l → Q) : Q := by
  cases c with
  | none => exact h.elim
  | some c => cases c with
    | l l => exact f l rfl h
    | _ => exact h.elim
theorem lvd_m {Q : Prop} {c : Option LV} {K : (List (Nat × T)) → Prop} (h : match c with
    | some (.d l) => K l
    | _ => False) (f : ∀ (l : List (Nat × T)), c = some (.d l) → K l → Q) : Q := by
  cases c with
  | none => exact h.elim
  | some c => cases c with
    | d l => exact f l rfl h
    | _ => exact h.elim
theorem lvi_m {Q : Prop} {c : Option LV} {K : Nat → (List (Nat × T)) → Prop} (h : match c with
    | some (.i d l) => K d l
    | _ => False) (f : ∀ (d : Nat) (l : List (Nat × T)), c = some (.i d l) → K d l → Q) : Q := by
  cases c with
  | none => exact h.elim
  | some c => cases c with
    | i d l => exact f d l rfl h
    | _ => exact h.elim
@[elab_as_elim] theorem dct_m {P : T → Prop} {t : T} {K : List (Nat × T) → Prop} (h : match t with
    | .dct i => K i
    | _ => False) (f : ∀ i, K i → P (.dct i)) : P t := by
  cases t with
  | dct i => exact f i h
  | _ => exact h.elim
@[elab_as_elim] theorem sym_m {P : T → Prop} {t : T} {K : Nat → Prop} (h : match t with
    | .sym i => K i
    | _ => False) (f : ∀ i, K i → P (.sym i)) : P t := by
  cases t with
  | sym i => exact f i h
  | _ => exact h.elim
theorem cI_m {Q : Prop} {c : Option Cell} {K : Nat → List (Nat × T) → Prop} (h : match c with
    | some (.inst c l) => K c l
    | _ => False) (f : ∀ d l, c = some (.inst d l) → K d l → Q) : Q := by
  cases c with
  | none => exact h.elim
  | some c => cases c with
    | inst c l => exact f c l rfl h
    | _ => exact h.elim
theorem cL_m {Q : Prop} {c : Option Cell} {K : List T → Prop} (h : match c with
    | some (.lst l) => K l
    | _ => False) (f : ∀ l, c = some (.lst l) → K l → Q) : Q := by
  cases c with
  | none => exact h.elim
  | some c => cases c with
    | lst l => exact f l rfl h
    | _ => exact h.elim
theorem cD_m {Q : Prop} {c : Option Cell} {K : List (Nat × T) → Prop} (h : match c with
    | some (.dct l) => K l
    | _ => False) (f : ∀ l, c = some (.dct l) → K l → Q) : Q := by
  cases c with
  | none => exact h.elim
  | some c => cases c with
    | dct l => exact f l rfl h
    | _ => exact h.elim
theorem oP_e {α : Type} {Q : Prop} {o : Option α} {K : α → Prop} (h : oP o K) (f : ∀ x, o = some x → K x → Q) : Q := by
  cases o with
  | some x => exact f x rfl h
  | none => exact h.elim
noncomputable def cL (σ : Sg) (i : Nat) (K : List T → Prop) : Prop := match σ[i]? with
  | some (.lst l) => K l
  | _ => False
theorem cL_e {Q : Prop} {σ : Sg} {i : Nat} {K : List T → Prop} (h : cL σ i K) (f : ∀ l, σ[i]? = some (.lst l) → K l → Q) : Q := cL_m h f
noncomputable def cD (σ : Sg) (i : Nat) (K : List (Nat × T) → Prop) : Prop := match σ[i]? with
  | some (.dct l) => K l
  | _ => False
theorem cD_e {Q : Prop} {σ : Sg} {i : Nat} {K : List (Nat × T) → Prop} (h : cD σ i K) (f : ∀ l, σ[i]? = some (.dct l) → K l → Q) : Q := cD_m h f
noncomputable def cI (σ : Sg) (i : Nat) (K : Nat → List (Nat × T) → Prop) : Prop := match σ[i]? with
  | some (.inst c l) => K c l
  | _ => False
theorem cI_e {Q : Prop} {σ : Sg} {i : Nat} {K : Nat → List (Nat × T) → Prop} (h : cI σ i K) (f : ∀ c l, σ[i]? = some (.inst c l) → K c l → Q) : Q := cI_m h f
noncomputable def l1 (l : List T) (K : T → Prop) : Prop := match l with
  | [x] => K x
  | _ => False
@[elab_as_elim] theorem l1_e {P : List T → Prop} {l : List T} {K : T → Prop} (h : l1 l K) (f : ∀ x, K x → P [x]) : P l := by
  cases l with
  | nil => exact h.elim
  | cons x r => cases r with
    | nil => exact f x h
    | cons _ _ => exact h.elim
noncomputable def l2 (l : List T) (K : T → T → Prop) : Prop := match l with
  | x :: r => l1 r (K x)
  | [] => False
@[elab_as_elim] theorem l2_e {P : List T → Prop} {l : List T} {K : T → T → Prop} (h : l2 l K) (f : ∀ x y, K x y → P [x, y]) : P l := by
  cases l with
  | nil => exact h.elim
  | cons x r => exact l1_e (P := fun r => P (x :: r)) (l := r) h (fun y h => f x y h)
noncomputable def nP (i : Int) (K : Nat → Prop) : Prop := match i with
  | .ofNat k => K k
  | .negSucc _ => False
@[elab_as_elim] theorem nP_e {P : Int → Prop} {i : Int} {K : Nat → Prop} (h : nP i K) (f : ∀ k, K k → P (.ofNat k)) : P i := by
  cases i with
  | ofNat k => exact f k h
  | negSucc _ => exact h.elim
noncomputable def teq1 (a b : T) : Option Bool := match a with
  | .int a => (match b with
    | .int b => some (a == b)
    | .sym _ => some false
    | _ => Option.none)
  | .sym a => (match b with
    | .sym b => some (Nat.beq a b)
    | .int _ => some false
    | _ => Option.none)
  | .none => (match b with
    | .none => some true
    | _ => Option.none)
  | _ => Option.none
noncomputable def teqL : List T → List T → Option Bool
  | [], [] => some true
  | [], _ :: _ => Option.none
  | _ :: _, [] => Option.none
  | a :: r, b :: s => match teq1 a b with
    | some c => (match teqL r s with
      | some d => some (c && d)
      | Option.none => Option.none)
    | Option.none => Option.none
noncomputable def teq (a b : T) : Option Bool := match a with
  | .tup l => (match b with
    | .tup r => teqL l r
    | _ => Option.none)
  | .lst l => (match b with
    | .lst r => teqL l r
    | _ => Option.none)
  | a => teq1 a b
noncomputable def symsOf : List T → Option (List Nat)
  | [] => some []
  | .sym m :: r => (match symsOf r with
    | some l => some (m :: l)
    | Option.none => Option.none)
  | _ => Option.none
noncomputable def nIn (n : Nat) : List Nat → Bool
  | [] => false
  | m :: r => (match Nat.beq m n with
    | true => true
    | false => nIn n r)
noncomputable def isSm {α : Type} : Option α → Bool
  | some _ => true
  | Option.none => false
noncomputable def memP (a b : T) (σ : Sg) (K : Bool → Prop) : Prop := tSym a fun n => match b with
  | .dct es => K (isSm (lk es n))
  | .own i => cD σ i fun es => K (isSm (lk es n))
  | .tup l => oP (symsOf l) fun ns => K (nIn n ns)
  | _ => False
noncomputable def isNn : T → Bool
  | .none => true
  | _ => false
noncomputable def cmpP (op : Cm) (a b : T) (σ : Sg) (K : Bool → Prop) : Prop := match op with
  | .eq => oP (teq a b) K
  | .ne => oP (teq a b) fun c => K (!c)
  | .lt => tInt a fun x => tInt b fun y => K (decide (x < y))
  | .gt => tInt a fun x => tInt b fun y => K (decide (x > y))
  | .ge => tInt a fun x => tInt b fun y => K (decide (x ≥ y))
  | .inn => memP a b σ K
  | .nin => memP a b σ fun c => K (!c)
  | .is => tNone b (K (isNn a))
  | .isn => tNone b (K (!(isNn a)))
noncomputable def powP (x y : Int) (K : Int → Prop) : Prop := nP x fun x => nP y fun y => match Nat.beq x 10 && Nat.beq y 18 with
  | true => K 1000000000000000000
  | false => False
noncomputable def binP (tb : Tab) (op : Op) (a b : T) (K : T → Prop) : Prop := match op with
  | .add => (match a with
    | .int x => tInt b fun y => K (.int (x + y))
    | .sym x => tSym b fun y => oP (lk2 tb.sadd x y) fun z => K (.sym z)
    | _ => False)
  | .sub => tInt a fun x => tInt b fun y => K (.int (x - y))
  | .mul => (match a with
    | .int x => tInt b fun y => (small x ∨ small y) ∧ K (.int (x * y))
    | .sym x => tInt b fun y => nP y fun y => oP (lk2 tb.smul x y) fun z => K (.sym z)
    | _ => False)
  | .fdiv => tInt a fun x => tInt b fun y => (y ≠ 0 ∧ y.natAbs < 1073741824) ∧ K (.int (x.fdiv y))
  | .mod => tInt a fun x => tInt b fun y => y ≠ 0 ∧ K (.int (x.fmod y))
  | .pow => tInt a fun x => tInt b fun y => powP x y fun z => K (.int z)
noncomputable def isIn (l : List Nat) (i : Nat) : Bool := match l with
  | [] => false
  | j :: r => (match Nat.beq j i with
    | true => true
    | false => isIn r i)
noncomputable def okA (tb : Tab) (c a : Nat) : Bool := match lk tb.attrs c with
  | some l => isIn l a
  | Option.none => false
noncomputable def attrP (tb : Tab) (v : T) (a : Nat) (σ : Sg) (K : T → Prop) : Prop := match v with
  | .inst c fs => (match lk fs a with
    | some t => okA tb c a = true ∧ K t
    | Option.none => False)
  | .own i => (match σ[i]? with
    | some (.inst c fs) => (match lk fs a with
      | some t => okA tb c a = true ∧ K t
      | Option.none => False)
    | _ => False)
  | _ => False
noncomputable def atP (l : List T) (k : Int) (K : T → Prop) : Prop := nP k fun k => oP l[k]? fun t => k < 1000000 ∧ K t
noncomputable def idxP (v j : T) (σ : Sg) (K : T → Prop) : Prop := match v with
  | .tup l => tInt j fun k => atP l k K
  | .lst l => tInt j fun k => atP l k K
  | .dct es => tSym j fun s => oP (lk es s) K
  | .own i => tInt j fun k => cL σ i fun l => atP l k K
  | _ => False
noncomputable def isT (g : Nat) : Bool := Nat.ble 36 g && (Nat.ble g 71 && !(Nat.beq g 46))
noncomputable def clsIs (c : Nat) : List T → Option Bool
  | [] => some false
  | .glob g :: r => (match isT g, Nat.beq g c with
    | true, true => some true
    | true, false => clsIs c r
    | false, _ => Option.none)
  | _ => Option.none
noncomputable def is7 (v : T) (K : Prop) : Prop := match v with
  | .bi n => (match Nat.beq n 7 with
    | true => K
    | false => False)
  | _ => False
theorem is7_e {v : T} {K Q : Prop} (h : is7 v K) (f : v = .bi 7 → K → Q) : Q := by
  cases v with
  | bi n =>
    cases q : Nat.beq n 7 with
    | true => exact f (by rw [Nat.eq_of_beq_eq_true q]) (by have h : (match Nat.beq n 7 with | true => K | false => False) := h; rw [q] at h; exact h)
    | false => exact (by have h : (match Nat.beq n 7 with | true => K | false => False) := h; rw [q] at h; exact h.elim)
  | _ => exact h.elim
noncomputable def isiP (v c : T) (σ : Sg) (K : Bool → Prop) : Prop := match v with
  | .inst d _ => (match c with
    | .glob g => isT g = true ∧ K (Nat.beq g d)
    | .tup l => oP (clsIs d l) K
    | _ => False)
  | .own i => tGlob c fun g => cI σ i fun d _ => isT g = true ∧ K (Nat.beq g d)
  | .int _ => is7 c (K true)
  | .tup _ => is7 c (K false)
  | _ => False
noncomputable def intsOf : List T → Option (List Int)
  | [] => some []
  | .int a :: r => (match intsOf r with
    | some l => some (a :: l)
    | Option.none => Option.none)
  | _ => Option.none
noncomputable def boolsOf : List T → Option (List Bool)
  | [] => some []
  | .bool a :: r => (match boolsOf r with
    | some l => some (a :: l)
    | Option.none => Option.none)
  | _ => Option.none
noncomputable def lenP (v : T) (σ : Sg) (K : Nat → Prop) : Prop := match v with
  | .lst l => l.length < 1000000 ∧ K l.length
  | .tup l => l.length < 1000000 ∧ K l.length
  | .own i => cL σ i fun l => l.length < 1000000 ∧ K l.length
  | _ => False
noncomputable def biP (tb : Tab) (n : Nat) (args : List T) (σ : Sg) (K : T → Prop) : Prop := match n with
  | 0 => l2 args fun v c => isiP v c σ fun b => K (.bool b)
  | 1 => l1 args fun v => lenP v σ fun k => K (.int k)
  | 2 => l2 args fun a b => tInt a fun a => tInt b fun b => K (.int (if b < a then b else a))
  | 3 => l1 args fun v => tLst v fun l => l.length < 1000000 ∧ K (.lst l)
  | 4 => l1 args fun v => tLst v fun l => oP (intsOf l) fun ns => K (.int ns.sum)
  | 5 => l1 args fun v => tLst v fun l => oP (boolsOf l) fun bs => K (.bool (bs.all id))
  | 6 => l1 args fun v => tInt v fun i => nP i fun k => oP (lk tb.sstr k) fun s => K (.sym s)
  | 8 => l1 args fun v => tLst v fun l => oP (boolsOf l) fun bs => K (.bool (bs.any id))
  | _ => False
noncomputable def callT (tb : Tab) (cp : CP) (f : T) (args : List T) (σ : Sg) (K : T → Sg → Prop) : Prop := match f with
  | .bi n => biP tb n args σ fun t => K t σ
  | f => cp f args σ K
set_option genCtorIdx true in
inductive MC where
  | val (f : T)
  | bound (g : Nat) (v : T)
  | getD (i : Nat)
  | rfind (s : Nat)
noncomputable def methI (tb : Tab) (v : T) (c a : Nat) (fs : List (Nat × T)) (K : MC → Prop) : Prop := match lk fs a with
  | some f => okA tb c a = true ∧ K (.val f)
  | Option.none => oP (lk2 tb.meth c a) fun g => K (.bound g v)
noncomputable def methR (tb : Tab) (v : T) (a : Nat) (σ : Sg) (K : MC → Prop) : Prop := match v with
  | .inst c fs => methI tb v c a fs K
  | .own i => (match σ[i]? with
    | some (.inst c fs) => methI tb v c a fs K
    | some (.dct _) => a = 0 ∧ K (.getD i)
    | _ => False)
  | .glob c => oP (lk2 tb.meth c a) fun g => K (.val (.glob g))
  | .sym s => a = 1 ∧ K (.rfind s)
  | _ => False
noncomputable def methC (tb : Tab) (cp : CP) (mc : MC) (args : List T) (σ : Sg) (K : T → Sg → Prop) : Prop := match mc with
  | .val f => callT tb cp f args σ K
  | .bound g v => cp (.glob g) (v :: args) σ K
  | .getD i => cD σ i fun es => l2 args fun k d => tSym k fun s => (match lk es s with
    | some t => K t σ
    | Option.none => K d σ)
  | .rfind s => l1 args fun c => tSym c fun c => oP (lk2 tb.srfind s c) fun k => K (.int k) σ
noncomputable def itemsP (tb : Tab) (v : T) (K : List T → Prop) : Prop := match v with
  | .lst l => K l
  | .tup l => K l
  | .glob g => (match Nat.beq g 84 with
    | true => K []
    | false => False)
  | .sym s => oP (lk tb.schars s) fun cs => K (cs.map .sym)
  | _ => False
noncomputable def evs (f : X → Sg → (T → Sg → Prop) → Prop) : List X → Sg → (List T → Sg → Prop) → Prop
  | [], σ, K => K [] σ
  | x :: r, σ, K => f x σ fun v σ => evs f r σ fun vs σ => K (v :: vs) σ
noncomputable def evd (f : X → Sg → (T → Sg → Prop) → Prop) : List (X × X) → Sg → (List (Nat × T) → Sg → Prop) → Prop
  | [], σ, K => K [] σ
  | (x, y) :: r, σ, K => f x σ fun k σ => f y σ fun v σ => (match k, r with
    | .sym s, [] => K [(s, v)] σ
    | _, _ => False)
noncomputable def compL (elt : T → Sg → (T → Sg → Prop) → Prop) (tst : T → Sg → (Bool → Sg → Prop) → Prop) (inv : Sg → Prop) : List T → List T → Sg → (List T → Sg → Prop) → Prop
  | [], acc, σ, K => K acc σ
  | x :: r, acc, σ, K => acc.length < 1000000 ∧ tst x σ fun b σ => (match b with
    | true => elt x σ fun y σ => inv σ ∧ compL elt tst inv r (acc ++ [y]) σ K
    | false => inv σ ∧ compL elt tst inv r acc σ K)
noncomputable def pick {α : Type} (l : List (Nat × α)) : List Nat → Option (List (Nat × α))
  | [] => some []
  | i :: r => match lk l i, pick l r with
    | some v, some s => some ((i, v) :: s)
    | _, _ => Option.none
noncomputable def bindAll : List Nat → List T → Rho → Option Rho
  | [], [], ρ => some ρ
  | i :: r, t :: ts, ρ => bindAll r ts (pt ρ i (.t t))
  | _, _, _ => Option.none
noncomputable def ev (tb : Tab) (cp : CP) (κ : List (Nat × T)) : Nat → X → Rho → Sg → (T → Sg → Prop) → Prop
  | 0, _, _, _, _ => False
  | n + 1, x, ρ, σ, K => match x with
    | .bad => False
    | .loc i => (match lk ρ i with
      | some (.t v) => K v σ
      | _ => False)
    | .cel i => (match lk κ i with
      | some v => K v σ
      | Option.none => False)
    | .con t => K t σ
    | .attr e a => ev tb cp κ n e ρ σ fun v σ => attrP tb v a σ fun t => K t σ
    | .idx e i => ev tb cp κ n e ρ σ fun v σ => ev tb cp κ n i ρ σ fun j σ => idxP v j σ fun t => K t σ
    | .rev e => ev tb cp κ n e ρ σ fun v σ => (match v with
      | .lst l => l.length < 1000000 ∧ K (.lst l.reverse) σ
      | .sym s => (match lk tb.srev s with
        | some r => K (.sym r) σ
        | Option.none => False)
      | _ => False)
    | .bin op a b => ev tb cp κ n a ρ σ fun u σ => ev tb cp κ n b ρ σ fun v σ => binP tb op u v fun t => K t σ
    | .cmp op a b => ev tb cp κ n a ρ σ fun u σ => ev tb cp κ n b ρ σ fun v σ => cmpP op u v σ fun c => K (.bool c) σ
    | .and a b => ev tb cp κ n a ρ σ fun u σ => (match u with
      | .bool true => ev tb cp κ n b ρ σ K
      | .bool false => K (.bool false) σ
      | _ => False)
    | .or a b => ev tb cp κ n a ρ σ fun u σ => (match u with
      | .bool true => K (.bool true) σ
      | .bool false => ev tb cp κ n b ρ σ K
      | _ => False)
    | .not a => ev tb cp κ n a ρ σ fun u σ => (match u with
      | .bool b => K (.bool (!b)) σ
      | _ => False)
    | .ite c a b => ev tb cp κ n c ρ σ fun u σ => (match u with
      | .bool true => ev tb cp κ n a ρ σ K
      | .bool false => ev tb cp κ n b ρ σ K
      | _ => False)
    | .tup l => evs (fun x σ K => ev tb cp κ n x ρ σ K) l σ fun vs σ => K (.tup vs) σ
    | .lst l => evs (fun x σ K => ev tb cp κ n x ρ σ K) l σ fun vs σ => K (.lst vs) σ
    | .dct l => evd (fun x σ K => ev tb cp κ n x ρ σ K) l σ fun es σ => K (.dct es) σ
    | .call f l => ev tb cp κ n f ρ σ fun g σ => evs (fun x σ K => ev tb cp κ n x ρ σ K) l σ fun vs σ => callT tb cp g vs σ K
    | .meth e a l => ev tb cp κ n e ρ σ fun o σ => methR tb o a σ fun mc => evs (fun x σ K => ev tb cp κ n x ρ σ K) l σ fun vs σ => methC tb cp mc vs σ K
    | .cellL l => evs (fun x σ K => ev tb cp κ n x ρ σ K) l σ fun vs σ => K (.own σ.length) (σ ++ [.lst vs])
    | .cellD => K (.own σ.length) (σ ++ [.dct []])
    | .comp elt i it ifs => ev tb cp κ n it ρ σ fun v σ =>
        let go (inv : Sg → Prop) (l : List T) : Prop := compL (fun t σ K => ev tb cp κ n elt [(i, .t t)] σ K)
          (fun t σ K => (match ifs with
            | [] => K true σ
            | [c] => ev tb cp κ n c [(i, .t t)] σ fun u σ => (match u with
              | .bool b => K b σ
              | _ => False)
            | _ => False)) inv l [] σ fun vs σ => K (.lst vs) σ
        (match v with
        | .lst l => go (fun _ => True) l
        | .own j => (match σ[j]? with
          | some (.lst l) => go (fun σ => σ[j]? = some (.lst l)) l
          | _ => False)
        | _ => False)
    | .lam k => (match tb.lams[k]? with
      | some l => (match pick κ l.fr with
        | some c => K (.lam k c) σ
        | Option.none => False)
      | Option.none => False)
    | .compT elt is it => ev tb cp κ n it ρ σ fun v σ => (match v with
      | .lst l => compL (fun t σ K => (match t with
        | .tup ts => (match bindAll is ts [] with
          | some ρ => ev tb cp κ n elt ρ σ K
          | Option.none => False)
        | _ => False)) (fun _ σ K => K true σ) (fun _ => True) l [] σ fun vs σ => K (.lst vs) σ
      | _ => False)
    | .tail e i => ev tb cp κ n e ρ σ fun v σ => ev tb cp κ n i ρ σ fun j σ => (match v, j with
      | .lst l, .int (.ofNat k) => (l.length < 1000000 ∧ k < 1000000) ∧ K (.lst (l.drop k)) σ
      | _, _ => False)
    | .popC e => ev tb cp κ n e ρ σ fun v σ => (match v with
      | .own i => (match σ[i]? with
        | some (.lst l) => (match l.getLast? with
          | some x => l.length < 1000000 ∧ K x (σ.set i (.lst l.dropLast))
          | Option.none => False)
        | _ => False)
      | _ => False)
    | .sortC e => ev tb cp κ n e ρ σ fun v σ => (match v with
      | .own i => (match σ[i]? with
        | some (.dct []) => K (.lst []) σ
        | _ => False)
      | _ => False)
noncomputable def forL (f : T → Rho → Sg → (Fl → Rho → Sg → Prop) → Prop) : List T → Rho → Sg → (Fl → Rho → Sg → Prop) → Prop
  | [], ρ, σ, K => K .next ρ σ
  | x :: r, ρ, σ, K => f x ρ σ fun fl ρ σ => (match fl with
    | .next => forL f r ρ σ K
    | .cont => forL f r ρ σ K
    | .ret v => K (.ret v) ρ σ)
noncomputable def whL (c : Rho → Sg → (Bool → Sg → Prop) → Prop) (f : Rho → Sg → (Fl → Rho → Sg → Prop) → Prop) : Nat → Rho → Sg → (Fl → Rho → Sg → Prop) → Prop
  | 0, _, _, _ => False
  | m + 1, ρ, σ, K => c ρ σ fun b σ => (match b with
    | true => f ρ σ fun fl ρ σ => (match fl with
      | .next => whL c f m ρ σ K
      | .cont => whL c f m ρ σ K
      | .ret v => K (.ret v) ρ σ)
    | false => K .next ρ σ)
noncomputable def bindOne (is : List Nat) (one : Bool) (t : T) (ρ : Rho) : Option Rho := match one with
  | true => (match is with
    | [i] => some (pt ρ i (.t t))
    | _ => Option.none)
  | false => (match t with
    | .tup l => bindAll is l ρ
    | _ => Option.none)
theorem bindOne_f {is : List Nat} {t : T} {ρ ρ' : Rho} (h : bindOne is false t ρ = some ρ') : ∃ l, t = .tup l ∧ bindAll is l ρ = some ρ' := by
  cases t with
  | tup l => exact ⟨l, rfl, h⟩
  | _ => exact nS h
noncomputable def exs (f : S → Rho → Sg → (Fl → Rho → Sg → Prop) → Prop) : List S → Rho → Sg → (Fl → Rho → Sg → Prop) → Prop
  | [], ρ, σ, K => K .next ρ σ
  | s :: r, ρ, σ, K => f s ρ σ fun fl ρ σ => (match fl with
    | .next => exs f r ρ σ K
    | fl => K fl ρ σ)
noncomputable def zipT : List T → List T → List T
  | a :: r, b :: s => .tup [a, b] :: zipT r s
  | _, _ => []
noncomputable def ctorL (ec : X → Sg → (T → Sg → Prop) → Prop) : List CS → List (Nat × T) → Sg → (List (Nat × T) → Sg → Prop) → Prop
  | [], fs, σ, K => K fs σ
  | .set a e :: r, fs, σ, K => ec e σ fun v σ => ctorL ec r (pt fs a v) σ K
  | .base a e :: r, fs, σ, K => ec e σ fun v σ => ctorL ec r (pt fs a v) σ K
noncomputable def bindP (ps : List Nat) (ds args : List T) : Option (List (Nat × T)) :=
  match Nat.ble args.length ps.length, Nat.ble ps.length (args.length + ds.length) with
  | true, true => some (ps.zip (args ++ ds.drop (ds.length - (ps.length - args.length))))
  | _, _ => Option.none
noncomputable def lvs (l : List (Nat × T)) : Rho := l.map fun p => (p.1, .t p.2)
noncomputable def noCp : CP := fun _ _ _ _ => False
noncomputable def ctorP (tb : Tab) (c : ClI) (args : List T) (σ : Sg) (K : List (Nat × T) → Sg → Prop) : Prop :=
  match bindP c.ps c.ds args with
  | some ρ => ctorL (fun x σ K => ev tb noCp [] 8 x (lvs ρ) σ K) c.body [] σ K
  | Option.none => False
noncomputable def ex (tb : Tab) (cp : CP) (κ : List (Nat × T)) : Nat → S → Rho → Sg → (Fl → Rho → Sg → Prop) → Prop
  | 0, _, _, _, _ => False
  | n + 1, s, ρ, σ, K => match s with
    | .bad => False
    | .ret e => ev tb cp κ 40 e (frzR ρ) σ fun v σ => K (.ret v) ρ σ
    | .ifS c a b => ev tb cp κ 40 c ρ σ fun v σ => (match v with
      | .bool true => exs (fun s ρ σ K => ex tb cp κ n s ρ σ K) a ρ σ K
      | .bool false => exs (fun s ρ σ K => ex tb cp κ n s ρ σ K) b ρ σ K
      | _ => False)
    | .asg i r => (match r with
      | .x e => ev tb cp κ 40 e ρ σ fun v σ => K .next (pt ρ i (.t v)) σ
      | .newl => K .next (pt ρ i (.l [])) σ
      | .dcopy e => ev tb cp κ 40 e ρ σ fun v σ => (match v with
        | .dct es => es.length < 1000 ∧ K .next (pt ρ i (.d es)) σ
        | _ => False)
      | .newi c l => evs (fun x σ K => ev tb cp κ 40 x ρ σ K) l σ fun vs σ => (match tb.gs[c]? with
        | some (.cls ci) => ctorP tb ci vs σ fun fs σ => K .next (pt ρ i (.i c fs)) σ
        | _ => False))
    | .asgT is l => evs (fun x σ K => ev tb cp κ 40 x ρ σ K) l σ fun vs σ => (match bindAll is vs ρ with
      | some ρ => K .next ρ σ
      | Option.none => False)
    | .unpk is e => ev tb cp κ 40 e ρ σ fun v σ => (match v with
      | .tup l => (match bindAll is l ρ with
        | some ρ => K .next ρ σ
        | Option.none => False)
      | .lst l => (match bindAll is l ρ with
        | some ρ => K .next ρ σ
        | Option.none => False)
      | _ => False)
    | .setA e a v => ev tb cp κ 40 v ρ σ fun v σ => ev tb cp κ 40 e ρ σ fun o σ => (match o with
      | .own i => (match σ[i]? with
        | some (.inst c fs) => (okA tb c a = true ∧ fs.length < 900) ∧ K .next ρ (σ.set i (.inst c (pt fs a v)))
        | _ => False)
      | _ => False)
    | .setAL i a v => ev tb cp κ 40 v ρ σ fun v σ => (match lk ρ i with
      | some (.i c fs) => (okA tb c a = true ∧ fs.length < 900) ∧ K .next (pt ρ i (.i c (pt fs a v))) σ
      | _ => False)
    | .setS e j v => ev tb cp κ 40 v ρ σ fun v σ => ev tb cp κ 40 e ρ σ fun o σ => ev tb cp κ 40 j ρ σ fun j σ => (match o, j with
      | .own i, .int (.ofNat k) => (match σ[i]? with
        | some (.lst l) => (k < l.length ∧ k < 1000000) ∧ K .next ρ (σ.set i (.lst (l.set k v)))
        | _ => False)
      | .own i, .sym s => (match σ[i]? with
        | some (.dct es) => es.length < 1000 ∧ K .next ρ (σ.set i (.dct (pt es s v)))
        | _ => False)
      | _, _ => False)
    | .putD i k v => ev tb cp κ 40 v ρ σ fun v σ => (match lk ρ i with
      | some (.d es) => ev tb cp κ 40 k ρ σ fun k σ => (match k with
        | .sym s => es.length < 1000 ∧ K .next (pt ρ i (.d (pt es s v))) σ
        | _ => False)
      | _ => False)
    | .app i e => (match lk ρ i with
      | some (.l xs) => ev tb cp κ 40 e ρ σ fun v σ => xs.length < 1000000 ∧ K .next (pt ρ i (.l (xs ++ [v]))) σ
      | _ => False)
    | .ext i e => (match lk ρ i with
      | some (.l xs) => ev tb cp κ 40 e ρ σ fun v σ => (match v with
        | .lst l => xs.length + l.length < 1000000 ∧ K .next (pt ρ i (.l (xs ++ l))) σ
        | _ => False)
      | _ => False)
    | .upd i e => (match lk ρ i with
      | some (.d es) => ev tb cp κ 40 e ρ σ fun v σ => (match v with
        | .dct fs => es.length + fs.length < 1000 ∧ K .next (pt ρ i (.d (fs.foldl (fun es p => pt es p.1 p.2) es))) σ
        | _ => False)
      | _ => False)
    | .appC e v => ev tb cp κ 40 e ρ σ fun o σ => (match o with
      | .own i => (match σ[i]? with
        | some (.lst _) => ev tb cp κ 40 v ρ σ fun v σ => (match σ[i]? with
          | some (.lst l) => l.length < 1000000 ∧ K .next ρ (σ.set i (.lst (l ++ [v])))
          | _ => False)
        | _ => False)
      | _ => False)
    | .forS is one e b => ev tb cp κ 40 e ρ σ fun v σ => itemsP tb v fun l =>
        forL (fun t ρ σ K => match bindOne is one t ρ with
          | some ρ => exs (fun s ρ σ K => ex tb cp κ n s ρ σ K) b ρ σ K
          | Option.none => False) l ρ σ K
    | .forR i e b => ev tb cp κ 40 e ρ σ fun v σ => (match v with
      | .int (.ofNat m) => m < 1000000 ∧ forL (fun t ρ σ K => exs (fun s ρ σ K => ex tb cp κ n s ρ σ K) b (pt ρ i (.t t)) σ K) ((List.range m).map fun k => .int (.ofNat k)) ρ σ K
      | _ => False)
    | .forZ is x y b => ev tb cp κ 40 x ρ σ fun u σ => ev tb cp κ 40 y ρ σ fun v σ => (match u, v with
      | .lst l, .lst r => forL (fun t ρ σ K => match bindOne is false t ρ with
          | some ρ => exs (fun s ρ σ K => ex tb cp κ n s ρ σ K) b ρ σ K
          | Option.none => False) (zipT l r) ρ σ K
      | _, _ => False)
    | .whl m c b => whL (fun ρ σ K => ev tb cp κ 40 c ρ σ fun u σ => (match u with
        | .bool b => K b σ
        | _ => False)) (fun ρ σ K => exs (fun s ρ σ K => ex tb cp κ n s ρ σ K) b ρ σ K) m ρ σ K
    | .expr e => ev tb cp κ 40 e ρ σ fun v σ => (match v with
      | .none => K .next ρ σ
      | _ => False)
    | .cont => K .cont ρ σ
    | .whlL m e b => whL (fun ρ σ K => ev tb cp κ 40 e ρ σ fun u σ => (match u with
        | .own i => (match σ[i]? with
          | some (.lst l) => l.length < 1000000 ∧ K (!l.isEmpty) σ
          | _ => False)
        | _ => False)) (fun ρ σ K => exs (fun s ρ σ K => ex tb cp κ n s ρ σ K) b ρ σ K) m ρ σ K
    | .skipC i e => lk κ i = Option.none ∧ ev tb cp κ 40 e ρ σ fun _ σ => K .next ρ σ
noncomputable def runF (tb : Tab) (cp : CP) (f : FnI) (args : List T) (σ : Sg) (K : T → Sg → Prop) : Prop :=
  match bindP f.ps f.ds args with
  | some bs => exs (fun s ρ σ K => ex tb cp (bs.filter fun p => isIn f.cs p.1) 20 s ρ σ K) f.body (lvs (bs.filter fun p => !(isIn f.cs p.1))) σ fun fl _ σ => (match fl with
    | .ret t => K t σ
    | .next => K .none σ
    | .cont => False)
  | Option.none => False
noncomputable def callP (tb : Tab) (orc : Nat → CP) : Nat → CP
  | 0, _, _, _, _ => False
  | d + 1, f, args, σ, K => match f with
    | .glob g => (match tb.gs[g]? with
      | some (.fn f) => runF tb (callP tb orc d) f args σ K
      | some (.cls c) => ctorP tb c args σ fun fs σ => K (.inst g fs) σ
      | some (.clsP i) => callP tb orc d (.glob i) (.own σ.length :: args) (σ ++ [.inst g []]) fun r σ' => (match r with
        | .none => K (.own σ.length) σ'
        | _ => False)
      | some .orc => orc g f args σ K
      | _ => False)
    | .lam k cl => (match tb.lams[k]? with
      | some l => (match bindP l.ps [] args with
        | some bs => ev tb (callP tb orc d) cl 40 l.body (lvs bs) σ K
        | Option.none => False)
      | Option.none => False)
    | _ => False
end Mine
end
section
open PySem PySem.W PyProof.Rows
set_option maxRecDepth 100000
set_option maxHeartbeats 8000000
namespace Mine
noncomputable def wordsL : List String := ["get", "rfind", "many", "()", "(", ",", ")", "pattern", "items", "kind", "text", "value", "known", "told", "name", "siblings", "part", "args", "condition", "Prelude.otherwise", "Prelude.True", "maker", "rhs", "fall", "found", "expr", "guarded", "core", "expression", "fresh", "where", "bind", "given", "clauses", "patterns", "body", "fail", "names", "arg", "next", "turn", "rows", "clause", "match", "group", "pairs", "pair", "binds", "groups", "[]", "sign", ":", "char", "node", "uses", "evidence", "monad", "way", "statements", "named", "at", "statement", "Prelude.>>=", "Prelude.>>", "item", "row", "types", "cons", "Prelude.fail", "no pattern takes it", "classes", "one", "size", "class_name", "info", "inner", "index", "script", "big", "mixed", "k", "source", "top", "digit", "number", "int", "sum", "intAdd", "(,)", "w", "lit", "first", "second", "q", "con", "more", "env", "fun", "params", "place", "is_rec", "d", "alt", "alts", "key", "field", "other", "is_pair", "step", "x", "let", "say", "draw", "var", "any", "solution", "M.?", "later", ".", "can_fail", "op", "sigs", "matcher", "unmatched", "desugar", "self", "base", "inside", "use", "avoided", "numbers", "__init__", "avoid", "pred", "tasks", "bound", "scope", "parts", "ti sekat nrettap on", "t", "i", " ", "s", "e", "a", "n", "r", "p", "o", "x0", "item.1", "x1", "item.2", "x2", "item.3", "x3", "item.4", "0", "1", "2", "3", "4", "5", "6", "7", "8", "9", "item.", "(,"]
noncomputable def nsz : Nat := 169
noncomputable def g_tuple_name : GI := .fn { ps := [2], cs := [], ds := [], body := [.ret (.ite (.cmp .eq (.loc 2) (.con (.int 0))) (.con (.sym 3)) (.bin .add (.bin .add (.con (.sym 4)) (.bin .mul (.con (.sym 5)) (.bin .sub (.loc 2) (.con (.int 1))))) (.con (.sym 6))))] }
noncomputable def g_spread : GI := .fn { ps := [7], cs := [], ds := [], body := [.ifS (.call (.con (.bi 0)) [(.loc 7), (.con (.glob 58))]) [.ret (.call (.con (.glob 57)) [(.call (.con (.glob 0)) [(.call (.con (.bi 1)) [(.attr (.loc 7) 8)])]), (.attr (.loc 7) 8), (.con .none)])] [],
    .ifS (.call (.con (.bi 0)) [(.loc 7), (.con (.glob 65))]) [.bad] [],
    .ifS (.and (.call (.con (.bi 0)) [(.loc 7), (.con (.glob 56))]) (.cmp .eq (.attr (.loc 7) 9) (.con (.sym 10)))) [.bad] [],
    .ret (.loc 7)] }
noncomputable def g_takes_all : GI := .fn { ps := [7, 12], cs := [12], ds := [], body := [.ifS (.call (.con (.bi 0)) [(.loc 7), (.tup [(.con (.glob 54)), (.con (.glob 55)), (.con (.glob 67))])]) [.ret (.con (.bool true))] [],
    .ifS (.call (.con (.bi 0)) [(.loc 7), (.tup [(.con (.glob 66)), (.con (.glob 68))])]) [.ret (.call (.con (.glob 2)) [(.attr (.loc 7) 7), (.cel 12)])] [],
    .asg 13 (.x (.call (.con (.glob 1)) [(.loc 7)])),
    .ifS (.or (.not (.call (.con (.bi 0)) [(.loc 13), (.con (.glob 57))])) (.cmp .ne (.call (.con (.bi 1)) [(.meth (.cel 12) 15 [(.attr (.loc 13) 14)])]) (.con (.int 1)))) [.ret (.con (.bool false))] [],
    .ret (.call (.con (.bi 5)) [(.comp (.call (.con (.glob 2)) [(.loc 16), (.cel 12)]) 16 (.attr (.loc 13) 17) [])])] }
noncomputable def g_is_always : GI := .fn { ps := [18], cs := [], ds := [], body := [.ifS (.cmp .is (.loc 18) (.con .none)) [.ret (.con (.bool true))] [],
    .ifS (.call (.con (.bi 0)) [(.loc 18), (.con (.glob 69))]) [.ret (.cmp .eq (.attr (.loc 18) 14) (.con (.sym 19)))] [],
    .ret (.and (.call (.con (.bi 0)) [(.loc 18), (.con (.glob 70))]) (.cmp .eq (.attr (.loc 18) 14) (.con (.sym 20))))] }
noncomputable def g_guarded : GI := .fn { ps := [21, 22, 23], cs := [], ds := [], body := [.asg 24 (.x (.loc 23)),
    .forS [18, 25] false (.rev (.attr (.loc 22) 26)) [.asg 27 (.x (.meth (.loc 21) 28 [(.loc 25)])),
    .asg 24 (.x (.ite (.call (.con (.glob 3)) [(.loc 18)]) (.loc 27) .bad))],
    .ret (.loc 24)] }
noncomputable def g_rhs_code : GI := .fn { ps := [21, 22], cs := [21, 22], ds := [], body := [.ret (.lam 0)] }
noncomputable def g_function_core : GI := .fn { ps := [21, 31, 32], cs := [21], ds := [], body := [.asg 2 (.x (.call (.con (.bi 1)) [(.attr (.idx (.attr (.loc 31) 33) (.con (.int 0))) 34)])),
    .ifS (.cmp .eq (.loc 2) (.con (.int 0))) [.asg 35 (.x (.call (.call (.con (.glob 5)) [(.cel 21), (.attr (.idx (.attr (.loc 31) 33) (.con (.int 0))) 22)]) [(.meth (.cel 21) 36 [])])),
    .ret (.ite (.cmp .eq (.loc 32) (.lst [])) (.loc 35) (.call (.con (.glob 40)) [(.loc 32), (.loc 35)]))] [],
    .bad,
    .asg 41 .newl,
    .forS [42] true (.attr (.loc 31) 33) [.bad],
    .ret (.call (.con (.glob 40)) [(.bin .add (.loc 32) (.loc 37)), (.meth (.cel 21) 43 [(.loc 37), (.loc 41), (.meth (.cel 21) 36 [])])])] }
noncomputable def g_bind_pairs : GI := .fn { ps := [21, 31], cs := [], ds := [], body := [.ifS (.call (.con (.bi 0)) [(.loc 31), (.con (.glob 47))]) [.ret (.lst [(.tup [(.attr (.loc 31) 14), (.call (.con (.glob 6)) [(.loc 21), (.loc 31), (.call (.con (.bi 3)) [(.attr (.loc 31) 32)])])])])] [],
    .bad] }
noncomputable def g_group_pairs : GI := .fn { ps := [21, 44], cs := [], ds := [], body := [.asg 24 .newl,
    .forS [31] true (.loc 44) [.ext 24 (.call (.con (.glob 7)) [(.loc 21), (.loc 31)])],
    .ret (.loc 24)] }
noncomputable def g_let_pairs : GI := .fn { ps := [45, 35], cs := [], ds := [], body := [.ifS (.call (.con (.glob 34)) [(.loc 45)]) [.ret (.call (.con (.glob 41)) [(.loc 45), (.loc 35), (.con (.bool true))])] [],
    .forS [46] true (.rev (.loc 45)) [.asg 35 (.x (.call (.con (.glob 41)) [(.lst [(.loc 46)]), (.loc 35), (.con (.bool false))]))],
    .ret (.loc 35)] }
noncomputable def g_bound : GI := .fn { ps := [21, 47, 35], cs := [], ds := [], body := [.forS [44] true (.rev (.attr (.loc 47) 48)) [.asg 35 (.x (.call (.con (.glob 9)) [(.call (.con (.glob 8)) [(.loc 21), (.loc 44)]), (.loc 35)]))],
    .ret (.loc 35)] }
noncomputable def g_text_core : GI := .fn { ps := [10], cs := [], ds := [], body := [.asg 24 (.x (.call (.con (.glob 44)) [(.con (.sym 49)), (.lst [])])),
    .forS [50] true (.rev (.loc 10)) [.asg 24 (.x (.call (.con (.glob 44)) [(.con (.sym 51)), (.lst [(.call (.con (.glob 38)) [(.con (.sym 52)), (.loc 50)]), (.loc 24)])]))],
    .ret (.loc 24)] }
noncomputable def g_done_statements : GI := .fn { ps := [21, 53], cs := [21, 53], ds := [], body := [.ret (.meth (.cel 21) 59 [(.meth (.cel 21) 55 [(.idx (.attr (.cel 53) 54) (.con (.int 0)))]), (.con (.sym 56)), (.lam 1)])] }
noncomputable def g_done_from : GI := .fn { ps := [21, 57, 58, 60], cs := [], ds := [], body := [.asg 61 (.x (.idx (.loc 58) (.loc 60))),
    .ifS (.call (.con (.bi 0)) [(.loc 61), (.con (.glob 53))]) [.ret (.call (.con (.glob 10)) [(.loc 21), (.attr (.loc 61) 47), (.call (.con (.glob 13)) [(.loc 21), (.loc 57), (.loc 58), (.bin .add (.loc 60) (.con (.int 1)))])])] [],
    .asg 11 (.x (.meth (.loc 21) 28 [(.attr (.loc 61) 25)])),
    .ifS (.cmp .eq (.loc 60) (.bin .sub (.call (.con (.bi 1)) [(.loc 58)]) (.con (.int 1)))) [.ret (.loc 11)] [],
    .ifS (.call (.con (.bi 0)) [(.loc 61), (.con (.glob 51))]) [.ret (.call (.con (.glob 39)) [(.call (.con (.glob 37)) [(.con (.sym 62))]), (.lst [(.call (.con (.glob 37)) [(.loc 57)]), (.loc 11), (.call (.con (.glob 14)) [(.loc 21), (.loc 57), (.attr (.loc 61) 7), (.loc 58), (.loc 60)])])])] [],
    .ret (.call (.con (.glob 39)) [(.call (.con (.glob 37)) [(.con (.sym 63))]), (.lst [(.call (.con (.glob 37)) [(.loc 57)]), (.loc 11), (.call (.con (.glob 13)) [(.loc 21), (.loc 57), (.loc 58), (.bin .add (.loc 60) (.con (.int 1)))])])])] }
noncomputable def g_drawn : GI := .fn { ps := [21, 57, 7, 58, 60], cs := [21, 57, 58, 60], ds := [], body := [.asg 64 (.x (.meth (.attr (.cel 21) 29) 39 [(.con (.sym 64))])),
    .asg 65 (.x (.call (.con (.glob 36)) [(.lst [(.loc 7)]), (.lam 2), (.con (.bool false))])),
    .asg 36 (.x (.meth (.cel 21) 36 [])),
    .ifS (.not (.call (.con (.glob 2)) [(.loc 7), (.call (.con (.glob 59)) [(.attr (.attr (.cel 21) 66) 67)])])) [.asg 36 (.x (.call (.con (.glob 39)) [(.call (.con (.glob 37)) [(.con (.sym 68))]), (.lst [(.call (.con (.glob 37)) [(.cel 57)]), (.call (.con (.glob 11)) [(.con (.sym 69))])])]))] [],
    .ret (.call (.con (.glob 40)) [(.lst [(.loc 64)]), (.meth (.cel 21) 43 [(.lst [(.loc 64)]), (.lst [(.loc 65)]), (.loc 36)])])] }
noncomputable def g_dictionary : GI := .fn { ps := [55, 70, 29], cs := [70, 29], ds := [], body := [.ifS (.call (.con (.bi 0)) [(.loc 55), (.con (.glob 60))]) [.ret (.call (.con (.glob 37)) [(.attr (.loc 55) 14)])] [],
    .ifS (.call (.con (.bi 0)) [(.loc 55), (.con (.glob 71))]) [.asg 17 (.x (.comp (.call (.con (.glob 15)) [(.loc 71), (.cel 70), (.cel 29)]) 71 (.attr (.loc 55) 17) [])),
    .ret (.ite (.cmp .eq (.loc 17) (.lst [])) (.call (.con (.glob 37)) [(.attr (.loc 55) 14)]) (.call (.con (.glob 39)) [(.call (.con (.glob 37)) [(.attr (.loc 55) 14)]), (.loc 17)]))] [],
    .asg 72 (.x (.meth (.meth (.cel 70) 74 [(.attr (.loc 55) 73)]) 72 [])),
    .asg 75 (.x (.call (.con (.glob 15)) [(.attr (.loc 55) 55), (.cel 70), (.cel 29)])),
    .bad] }
noncomputable def g_law_pool : GI := .fn { ps := [77], cs := [], ds := [], body := [.asg 78 (.x (.ite (.cmp .gt (.call (.con (.bi 1)) [(.loc 77)]) (.con (.int 0))) (.idx (.loc 77) (.con (.int 0))) (.con (.int 0)))),
    .ifS (.cmp .lt (.loc 78) (.con (.int 0))) [.asg 78 (.x (.bin .sub (.con (.int 0)) (.loc 78)))] [],
    .asg 79 (.x (.bin .add (.bin .mod (.loc 78) (.con (.int 2147483629))) (.con (.int 17)))),
    .forR 80 (.call (.con (.bi 2)) [(.call (.con (.bi 1)) [(.loc 77)]), (.con (.int 20))]) [.asg 79 (.x (.bin .mod (.bin .add (.bin .add (.bin .mul (.loc 79) (.con (.int 48271))) (.bin .mod (.idx (.loc 77) (.loc 80)) (.con (.int 2147483647)))) (.bin .mul (.con (.int 31)) (.loc 80))) (.con (.int 2147483647))))],
    .ret (.cellL [(.ite (.cmp .ge (.loc 78) (.bin .pow (.con (.int 10)) (.con (.int 18)))) (.loc 78) (.con (.int 0))), (.loc 79)])] }
noncomputable def g_law_take : GI := .fn { ps := [81, 82], cs := [], ds := [], body := [.ifS (.cmp .gt (.idx (.loc 81) (.con (.int 0))) (.con (.int 0))) [.asg 83 (.x (.bin .mod (.idx (.loc 81) (.con (.int 0))) (.loc 82))),
    .setS (.loc 81) (.con (.int 0)) (.bin .fdiv (.idx (.loc 81) (.con (.int 0))) (.loc 82)),
    .ret (.loc 83)] [],
    .setS (.loc 81) (.con (.int 1)) (.bin .mod (.bin .add (.bin .mul (.idx (.loc 81) (.con (.int 1))) (.con (.int 39373))) (.con (.int 7))) (.con (.int 2147483647))),
    .ret (.bin .mod (.bin .fdiv (.bin .mod (.bin .mul (.idx (.loc 81) (.con (.int 1))) (.idx (.loc 81) (.con (.int 1)))) (.con (.int 2147483629))) (.con (.int 32))) (.loc 82))] }
noncomputable def g_law_core : GI := .fn { ps := [21, 13], cs := [], ds := [], body := [.ifS (.cmp .eq (.idx (.loc 13) (.con (.int 0))) (.con (.sym 84))) [.ret (.call (.con (.glob 38)) [(.con (.sym 85)), (.idx (.loc 13) (.con (.int 1)))])] [],
    .ifS (.cmp .eq (.idx (.loc 13) (.con (.int 0))) (.con (.sym 86))) [.asg 24 (.x (.call (.con (.glob 38)) [(.con (.sym 85)), (.idx (.loc 13) (.con (.int 2)))])),
    .forS [14] true (.idx (.loc 13) (.con (.int 1))) [.asg 24 (.x (.call (.con (.glob 45)) [(.con (.sym 87)), (.lst [(.call (.con (.glob 37)) [(.loc 14)]), (.loc 24)])]))],
    .ret (.call (.con (.glob 44)) [(.con (.sym 51)), (.lst [(.loc 24), (.call (.con (.glob 44)) [(.con (.sym 49)), (.lst [])])])])] [],
    .asg 24 (.x (.call (.con (.glob 44)) [(.con (.sym 49)), (.lst [])])),
    .forS [64] true (.rev (.idx (.loc 13) (.con (.int 1)))) [.asg 27 (.x (.ite (.call (.con (.bi 0)) [(.loc 64), (.con (.bi 7))]) (.call (.con (.glob 38)) [(.con (.sym 85)), (.loc 64)]) (.call (.con (.glob 44)) [(.con (.sym 88)), (.lst [(.call (.con (.glob 38)) [(.con (.sym 85)), (.idx (.loc 64) (.con (.int 0)))]), (.call (.con (.glob 38)) [(.con (.sym 85)), (.idx (.loc 64) (.con (.int 1)))])])]))),
    .asg 24 (.x (.call (.con (.glob 44)) [(.con (.sym 51)), (.lst [(.loc 27), (.loc 24)])]))],
    .ret (.loc 24)] }
noncomputable def g_law_matched : GI := .fn { ps := [37, 41, 36, 67, 29], cs := [], ds := [], body := [.asgT [7, 35] [(.idx (.attr (.idx (.loc 41) (.con (.int 0))) 34) (.con (.int 0))), (.meth (.idx (.loc 41) (.con (.int 0))) 35 [(.loc 36)])],
    .ifS (.call (.con (.bi 0)) [(.loc 7), (.con (.glob 54))]) [.ret (.call (.con (.glob 41)) [(.lst [(.tup [(.attr (.loc 7) 14), (.call (.con (.glob 37)) [(.idx (.loc 37) (.con (.int 0)))])])]), (.loc 35), (.con (.bool false))])] [],
    .ifS (.call (.con (.bi 0)) [(.loc 7), (.con (.glob 56))]) [.ret (.call (.con (.glob 43)) [(.call (.con (.glob 37)) [(.idx (.loc 37) (.con (.int 0)))]), (.con (.sym 89)), (.lst [(.call (.con (.glob 42)) [(.tup [(.con (.sym 90)), (.con (.sym 85)), (.attr (.loc 7) 11)]), (.lst []), (.loc 35)])]), (.loc 36)])] [],
    .ifS (.not (.call (.con (.bi 0)) [(.loc 7), (.con (.glob 58))])) [.ret (.loc 35)] [],
    .unpk [91, 92] (.attr (.loc 7) 8),
    .ifS (.call (.con (.bi 0)) [(.loc 92), (.con (.glob 56))]) [.asg 35 (.x (.call (.con (.glob 43)) [(.call (.con (.glob 37)) [(.con (.sym 93))]), (.con (.sym 89)), (.lst [(.call (.con (.glob 42)) [(.tup [(.con (.sym 90)), (.con (.sym 85)), (.attr (.loc 92) 11)]), (.lst []), (.loc 35)])]), (.loc 36)]))] [],
    .ret (.call (.con (.glob 43)) [(.call (.con (.glob 37)) [(.idx (.loc 37) (.con (.int 0)))]), (.con (.sym 89)), (.lst [(.call (.con (.glob 42)) [(.tup [(.con (.sym 94)), (.con (.sym 88))]), (.lst [(.attr (.loc 91) 14), (.con (.sym 93))]), (.loc 35)])]), (.loc 36)])] }
noncomputable def g_law_with : GI := .fn { ps := [12, 95], cs := [], ds := [], body := [.asg 24 (.dcopy (.loc 12)),
    .upd 24 (.loc 95),
    .ret (.loc 24)] }
noncomputable def g_law_value : GI := .fn { ps := [27, 96], cs := [96], ds := [], body := [.ifS (.call (.con (.bi 0)) [(.loc 27), (.con (.glob 38))]) [.ret (.attr (.loc 27) 11)] [],
    .ifS (.call (.con (.bi 0)) [(.loc 27), (.con (.glob 37))]) [.ifS (.cmp .nin (.attr (.loc 27) 14) (.cel 96)) [.ret (.tup [(.con (.sym 57)), (.attr (.loc 27) 14)])] [],
    .ret (.call (.con (.glob 21)) [(.idx (.idx (.cel 96) (.attr (.loc 27) 14)) (.con (.int 0))), (.idx (.idx (.cel 96) (.attr (.loc 27) 14)) (.con (.int 1)))])] [],
    .ifS (.call (.con (.bi 0)) [(.loc 27), (.con (.glob 44))]) [.ret (.tup [(.con (.sym 94)), (.attr (.loc 27) 14), (.comp (.tup [(.loc 38), (.cel 96)]) 38 (.attr (.loc 27) 17) [])])] [],
    .ifS (.call (.con (.bi 0)) [(.loc 27), (.con (.glob 40))]) [.ret (.tup [(.con (.sym 97)), (.attr (.loc 27) 98), (.attr (.loc 27) 35), (.cel 96)])] [],
    .ifS (.call (.con (.bi 0)) [(.loc 27), (.con (.glob 41))]) [.asg 99 (.dcopy (.cel 96)),
    .forS [14, 25] false (.attr (.loc 27) 47) [.putD 99 (.loc 14) (.tup [(.loc 25), (.ite (.attr (.loc 27) 100) (.loc 99) (.cel 96))])],
    .ret (.call (.con (.glob 21)) [(.attr (.loc 27) 35), (.loc 99)])] [],
    .ifS (.call (.con (.bi 0)) [(.loc 27), (.con (.glob 45))]) [.ret (.bin .add (.call (.con (.glob 21)) [(.idx (.attr (.loc 27) 17) (.con (.int 0))), (.cel 96)]) (.call (.con (.glob 21)) [(.idx (.attr (.loc 27) 17) (.con (.int 1))), (.cel 96)]))] [],
    .ifS (.call (.con (.bi 0)) [(.loc 27), (.con (.glob 39))]) [.ret (.call (.con (.glob 23)) [(.loc 27), (.cel 96)])] [],
    .ret (.call (.con (.glob 25)) [(.loc 27), (.cel 96)])] }
noncomputable def g_law_list : GI := .fn { ps := [11], cs := [], ds := [], body := [.asg 24 .newl,
    .whl 40 (.cmp .eq (.idx (.loc 11) (.con (.int 1))) (.con (.sym 51))) [.app 24 (.idx (.idx (.loc 11) (.con (.int 2))) (.con (.int 0))),
    .asg 11 (.x (.call (.con (.glob 21)) [(.idx (.idx (.idx (.loc 11) (.con (.int 2))) (.con (.int 1))) (.con (.int 0))), (.idx (.idx (.idx (.loc 11) (.con (.int 2))) (.con (.int 1))) (.con (.int 1)))]))],
    .ret (.loc 24)] }
noncomputable def g_law_called : GI := .fn { ps := [27, 96], cs := [], ds := [], body := [.asgT [14, 17] [(.attr (.attr (.loc 27) 97) 14), (.attr (.loc 27) 17)],
    .ifS (.cmp .ne (.call (.con (.glob 21)) [(.idx (.loc 17) (.con (.int 0))), (.loc 96)]) (.tup [(.con (.sym 57)), (.con (.sym 101))])) [.ret (.tup [(.con (.sym 8)), (.lst [(.tup [(.call (.con (.glob 38)) [(.con (.sym 85)), (.con (.int 99))]), (.dct [])])])])] [],
    .ifS (.cmp .eq (.loc 14) (.con (.sym 68))) [.ret (.tup [(.con (.sym 8)), (.lst [])])] [],
    .asg 24 .newl,
    .forS [64] true (.call (.con (.glob 24)) [(.call (.con (.glob 21)) [(.idx (.loc 17) (.con (.int 1))), (.loc 96)])]) [.ifS (.cmp .eq (.loc 14) (.con (.sym 63))) [.ext 24 (.call (.con (.glob 24)) [(.call (.con (.glob 21)) [(.idx (.loc 17) (.con (.int 2))), (.loc 96)])])] [.unpk [9, 98, 35, 99] (.call (.con (.glob 21)) [(.idx (.loc 17) (.con (.int 2))), (.loc 96)]),
    .ext 24 (.call (.con (.glob 24)) [(.call (.con (.glob 21)) [(.loc 35), (.call (.con (.glob 20)) [(.loc 99), (.dct [((.idx (.loc 98) (.con (.int 0))), (.loc 64))])])])])]],
    .ret (.tup [(.con (.sym 8)), (.loc 24)])] }
noncomputable def g_law_all : GI := .fn { ps := [11], cs := [], ds := [], body := [.ret (.ite (.cmp .eq (.idx (.loc 11) (.con (.int 0))) (.con (.sym 8))) (.idx (.loc 11) (.con (.int 1))) (.call (.con (.glob 22)) [(.loc 11)]))] }
noncomputable def g_law_chosen : GI := .fn { ps := [27, 96], cs := [], ds := [], body := [.asg 11 (.x (.call (.con (.glob 21)) [(.attr (.loc 27) 11), (.loc 96)])),
    .asg 99 (.dcopy (.loc 96)),
    .ifS (.call (.con (.bi 0)) [(.loc 11), (.con (.bi 7))]) [.putD 99 (.attr (.loc 27) 14) (.tup [(.call (.con (.glob 38)) [(.con (.sym 85)), (.loc 11)]), (.dct [])])] [],
    .forS [102] true (.attr (.loc 27) 103) [.ifS (.and (.call (.con (.bi 0)) [(.loc 11), (.con (.bi 7))]) (.cmp .eq (.attr (.loc 102) 104) (.tup [(.con (.sym 90)), (.con (.sym 85)), (.loc 11)]))) [.ret (.call (.con (.glob 21)) [(.attr (.loc 102) 35), (.loc 99)])] [],
    .ifS (.and (.not (.call (.con (.bi 0)) [(.loc 11), (.con (.bi 7))])) (.cmp .eq (.attr (.loc 102) 104) (.tup [(.con (.sym 94)), (.idx (.loc 11) (.con (.int 1)))]))) [.forZ [14, 105] (.attr (.loc 102) 37) (.idx (.loc 11) (.con (.int 2))) [.putD 99 (.loc 14) (.loc 105)],
    .ret (.call (.con (.glob 21)) [(.attr (.loc 102) 35), (.loc 99)])] []],
    .ret (.call (.con (.glob 21)) [(.attr (.loc 27) 106), (.loc 99)])] }
noncomputable def g_law_told : GI := .fn { ps := [81, 37, 107], cs := [81], ds := [], body := [.ifS (.and (.not (.loc 107)) (.cmp .eq (.call (.con (.glob 17)) [(.cel 81), (.con (.int 3))]) (.con (.int 0)))) [.ret (.tup [(.con (.sym 86)), (.comp (.loc 14) 14 (.loc 37) [(.cmp .eq (.call (.con (.glob 17)) [(.cel 81), (.con (.int 2))]) (.con (.int 0)))]), (.call (.con (.glob 17)) [(.cel 81), (.con (.int 4))])])] [],
    .asg 8 .newl,
    .forR 108 (.call (.con (.glob 17)) [(.cel 81), (.con (.int 3))]) [.asgT [71, 106] [(.call (.con (.glob 17)) [(.cel 81), (.con (.int 3))]), (.call (.con (.glob 17)) [(.cel 81), (.con (.int 3))])],
    .app 8 (.ite (.loc 107) (.tup [(.loc 71), (.loc 106)]) (.loc 71))],
    .ret (.tup [(.con (.sym 8)), (.loc 8)])] }
noncomputable def g_law_statements : GI := .fn { ps := [81], cs := [], ds := [], body := [.asgT [41, 37] [(.cellL []), (.cellL [])],
    .forR 40 (.call (.con (.glob 17)) [(.loc 81), (.con (.int 4))]) [.asgT [57, 14] [(.call (.con (.glob 17)) [(.loc 81), (.con (.int 7))]), (.bin .add (.con (.sym 109)) (.call (.con (.bi 6)) [(.loc 40)]))],
    .ifS (.cmp .eq (.loc 57) (.con (.int 0))) [.appC (.loc 41) (.tup [(.con (.sym 110)), (.loc 14), (.call (.con (.glob 17)) [(.loc 81), (.con (.int 5))])])] [.ifS (.cmp .eq (.loc 57) (.con (.int 1))) [.appC (.loc 41) (.tup [(.con (.sym 111)), (.call (.con (.glob 26)) [(.loc 81), (.loc 37), (.con (.bool false))])]),
    .cont] [.ifS (.cmp .lt (.loc 57) (.con (.int 4))) [.asg 11 (.x (.call (.con (.glob 26)) [(.loc 81), (.loc 37), (.con (.bool true))])),
    .appC (.loc 41) (.tup [(.con (.sym 112)), (.tup [(.con (.sym 46)), (.loc 14), (.ite (.cmp .eq (.loc 57) (.con (.int 2))) (.con .none) (.con (.int 1)))]), (.loc 11)])] [.asg 11 (.x (.call (.con (.glob 26)) [(.loc 81), (.loc 37), (.con (.bool false))])),
    .appC (.loc 41) (.tup [(.con (.sym 112)), (.idx (.lst [(.tup [(.con (.sym 113)), (.loc 14)]), (.tup [(.con (.sym 90)), (.con (.int 1))]), (.tup [(.con (.sym 114))])]) (.bin .sub (.loc 57) (.con (.int 4)))), (.loc 11)]),
    .ifS (.cmp .gt (.loc 57) (.con (.int 4))) [.cont] []]]],
    .appC (.loc 37) (.loc 14)],
    .appC (.loc 41) (.tup [(.con (.sym 111)), (.call (.con (.glob 26)) [(.loc 81), (.loc 37), (.con (.bool false))])]),
    .ret (.loc 41)] }
noncomputable def g_law_pattern : GI := .fn { ps := [13], cs := [], ds := [], body := [.ifS (.cmp .eq (.idx (.loc 13) (.con (.int 0))) (.con (.sym 114))) [.ret (.call (.con (.glob 55)) [])] [],
    .ifS (.cmp .eq (.idx (.loc 13) (.con (.int 0))) (.con (.sym 113))) [.ret (.call (.con (.glob 54)) [(.idx (.loc 13) (.con (.int 1)))])] [],
    .ifS (.cmp .eq (.idx (.loc 13) (.con (.int 0))) (.con (.sym 90))) [.ret (.call (.con (.glob 56)) [(.con (.sym 85)), (.idx (.loc 13) (.con (.int 1)))])] [],
    .ret (.call (.con (.glob 58)) [(.lst [(.call (.con (.glob 54)) [(.idx (.loc 13) (.con (.int 1)))]), (.ite (.cmp .is (.idx (.loc 13) (.con (.int 2))) (.con .none)) (.call (.con (.glob 55)) []) (.call (.con (.glob 56)) [(.con (.sym 85)), (.idx (.loc 13) (.con (.int 2)))]))])])] }
noncomputable def g_law_statement : GI := .fn { ps := [65], cs := [], ds := [], body := [.ifS (.cmp .eq (.idx (.loc 65) (.con (.int 0))) (.con (.sym 112))) [.ret (.call (.con (.glob 51)) [(.call (.con (.glob 28)) [(.idx (.loc 65) (.con (.int 1)))]), (.idx (.loc 65) (.con (.int 2)))])] [],
    .ifS (.cmp .eq (.idx (.loc 65) (.con (.int 0))) (.con (.sym 111))) [.ret (.call (.con (.glob 52)) [(.idx (.loc 65) (.con (.int 1)))])] [],
    .asg 31 (.x (.call (.con (.glob 47)) [(.idx (.loc 65) (.con (.int 1))), (.lst [(.call (.con (.glob 48)) [(.lst []), (.call (.con (.glob 49)) [(.lst [(.tup [(.con .none), (.tup [(.con (.sym 84)), (.idx (.loc 65) (.con (.int 2)))])])]), (.call (.con (.glob 50)) [(.lst []), (.lst [])])])])])])),
    .asg 47 (.newi 50 [(.lst []), (.lst [(.loc 31)])]),
    .setAL 47 48 (.lst [(.lst [(.loc 31)])]),
    .ret (.call (.con (.glob 53)) [(.loc 47)])] }
noncomputable def g_law_taken : GI := .fn { ps := [13, 64], cs := [], ds := [], body := [.ifS (.cmp .eq (.idx (.loc 13) (.con (.int 0))) (.con (.sym 114))) [.ret (.dct [])] [],
    .ifS (.cmp .eq (.idx (.loc 13) (.con (.int 0))) (.con (.sym 113))) [.ret (.dct [((.idx (.loc 13) (.con (.int 1))), (.loc 64))])] [],
    .ifS (.cmp .eq (.idx (.loc 13) (.con (.int 0))) (.con (.sym 90))) [.ret (.ite (.cmp .eq (.loc 64) (.idx (.loc 13) (.con (.int 1)))) (.dct []) (.con .none))] [],
    .ret (.ite (.or (.cmp .is (.idx (.loc 13) (.con (.int 2))) (.con .none)) (.cmp .eq (.idx (.loc 13) (.con (.int 2))) (.idx (.loc 64) (.con (.int 1))))) (.dct [((.idx (.loc 13) (.con (.int 1))), (.idx (.loc 64) (.con (.int 0))))]) (.con .none))] }
noncomputable def g_law_plain : GI := .fn { ps := [11, 12], cs := [12], ds := [], body := [.ret (.ite (.cmp .eq (.idx (.loc 11) (.con (.int 0))) (.con (.sym 8))) (.call (.con (.bi 3)) [(.idx (.loc 11) (.con (.int 1)))]) (.lst [(.bin .add (.call (.con (.bi 4)) [(.comp (.idx (.cel 12) (.loc 14)) 14 (.idx (.loc 11) (.con (.int 1))) [])]) (.idx (.loc 11) (.con (.int 2))))]))] }
noncomputable def g_law_binds : GI := .fn { ps := [41, 60, 12], cs := [], ds := [], body := [.asg 65 (.x (.idx (.loc 41) (.loc 60))),
    .ifS (.cmp .eq (.idx (.loc 65) (.con (.int 0))) (.con (.sym 110))) [.ret (.call (.con (.glob 32)) [(.loc 41), (.bin .add (.loc 60) (.con (.int 1))), (.call (.con (.glob 20)) [(.loc 12), (.dct [((.idx (.loc 65) (.con (.int 1))), (.idx (.loc 65) (.con (.int 2))))])])])] [],
    .ifS (.cmp .eq (.loc 60) (.bin .sub (.call (.con (.bi 1)) [(.loc 41)]) (.con (.int 1)))) [.ret (.call (.con (.glob 31)) [(.idx (.loc 65) (.con (.int 1))), (.loc 12)])] [],
    .asg 24 .newl,
    .forS [64] true (.call (.con (.glob 31)) [(.ite (.cmp .eq (.idx (.loc 65) (.con (.int 0))) (.con (.sym 112))) (.idx (.loc 65) (.con (.int 2))) (.idx (.loc 65) (.con (.int 1)))), (.loc 12)]) [.asg 13 (.x (.ite (.cmp .eq (.idx (.loc 65) (.con (.int 0))) (.con (.sym 111))) (.dct []) (.call (.con (.glob 30)) [(.idx (.loc 65) (.con (.int 1))), (.loc 64)]))),
    .ifS (.cmp .isn (.loc 13) (.con .none)) [.ext 24 (.call (.con (.glob 32)) [(.loc 41), (.bin .add (.loc 60) (.con (.int 1))), (.call (.con (.glob 20)) [(.loc 12), (.loc 13)])])] []],
    .ret (.loc 24)] }
noncomputable def g_law : GI := .fn { ps := [77], cs := [], ds := [], body := [.asg 81 (.x (.call (.con (.glob 16)) [(.loc 77)])),
    .asg 41 (.x (.call (.con (.glob 27)) [(.loc 81)])),
    .asg 53 (.x (.call (.con (.glob 62)) [(.comp (.call (.con (.glob 29)) [(.loc 65)]) 65 (.loc 41) [])])),
    .setA (.loc 53) 54 (.lst [(.call (.con (.glob 64)) [(.con .none), (.con .none)])]),
    .setA (.idx (.attr (.loc 53) 54) (.con (.int 0))) 115 (.call (.con (.glob 60)) [(.con (.sym 101))]),
    .asg 21 (.x (.call (.con (.glob 61)) [(.call (.con (.glob 59)) [(.dct [])]), (.con .none), (.call (.con (.glob 63)) []), (.con (.glob 19)), (.con (.sym 116)), (.con (.glob 18))])),
    .asg 27 (.x (.call (.con (.glob 12)) [(.loc 21), (.loc 53)])),
    .asg 11 (.x (.call (.con (.glob 21)) [(.loc 27), (.dct [])])),
    .asg 13 (.x (.comp (.call (.con (.glob 21)) [(.idx (.loc 64) (.con (.int 0))), (.idx (.loc 64) (.con (.int 1)))]) 64 (.call (.con (.glob 24)) [(.loc 11)]) [])),
    .ret (.cmp .eq (.loc 13) (.call (.con (.glob 32)) [(.loc 41), (.con (.int 0)), (.dct [])]))] }
noncomputable def g_is_round : GI := .fn { ps := [45], cs := [], ds := [], body := [.forR 60 (.call (.con (.bi 1)) [(.loc 45)]) [.skipC 117 (.compT (.loc 14) [14, 27] (.tail (.loc 45) (.loc 60))),
    .ifS (.call (.con (.bi 8)) [(.comp .bad 14 (.call (.con (.glob 87)) [(.idx (.idx (.loc 45) (.loc 60)) (.con (.int 1)))]) [])]) [.ret (.con (.bool true))] []],
    .ret (.con (.bool false))] }
noncomputable def g_base_of : GI := .fn { ps := [14], cs := [], ds := [], body := [.asg 60 (.x (.meth (.loc 14) 1 [(.con (.sym 118))])),
    .ret (.ite (.and (.cmp .gt (.loc 60) (.con (.int 0))) .bad) .bad (.loc 14))] }
noncomputable def g_Row : GI := .cls { ps := [34, 35, 119], ds := [], body := [.set 34 (.loc 34), .set 35 (.loc 35), .set 119 (.loc 119)] }
noncomputable def g_Var_core : GI := .cls { ps := [14], ds := [], body := [.set 14 (.loc 14)] }
noncomputable def g_Lit : GI := .cls { ps := [9, 11], ds := [], body := [.set 9 (.loc 9), .set 11 (.loc 11)] }
noncomputable def g_App : GI := .cls { ps := [97, 17], ds := [], body := [.set 97 (.loc 97), .set 17 (.loc 17)] }
noncomputable def g_Lam : GI := .cls { ps := [98, 35], ds := [], body := [.set 98 (.loc 98), .set 35 (.loc 35)] }
noncomputable def g_Let : GI := .cls { ps := [47, 35, 100], ds := [], body := [.set 47 (.loc 47), .set 35 (.loc 35), .set 100 (.loc 100)] }
noncomputable def g_Alt : GI := .cls { ps := [104, 37, 35], ds := [], body := [.set 104 (.loc 104), .set 37 (.loc 37), .set 35 (.loc 35)] }
noncomputable def g_Case : GI := .cls { ps := [11, 14, 103, 106], ds := [], body := [.set 11 (.loc 11), .set 14 (.loc 14), .set 103 (.loc 103), .set 106 (.loc 106)] }
noncomputable def g_Con_core : GI := .cls { ps := [14, 17], ds := [], body := [.set 14 (.loc 14), .set 17 (.loc 17)] }
noncomputable def g_Prim : GI := .cls { ps := [120, 17], ds := [], body := [.set 120 (.loc 120), .set 17 (.loc 17)] }
noncomputable def g_Node : GI := .cls { ps := [99], ds := [], body := [.set 99 (.loc 99)] }
noncomputable def g_FunBind : GI := .cls { ps := [14, 33, 99], ds := [.none], body := [.base 99 (.loc 99), .set 14 (.loc 14), .set 33 (.loc 33), .set 32 (.lst [])] }
noncomputable def g_Clause : GI := .cls { ps := [34, 22, 99], ds := [.none], body := [.base 99 (.loc 99), .set 34 (.loc 34), .set 22 (.loc 22)] }
noncomputable def g_Rhs : GI := .cls { ps := [26, 30, 99], ds := [.none], body := [.base 99 (.loc 99), .set 26 (.loc 26), .set 30 (.loc 30)] }
noncomputable def g_Binds : GI := .cls { ps := [121, 47, 99], ds := [.none], body := [.base 99 (.loc 99), .set 121 (.loc 121), .set 47 (.loc 47), .set 48 (.lst [])] }
noncomputable def g_Generate : GI := .cls { ps := [7, 25, 99], ds := [.none], body := [.base 99 (.loc 99), .set 7 (.loc 7), .set 25 (.loc 25)] }
noncomputable def g_Say : GI := .cls { ps := [25, 99], ds := [.none], body := [.base 99 (.loc 99), .set 25 (.loc 25)] }
noncomputable def g_LetSay : GI := .cls { ps := [47, 99], ds := [.none], body := [.base 99 (.loc 99), .set 47 (.loc 47)] }
noncomputable def g_PVar : GI := .cls { ps := [14, 99], ds := [.none], body := [.base 99 (.loc 99), .set 14 (.loc 14)] }
noncomputable def g_PWild : GI := .cls { ps := [99], ds := [.none], body := [.base 99 (.loc 99)] }
noncomputable def g_PLit : GI := .cls { ps := [9, 11, 99], ds := [.none], body := [.base 99 (.loc 99), .set 9 (.loc 9), .set 11 (.loc 11)] }
noncomputable def g_PCon : GI := .cls { ps := [14, 17, 99], ds := [.none], body := [.base 99 (.loc 99), .set 14 (.loc 14), .set 17 (.loc 17)] }
noncomputable def g_PTuple : GI := .cls { ps := [8, 99], ds := [.none], body := [.base 99 (.loc 99), .set 8 (.loc 8)] }
noncomputable def g_Constructors : GI := .cls { ps := [67], ds := [], body := [.set 67 (.loc 67)] }
noncomputable def g_EvVar : GI := .cls { ps := [14], ds := [], body := [.set 14 (.loc 14)] }
noncomputable def g_Maker : GI := .cls { ps := [66, 70, 29, 122, 123, 124], ds := [], body := [.set 66 (.loc 66), .set 70 (.loc 70), .set 29 (.loc 29), .set 122 (.loc 122), .set 123 (.loc 123), .set 124 (.loc 124)] }
noncomputable def g_Do : GI := .clsP 81
noncomputable def g_Fresh : GI := .clsP 82
noncomputable def g_Need : GI := .clsP 83
noncomputable def g_PList : GI := .bare
noncomputable def g_PAs : GI := .bare
noncomputable def g_PLazy : GI := .bare
noncomputable def g_PBang : GI := .bare
noncomputable def g_Var_nodes : GI := .bare
noncomputable def g_Con_nodes : GI := .bare
noncomputable def g_EvInstance : GI := .bare
noncomputable def g_Maker_expression : GI := .fn { ps := [125, 53], cs := [], ds := [], body := [.ret (.meth (.loc 125) 124 [(.loc 125), (.loc 53)])] }
noncomputable def g_Maker_fail : GI := .fn { ps := [125], cs := [], ds := [], body := [.ret (.call (.con (.glob 37)) [(.attr (.loc 125) 123)])] }
noncomputable def g_Maker_match : GI := .fn { ps := [125, 37, 41, 36], cs := [], ds := [], body := [.ret (.meth (.loc 125) 122 [(.loc 37), (.loc 41), (.loc 36), (.attr (.attr (.loc 125) 66) 67), (.attr (.loc 125) 29)])] }
noncomputable def g_Maker_named : GI := .fn { ps := [125, 27, 126, 127], cs := [], ds := [], body := [.ifS (.call (.con (.bi 0)) [(.loc 27), (.con (.glob 37))]) [.ret (.call (.loc 127) [(.attr (.loc 27) 14)])] [],
    .asg 14 (.x (.meth (.attr (.loc 125) 29) 39 [(.loc 126)])),
    .ret (.call (.con (.glob 41)) [(.lst [(.tup [(.loc 14), (.loc 27)])]), (.call (.loc 127) [(.loc 14)]), (.con (.bool false))])] }
noncomputable def g_Maker_evidence : GI := .fn { ps := [125, 128], cs := [], ds := [], body := [.ret (.call (.con (.glob 15)) [(.attr (.loc 128) 115), (.attr (.loc 125) 70), (.attr (.loc 125) 29)])] }
noncomputable def g_Fresh_avoid : GI := .fn { ps := [125, 37], cs := [], ds := [], body := [.forS [14] true (.loc 37) [.setS (.attr (.loc 125) 129) (.loc 14) (.con (.bool true))]] }
noncomputable def g_Fresh_next : GI := .fn { ps := [125, 126], cs := [], ds := [], body := [.asg 13 (.x (.call (.con (.glob 35)) [(.loc 126)])),
    .asg 84 (.x (.bin .add (.meth (.attr (.loc 125) 130) 0 [(.loc 13), (.con (.int 0))]) (.con (.int 1)))),
    .whl 40 (.cmp .inn (.bin .add (.bin .add (.loc 13) (.con (.sym 118))) (.call (.con (.bi 6)) [(.loc 84)])) (.attr (.loc 125) 129)) [.bad],
    .setS (.attr (.loc 125) 130) (.loc 13) (.loc 84),
    .ret (.bin .add (.bin .add (.loc 13) (.con (.sym 118))) (.call (.con (.bi 6)) [(.loc 84)]))] }
noncomputable def g_Constructors_siblings : GI := .fn { ps := [125, 14], cs := [], ds := [], body := [.ifS (.cmp .nin (.loc 14) (.attr (.loc 125) 67)) [.ret (.ite (.cmp .inn (.loc 14) (.tup [(.con (.sym 49)), (.con (.sym 51))])) (.lst [(.con (.sym 49)), (.con (.sym 51))]) (.lst [(.loc 14)]))] [],
    .bad,
    .bad,
    .bad] }
noncomputable def g_Node___init : GI := .fn { ps := [125, 99], cs := [], ds := [], body := [.setA (.loc 125) 99 (.loc 99)] }
noncomputable def g_Do___init : GI := .fn { ps := [125, 58, 99], cs := [], ds := [.none], body := [.expr (.meth (.con (.glob 46)) 131 [(.loc 125), (.loc 99)]),
    .setA (.loc 125) 58 (.loc 58),
    .setA (.loc 125) 54 (.lst [])] }
noncomputable def g_Fresh___init : GI := .fn { ps := [125, 129], cs := [], ds := [.glob 84], body := [.setA (.loc 125) 129 (.dct []),
    .setA (.loc 125) 130 .cellD,
    .expr (.meth (.loc 125) 132 [(.loc 129)])] }
noncomputable def g_Need___init : GI := .fn { ps := [125, 133, 99], cs := [], ds := [], body := [.setA (.loc 125) 133 (.loc 133),
    .setA (.loc 125) 99 (.loc 99),
    .setA (.loc 125) 115 (.con .none)] }
noncomputable def g_unit : GI := .bare
noncomputable def g_Lit_groups : GI := .fn { ps := [125], cs := [], ds := [], body := [.ret (.lst [])] }
noncomputable def g_Lit_parts : GI := .fn { ps := [125], cs := [], ds := [], body := [.ret (.lst [])] }
noncomputable def g_free_names : GI := .fn { ps := [25], cs := [], ds := [], body := [.asgT [24, 134] [.cellD, .cellL [.tup [.loc 25, .dct []]]],
    .whlL 3 (.loc 134) [.unpk [53, 135] (.popC (.loc 134)),
    .ifS (.call (.con (.bi 0)) [(.loc 53), (.con (.glob 37))]) [.bad, .bad] [],
    .asg 48 (.x (.meth (.loc 53) 48 [])),
    .forS [16, 136] false (.meth (.loc 53) 137 []) [.bad]],
    .ret (.sortC (.loc 24))] }
noncomputable def gs : List GI := [g_tuple_name, g_spread, g_takes_all, g_is_always, g_guarded, g_rhs_code, g_function_core, g_bind_pairs, g_group_pairs, g_let_pairs, g_bound, g_text_core, g_done_statements, g_done_from, g_drawn, g_dictionary, g_law_pool, g_law_take, g_law_core, g_law_matched, g_law_with, g_law_value, g_law_list, g_law_called, g_law_all, g_law_chosen, g_law_told, g_law_statements, g_law_pattern, g_law_statement, g_law_taken, g_law_plain, g_law_binds, g_law, g_is_round, g_base_of, g_Row, g_Var_core, g_Lit, g_App, g_Lam, g_Let, g_Alt, g_Case, g_Con_core, g_Prim, g_Node, g_FunBind, g_Clause, g_Rhs, g_Binds, g_Generate, g_Say, g_LetSay, g_PVar, g_PWild, g_PLit, g_PCon, g_PTuple, g_Constructors, g_EvVar, g_Maker, g_Do, g_Fresh, g_Need, g_PList, g_PAs, g_PLazy, g_PBang, g_Var_nodes, g_Con_nodes, g_EvInstance, g_Maker_expression, g_Maker_fail, g_Maker_match, g_Maker_named, g_Maker_evidence, g_Fresh_avoid, g_Fresh_next, g_Constructors_siblings, g_Node___init, g_Do___init, g_Fresh___init, g_Need___init, g_unit, g_Lit_groups, g_Lit_parts, g_free_names]
noncomputable def lms : List LamI := [{ ps := [23], fr := [21, 22], body := (.call (.con (.glob 10)) [(.cel 21), (.attr (.cel 22) 30), (.call (.con (.glob 4)) [(.cel 21), (.cel 22), (.loc 23)])]) }, { ps := [57], fr := [21, 53], body := (.call (.con (.glob 13)) [(.cel 21), (.loc 57), (.attr (.cel 53) 58), (.con (.int 0))]) }, { ps := [23], fr := [60, 21, 58, 57], body := (.call (.con (.glob 13)) [(.cel 21), (.cel 57), (.cel 58), (.bin .add (.cel 60) (.con (.int 1)))]) }]
noncomputable def gSt : List Stmt := [dAt 48, dAt 51, dAt 56, dAt 61, dAt 63, dAt 64, dAt 65, dAt 68, dAt 69, dAt 71, dAt 72, dAt 74, dAt 76, dAt 77, dAt 78, dAt 86, dAt 95, dAt 96, dAt 97, dAt 98, dAt 99, dAt 100, dAt 101, dAt 102, dAt 103, dAt 104, dAt 105, dAt 106, dAt 107, dAt 108, dAt 109, dAt 110, dAt 111, dAt 112, dAt 70, dAt 90, mAt 2 0, mAt 4 0, mAt 6 0, mAt 7 0, mAt 8 0, mAt 9 0, mAt 10 0, mAt 11 0, mAt 12 0, mAt 14 0, mAt 21 0, mAt 22 0, mAt 23 0, mAt 24 0, mAt 25 0, mAt 31 0, mAt 32 0, mAt 33 0, mAt 35 0, mAt 36 0, mAt 37 0, mAt 38 0, mAt 39 0, mAt 55 0, mAt 82 0, mAt 88 0, mAt 30 0, mAt 91 0, mAt 93 0, mAt 40 0, mAt 41 0, mAt 42 0, mAt 43 0, mAt 26 0, mAt 28 0, mAt 83 0, mAt 88 1, mAt 88 2, mAt 88 3, mAt 88 4, mAt 88 6, mAt 91 1, mAt 91 2, mAt 55 3, mAt 21 0, mAt 30 0, mAt 91 0, mAt 93 0, .Pass default, mAt 6 1, mAt 6 2, dAt 17]
noncomputable def gNm : List (String × T) := [("tuple_name", .glob 0), ("spread", .glob 1), ("takes_all", .glob 2), ("is_always", .glob 3), ("guarded", .glob 4), ("rhs_code", .glob 5), ("function_core", .glob 6), ("bind_pairs", .glob 7), ("group_pairs", .glob 8), ("let_pairs", .glob 9), ("bound", .glob 10), ("text_core", .glob 11), ("done_statements", .glob 12), ("done_from", .glob 13), ("drawn", .glob 14), ("dictionary", .glob 15), ("_law_pool", .glob 16), ("_law_take", .glob 17), ("_law_core", .glob 18), ("_law_matched", .glob 19), ("_law_with", .glob 20), ("_law_value", .glob 21), ("_law_list", .glob 22), ("_law_called", .glob 23), ("_law_all", .glob 24), ("_law_chosen", .glob 25), ("_law_told", .glob 26), ("_law_statements", .glob 27), ("_law_pattern", .glob 28), ("_law_statement", .glob 29), ("_law_taken", .glob 30), ("_law_plain", .glob 31), ("_law_binds", .glob 32), ("law", .glob 33), ("is_round", .glob 34), ("base_of", .glob 35), ("Row", .glob 36), ("Var_core", .glob 37), ("Lit", .glob 38), ("App", .glob 39), ("Lam", .glob 40), ("Let", .glob 41), ("Alt", .glob 42), ("Case", .glob 43), ("Con_core", .glob 44), ("Prim", .glob 45), ("Node", .glob 46), ("FunBind", .glob 47), ("Clause", .glob 48), ("Rhs", .glob 49), ("Binds", .glob 50), ("Generate", .glob 51), ("Say", .glob 52), ("LetSay", .glob 53), ("PVar", .glob 54), ("PWild", .glob 55), ("PLit", .glob 56), ("PCon", .glob 57), ("PTuple", .glob 58), ("Constructors", .glob 59), ("EvVar", .glob 60), ("Maker", .glob 61), ("Do", .glob 62), ("Fresh", .glob 63), ("Need", .glob 64), ("PList", .glob 65), ("PAs", .glob 66), ("PLazy", .glob 67), ("PBang", .glob 68), ("Var_nodes", .glob 69), ("Con_nodes", .glob 70), ("EvInstance", .glob 71), ("free_names", .glob 87), ("isinstance", .bi 0), ("len", .bi 1), ("min", .bi 2), ("list", .bi 3), ("sum", .bi 4), ("all", .bi 5), ("str", .bi 6), ("int", .bi 7), ("any", .bi 8), ("NIL", .sym 49), ("CONS", .sym 51), ("UNIT", .sym 3), ("TRUE", .sym 20), ("OTHERWISE", .sym 19)]
noncomputable def tab : Tab where
  sadd := [(109, [(157, 149), (158, 151), (159, 153), (160, 155)]), (64, [(118, 167)]), (167, [(158, 150), (159, 152), (160, 154), (161, 156)]), (4, [(5, 168)]), (168, [(6, 88)])]
  srev := [(69, 138)]
  schars := [(138, [139, 140, 141, 142, 143, 80, 144, 139, 141, 145, 146, 143, 139, 139, 144, 147, 141, 148, 145])]
  sstr := [(0, 157), (1, 158), (2, 159), (3, 160), (4, 161), (5, 162), (6, 163), (7, 164), (8, 165), (9, 166)]
  smul := [(5, [(1, 5)])]
  srfind := [(64, [(118, -1)])]
  meth := [(61, [(28, 72), (36, 73), (43, 74), (59, 75), (55, 76)]), (63, [(132, 77), (39, 78)]), (59, [(15, 79)]), (46, [(131, 80)]), (38, [(48, 85), (137, 86)])]
  attrs := [(36, [34, 35, 119]), (37, [14]), (38, [9, 11]), (39, [97, 17]), (40, [98, 35]), (41, [47, 35, 100]), (42, [104, 37, 35]), (43, [11, 14, 103, 106]), (44, [14, 17]), (45, [120, 17]), (46, [99]), (47, [99, 14, 33, 32]), (48, [99, 34, 22]), (49, [99, 26, 30]), (50, [99, 121, 47, 48]), (51, [99, 7, 25]), (52, [99, 25]), (53, [99, 47]), (54, [99, 14]), (55, [99]), (56, [99, 9, 11]), (57, [99, 14, 17]), (58, [99, 8]), (59, [67]), (60, [14]), (61, [66, 70, 29, 122, 123, 124]), (62, [99, 58, 54]), (63, [129, 130]), (64, [133, 99, 115])]
  gs := gs
  lams := lms
noncomputable def gQl : List String := ["tuple_name", "spread", "takes_all", "is_always", "guarded", "rhs_code", "function_core", "bind_pairs", "group_pairs", "let_pairs", "bound", "text_core", "done_statements", "done_from", "drawn", "dictionary", "_law_pool", "_law_take", "_law_core", "_law_matched", "_law_with", "_law_value", "_law_list", "_law_called", "_law_all", "_law_chosen", "_law_told", "_law_statements", "_law_pattern", "_law_statement", "_law_taken", "_law_plain", "_law_binds", "law", "is_round", "base_of", "Row.__init__", "Var.__init__", "Lit.__init__", "App.__init__", "Lam.__init__", "Let.__init__", "Alt.__init__", "Case.__init__", "Con.__init__", "Prim.__init__", "Node.__init__", "FunBind.__init__", "Clause.__init__", "Rhs.__init__", "Binds.__init__", "Generate.__init__", "Say.__init__", "LetSay.__init__", "PVar.__init__", "PWild.__init__", "PLit.__init__", "PCon.__init__", "PTuple.__init__", "Constructors.__init__", "EvVar.__init__", "Maker.__init__", "Do.__init__", "Fresh.__init__", "Need.__init__", "PList", "PAs", "PLazy", "PBang", "Var_nodes", "Con_nodes", "EvInstance", "Maker.expression", "Maker.fail", "Maker.match", "Maker.named", "Maker.evidence", "Fresh.avoid", "Fresh.next", "Constructors.siblings", "Node.__init__", "Do.__init__", "Fresh.__init__", "Need.__init__", "()", "Lit.groups", "Lit.parts", "free_names"]
noncomputable def gIl : List (Nat × Nat) := [(36, 35), (37, 56), (38, 98), (39, 140), (40, 180), (41, 222), (42, 260), (43, 281), (44, 321), (45, 361), (46, 427), (47, 456), (48, 483), (49, 510), (50, 535), (51, 643), (52, 670), (53, 697), (54, 724), (55, 751), (56, 778), (57, 805), (58, 832), (59, 1013), (60, 1176), (61, 1228), (62, 616), (63, 1300), (64, 1335)]
end Mine
end
noncomputable section
open PySem PySem.W PyProof.Rows
set_option maxRecDepth 100000
set_option maxHeartbeats 8000000
namespace Mine
noncomputable def gA : List Addr := [959, 980, 1044, 1058, 1070, 1077, 1082, 1101, 1108, 1120, 1127, 1134, 1141, 1148, 1155, 1214, 1349, 1356, 1363, 1370, 1377, 1382, 1389, 1396, 1403, 1410, 1415, 1422, 1429, 1436, 1443, 1448, 1455, 1460, 1113, 1284, 38, 80, 122, 162, 204, 242, 263, 303, 343, 383, 437, 466, 493, 518, 545, 653, 680, 707, 734, 761, 788, 815, 842, 1035, 1179, 1273, 626, 1317, 1338, 869, 896, 923, 950, 572, 599, 1200, 1235, 1242, 1249, 1256, 1270, 1307, 1314, 1032, 427, 616, 1300, 1335, 1292, 105, 112, 401]
noncomputable def wS : List Str := wordsL.map Str.ofString
theorem nsz_len : wordsL.length = nsz := by kernel_rfl
noncomputable def sN (n : Nat) : Str := wS[n]?.getD (Str.ofString "")
theorem wS_nodup : wS.Nodup := by decide +kernel
theorem sN_inj {i j : Nat} (hi : i < nsz) (hj : j < nsz) (h : sN i = sN j) : i = j := by
  have h1 : wS.length = nsz := by unfold wS; rw [List.length_map]; exact nsz_len
  unfold sN at h
  rw [List.getElem?_eq_getElem (by rw [h1]; exact hi), List.getElem?_eq_getElem (by rw [h1]; exact hj)] at h
  exact (List.getElem_inj wS_nodup).mp h
noncomputable def biV : Nat → Option Value
  | 0 => some (.builtin "isinstance")
  | 1 => some (.builtin "len")
  | 2 => some (.builtin "min")
  | 3 => some (.type "list")
  | 4 => some (.builtin "sum")
  | 5 => some (.builtin "all")
  | 6 => some (.type "str")
  | 7 => some (.type "int")
  | 8 => some (.builtin "any")
  | _ => none
noncomputable def opOf : Op → Operator
  | .add => .Add | .sub => .Sub | .mul => .Mult | .fdiv => .FloorDiv | .mod => .Mod | .pow => .Pow
noncomputable def cmOf : Cm → CmpOp
  | .eq => .Eq | .ne => .NotEq | .lt => .Lt | .gt => .Gt | .ge => .GtE | .inn => .In | .nin => .NotIn | .is => .Is | .isn => .IsNot
noncomputable def notSl (e : PySem.Expr) : Bool := !(Nat.beq e.ctorIdx 26)
noncomputable def nmOk (s : Str) (i : Nat) : Bool := Nat.blt i nsz && (s == sN i && (!(s == ("__debug__" : Str)) && !(s == ("__classdict__" : Str))))
theorem dite_t {c : Prop} [Decidable c] {f : c → Bool} (h : (if q : c then f q else false) = true) : ∃ q, f q = true := by
  by_cases q : c
  · rw [dif_pos q] at h; exact ⟨q, h⟩
  · rw [dif_neg q] at h; cases h
section
variable {α : Type} {l : List α}
noncomputable def on1 (l : List α) (k : α → Bool) : Bool := match l with | [x] => k x | _ => false
theorem on1_t {k : α → Bool} (h : on1 l k = true) : ∃ x, l = [x] ∧ k x = true := by
  cases l with
  | nil => exact (Bool.false_ne_true h).elim
  | cons x r => cases r with
    | nil => exact ⟨_, rfl, h⟩
    | cons _ _ => exact (Bool.false_ne_true h).elim
noncomputable def on2 (l : List α) (k : α → α → Bool) : Bool := match l with | x :: r => on1 r (k x) | _ => false
theorem on2_t {k : α → α → Bool} (h : on2 l k = true) : ∃ x y, l = [x, y] ∧ k x y = true := by
  cases l with
  | nil => exact (Bool.false_ne_true h).elim
  | cons x r => obtain ⟨y, rfl, h⟩ := on1_t (l := r) h; exact ⟨x, y, rfl, h⟩
noncomputable def onS (o : Option α) (k : α → Bool) : Bool := match o with | some x => k x | none => false
theorem onS_t {o : Option α} {k : α → Bool} (h : onS o k = true) : ∃ x, o = some x ∧ k x = true := by
  cases o with
  | none => exact (Bool.false_ne_true h).elim
  | some x => exact ⟨x, rfl, h⟩
theorem nil_t (h : l.isEmpty = true) : l = [] := List.isEmpty_iff.mp h
theorem non_t {o : Option α} (h : o.isNone = true) : o = none := by cases o with
  | none => rfl
  | some _ => exact (Bool.false_ne_true h).elim
end
theorem a1 {a b : Bool} (h : (a && b) = true) : a = true := (Bool.and_eq_true_iff.mp h).1
theorem a2 {a b : Bool} (h : (a && b) = true) : b = true := (Bool.and_eq_true_iff.mp h).2
@[elab_as_elim] theorem on1_e {α : Type} {P : List α → Prop} {l : List α} {k : α → Bool} (h : on1 l k = true) (f : ∀ x, k x = true → P [x]) : P l := by
  obtain ⟨x, rfl, h⟩ := on1_t h; exact f x h
@[elab_as_elim] theorem on2_e {α : Type} {P : List α → Prop} {l : List α} {k : α → α → Bool} (h : on2 l k = true) (f : ∀ x y, k x y = true → P [x, y]) : P l := by
  obtain ⟨x, y, rfl, h⟩ := on2_t h; exact f x y h
@[elab_as_elim] theorem onS_e {α : Type} {P : Option α → Prop} {o : Option α} {k : α → Bool} (h : onS o k = true) (f : ∀ x, k x = true → P (some x)) : P o := by
  obtain ⟨x, rfl, h⟩ := onS_t h; exact f x h
@[elab_as_elim] theorem nil_e {α : Type} {P : List α → Prop} {l : List α} (h : l.isEmpty = true) (f : P []) : P l := by rw [nil_t h]; exact f
@[elab_as_elim] theorem non_e {α : Type} {P : Option α → Prop} {l : Option α} (h : l.isNone = true) (f : P none) : P l := by rw [non_t h]; exact f
@[elab_as_elim] theorem beq_e {α : Type} [BEq α] [LawfulBEq α] {P : α → Prop} {x y : α} (h : (x == y) = true) (f : P x) : P y := eq_of_beq h ▸ f
@[elab_as_elim] theorem beq_e' {α : Type} [BEq α] [LawfulBEq α] {P : α → Prop} {x y : α} (h : (x == y) = true) (f : P y) : P x := by rw [eq_of_beq h]; exact f
noncomputable def onSq (z : Data) (k : Array Value → Nat → Bool) : Bool := if h : z.ctorIdx = 2 then @Data.seq.elim (fun _ => Bool) z h k else false
theorem onSq_t {z : Data} {k : Array Value → Nat → Bool} (h : onSq z k = true) : ∃ a n, z = .seq a n ∧ k a n = true :=
  (dite_t h).elim fun q h => @Data.seq.elim (fun z => ∀ h : z.ctorIdx = 2, @Data.seq.elim (fun _ => Bool) z h k = true → ∃ a n, z = .seq a n ∧ k a n = true) z q (fun a n _ h => ⟨a, n, rfl, h⟩) q h
noncomputable def onFd {α : Type} (z : Data) (d : α) (k : FuncData → α) : α := if h : z.ctorIdx = 7 then @Data.func.elim (fun _ => α) z h k else d
theorem onFd_t {z : Data} {k : FuncData → Bool} (h : onFd z false k = true) : ∃ f, z = .func f ∧ k f = true :=
  (dite_t h).elim fun q h => @Data.func.elim (fun z => ∀ h : z.ctorIdx = 7, @Data.func.elim (fun _ => Bool) z h k = true → ∃ f, z = .func f ∧ k f = true) z q (fun f _ h => ⟨f, rfl, h⟩) q h
noncomputable def onRef (z : Value) (k : Addr → Bool) : Bool := if h : z.ctorIdx = 10 then @Value.ref.elim (fun _ => Bool) z h k else false
theorem onRef_t {z : Value} {k : Addr → Bool} (h : onRef z k = true) : ∃ a, z = .ref a ∧ k a = true :=
  (dite_t h).elim fun q h => @Value.ref.elim (fun z => ∀ h : z.ctorIdx = 10, @Value.ref.elim (fun _ => Bool) z h k = true → ∃ a, z = .ref a ∧ k a = true) z q (fun f _ h => ⟨f, rfl, h⟩) q h
noncomputable def onStr (z : Value) (k : Str → Bool) : Bool := if h : z.ctorIdx = 6 then @Value.str.elim (fun _ => Bool) z h (fun s _ => k s) else false
theorem onStr_t {z : Value} {k : Str → Bool} (h : onStr z k = true) : ∃ s t, z = .str s t ∧ k s = true :=
  (dite_t h).elim fun q h => @Value.str.elim (fun z => ∀ h : z.ctorIdx = 6, @Value.str.elim (fun _ => Bool) z h (fun s _ => k s) = true → ∃ s t, z = .str s t ∧ k s = true) z q (fun s t _ h => ⟨s, t, rfl, h⟩) q h
noncomputable def gN1 (P : Params) (p : String × T) : Bool := match p.2 with
  | .glob g => onS gA[g]? fun a => nsIn (mK P) mainGlobals (Str.ofString p.1) == some (some (.ref a))
  | .sym n => onS (nsIn (mK P) mainGlobals (Str.ofString p.1)) fun o => onS o fun v => onStr v fun x => x == sN n && Nat.blt n nsz
  | .bi n => nsIn (mK P) mainGlobals (Str.ofString p.1) == some none && (bootBuiltins (Str.ofString p.1) == biV n && ((biV n).isSome && !(Str.ofString p.1 == ("__name__" : Str))))
  | _ => false
noncomputable def gNAll (P : Params) : Bool := gNm.all (gN1 P)
theorem gNAll_ (P : Params) : gNAll P = true := by kernel_rfl
noncomputable def conEq : T → T → Bool
  | .glob a, .glob b => Nat.beq a b
  | .sym a, .sym b => Nat.beq a b
  | .bi a, .bi b => Nat.beq a b
  | _, _ => false
theorem conEq_of {a b : T} (e : conEq a b = true) : a = b := by
  cases a with
  | glob x => cases b with
    | glob y => exact congrArg _ (Nat.eq_of_beq_eq_true e)
    | _ => exact (Bool.false_ne_true e).elim
  | sym x => cases b with
    | sym y => exact congrArg _ (Nat.eq_of_beq_eq_true e)
    | _ => exact (Bool.false_ne_true e).elim
  | bi x => cases b with
    | bi y => exact congrArg _ (Nat.eq_of_beq_eq_true e)
    | _ => exact (Bool.false_ne_true e).elim
  | _ => exact (Bool.false_ne_true e).elim
noncomputable def conName (s : Str) (t : T) : Bool := gNm.any fun p => Str.ofString p.1 == s && conEq p.2 t
noncomputable def conConst (c : Const) (t : T) : Bool := match t with
  | .none => (match c with
    | .none => true
    | _ => false)
  | .bool b => (match c with
    | .bool a => a == b
    | _ => false)
  | .int b => (match c with
    | .int a => a == b
    | _ => false)
  | .sym n => (match c with
    | .str s => nmOk s n
    | _ => false)
  | _ => false
noncomputable def isAttr (e : PySem.Expr) : Bool := Nat.beq e.ctorIdx 20
noncomputable def isStar (e : PySem.Expr) : Bool := Nat.beq e.ctorIdx 22
noncomputable def isName (e : PySem.Expr) : Bool := Nat.beq e.ctorIdx 23
noncomputable def inMarks (e : PySem.Expr) : Bool := !(Nat.beq e.ctorIdx 7)
noncomputable def kindIs (sc : Scope) (s : Str) (k : NameKind) : Bool := sc.names.lookup s == some k
noncomputable def compSc (sc scope : Scope) : Scope := { scope with names := scope.names.map fun p => if (p.2 == .free && sc.kind == .function && sc.names.lookup p.1 == some .cell) = true then (p.1, .cell) else p }
noncomputable def allX (f : X → PySem.Expr → Bool) : List X → List PySem.Expr → Bool
  | [], [] => true
  | x :: r, e :: s => !(isStar e) && (f x e && allX f r s)
  | _, _ => false
noncomputable def compOk (sc scope : Scope) : Bool := scope.kind == .function && (!scope.isCoroutine && (!scope.isGenerator && scope.names.all fun p => (p.2 == .local || p.2 == .free || p.2 == .globalImplicit) && (scope.names.lookup p.1 == some p.2 && (!(p.2 == .free) || kindIs sc p.1 .cell))))
noncomputable def laAt : Nat → Nat × Nat
  | 0 => (434, 11)
  | 1 => (493, 62)
  | _ => (506, 25)
noncomputable def laQ : Nat → Str
  | 0 => Str.ofString "rhs_code.<locals>.<lambda>"
  | 1 => Str.ofString "done_statements.<locals>.<lambda>"
  | _ => Str.ofString "drawn.<locals>.<lambda>"
noncomputable def parOk (ps : List Nat) (nd : Nat) (a : Arguments) (sc : Scope) (cs : List Nat) : Bool :=
  a.posonlyargs.isEmpty && (a.vararg.isNone && (a.kwonlyargs.isEmpty && (a.kw_defaults.isEmpty && (a.kwarg.isNone && (a.defaults.length == nd &&
  (a.args.map (·.arg) == ps.map sN && (ps.all (fun i => Nat.blt i nsz && kindIs sc (sN i) (if isIn cs i then .cell else .local)) && (decide ps.Nodup && (sc.kind == .function && (!sc.isCoroutine && !sc.isGenerator))))))))))
noncomputable def lamOk (q : Str) (k : Nat) (l : LamI) (a : Arguments) (s : Scope) (p : Pos) : Bool :=
  Nat.blt k 3 && (p.line == (laAt k).1 && (p.col == (laAt k).2 && (q ++ ("<lambda>" : Str) == laQ k && (parOk l.ps 0 a s [] &&
    (s.names.all (fun x => x.2 == .local || x.2 == .globalImplicit || (x.2 == .free && l.fr.any fun i => sN i == x.1)) && l.fr.all fun i => Nat.blt i nsz && kindIs s (sN i) .free)))))
noncomputable def onName (z : PySem.Expr) (k : Str → Pos → Bool) : Bool := if h : z.ctorIdx = 23 then @PySem.Expr.Name.elim (fun _ => Bool) z h k else false
@[elab_as_elim] theorem onName_e {P : PySem.Expr → Prop} {z : PySem.Expr} {k : Str → Pos → Bool} (h : onName z k = true) (f : ∀ (s : Str) (p : Pos), k s p = true → P (.Name s p)) : P z :=
  (dite_t h).elim fun q h => @PySem.Expr.Name.elim (fun z => ∀ h : z.ctorIdx = 23, @PySem.Expr.Name.elim (fun _ => Bool) z h k = true → P z) z q (fun s p _ h => f s p h) q h
theorem onName_t {z : PySem.Expr} {k : Str → Pos → Bool} (h : onName z k = true) : ∃ s p, z = .Name s p ∧ k s p = true :=
  onName_e (P := fun z => ∃ s p, z = .Name s p ∧ k s p = true) h fun _ _ h => ⟨_, _, rfl, h⟩
noncomputable def onConst (z : PySem.Expr) (k : Const → Bool) : Bool := if h : z.ctorIdx = 19 then @PySem.Expr.Constant.elim (fun _ => Bool) z h (fun c _ _ => k c) else false
@[elab_as_elim] theorem onConst_e {P : PySem.Expr → Prop} {z : PySem.Expr} {k : Const → Bool} (h : onConst z k = true) (f : ∀ (c : Const) (j : Nat) (p : Pos), k c = true → P (.Constant c j p)) : P z :=
  (dite_t h).elim fun q h => @PySem.Expr.Constant.elim (fun z => ∀ h : z.ctorIdx = 19, @PySem.Expr.Constant.elim (fun _ => Bool) z h (fun c _ _ => k c) = true → P z) z q (fun c j p _ h => f c j p h) q h
theorem onConst_t {z : PySem.Expr} {k : Const → Bool} (h : onConst z k = true) : ∃ c j p, z = .Constant c j p ∧ k c = true :=
  onConst_e (P := fun z => ∃ c j p, z = .Constant c j p ∧ k c = true) h fun _ _ _ h => ⟨_, _, _, rfl, h⟩
noncomputable def onAttr (z : PySem.Expr) (k : PySem.Expr → Str → Pos → Bool) : Bool := if h : z.ctorIdx = 20 then @PySem.Expr.Attribute.elim (fun _ => Bool) z h k else false
@[elab_as_elim] theorem onAttr_e {P : PySem.Expr → Prop} {z : PySem.Expr} {k : PySem.Expr → Str → Pos → Bool} (h : onAttr z k = true) (f : ∀ (o : PySem.Expr) (s : Str) (p : Pos), k o s p = true → P (.Attribute o s p)) : P z :=
  (dite_t h).elim fun q h => @PySem.Expr.Attribute.elim (fun z => ∀ h : z.ctorIdx = 20, @PySem.Expr.Attribute.elim (fun _ => Bool) z h k = true → P z) z q (fun o s p _ h => f o s p h) q h
noncomputable def onSub (z : PySem.Expr) (k : PySem.Expr → PySem.Expr → Bool) : Bool := if h : z.ctorIdx = 21 then @PySem.Expr.Subscript.elim (fun _ => Bool) z h (fun o j _ => k o j) else false
@[elab_as_elim] theorem onSub_e {P : PySem.Expr → Prop} {z : PySem.Expr} {k : PySem.Expr → PySem.Expr → Bool} (h : onSub z k = true) (f : ∀ (o : PySem.Expr) (j : PySem.Expr) (p : Pos), k o j = true → P (.Subscript o j p)) : P z :=
  (dite_t h).elim fun q h => @PySem.Expr.Subscript.elim (fun z => ∀ h : z.ctorIdx = 21, @PySem.Expr.Subscript.elim (fun _ => Bool) z h (fun o j _ => k o j) = true → P z) z q (fun o j p _ h => f o j p h) q h
noncomputable def onBin (z : PySem.Expr) (k : PySem.Expr → Operator → PySem.Expr → Bool) : Bool := if h : z.ctorIdx = 2 then @PySem.Expr.BinOp.elim (fun _ => Bool) z h (fun l o r _ => k l o r) else false
@[elab_as_elim] theorem onBin_e {P : PySem.Expr → Prop} {z : PySem.Expr} {k : PySem.Expr → Operator → PySem.Expr → Bool} (h : onBin z k = true) (f : ∀ (l : PySem.Expr) (o : Operator) (r : PySem.Expr) (p : Pos), k l o r = true → P (.BinOp l o r p)) : P z :=
  (dite_t h).elim fun q h => @PySem.Expr.BinOp.elim (fun z => ∀ h : z.ctorIdx = 2, @PySem.Expr.BinOp.elim (fun _ => Bool) z h (fun l o r _ => k l o r) = true → P z) z q (fun l o r p _ h => f l o r p h) q h
noncomputable def onCmp (z : PySem.Expr) (k : PySem.Expr → (List CmpOp) → (List PySem.Expr) → Bool) : Bool := if h : z.ctorIdx = 15 then @PySem.Expr.Compare.elim (fun _ => Bool) z h (fun l o r _ => k l o r) else false
@[elab_as_elim] theorem onCmp_e {P : PySem.Expr → Prop} {z : PySem.Expr} {k : PySem.Expr → (List CmpOp) → (List PySem.Expr) → Bool} (h : onCmp z k = true) (f : ∀ (l : PySem.Expr) (o : List CmpOp) (r : List PySem.Expr) (p : Pos), k l o r = true → P (.Compare l o r p)) : P z :=
  (dite_t h).elim fun q h => @PySem.Expr.Compare.elim (fun z => ∀ h : z.ctorIdx = 15, @PySem.Expr.Compare.elim (fun _ => Bool) z h (fun l o r _ => k l o r) = true → P z) z q (fun l o r p _ h => f l o r p h) q h
noncomputable def onBoo (z : PySem.Expr) (k : BoolOp → (List PySem.Expr) → Bool) : Bool := if h : z.ctorIdx = 0 then @PySem.Expr.BoolOp.elim (fun _ => Bool) z h (fun o l _ => k o l) else false
@[elab_as_elim] theorem onBoo_e {P : PySem.Expr → Prop} {z : PySem.Expr} {k : BoolOp → (List PySem.Expr) → Bool} (h : onBoo z k = true) (f : ∀ (o : BoolOp) (l : List PySem.Expr) (p : Pos), k o l = true → P (.BoolOp o l p)) : P z :=
  (dite_t h).elim fun q h => @PySem.Expr.BoolOp.elim (fun z => ∀ h : z.ctorIdx = 0, @PySem.Expr.BoolOp.elim (fun _ => Bool) z h (fun o l _ => k o l) = true → P z) z q (fun o l p _ h => f o l p h) q h
noncomputable def onUn (z : PySem.Expr) (k : UnaryOp → PySem.Expr → Bool) : Bool := if h : z.ctorIdx = 3 then @PySem.Expr.UnaryOp.elim (fun _ => Bool) z h (fun o l _ => k o l) else false
@[elab_as_elim] theorem onUn_e {P : PySem.Expr → Prop} {z : PySem.Expr} {k : UnaryOp → PySem.Expr → Bool} (h : onUn z k = true) (f : ∀ (o : UnaryOp) (l : PySem.Expr) (p : Pos), k o l = true → P (.UnaryOp o l p)) : P z :=
  (dite_t h).elim fun q h => @PySem.Expr.UnaryOp.elim (fun z => ∀ h : z.ctorIdx = 3, @PySem.Expr.UnaryOp.elim (fun _ => Bool) z h (fun o l _ => k o l) = true → P z) z q (fun o l p _ h => f o l p h) q h
theorem onUn_t {z : PySem.Expr} {k : UnaryOp → PySem.Expr → Bool} (h : onUn z k = true) : ∃ o l p, z = .UnaryOp o l p ∧ k o l = true :=
  onUn_e (P := fun z => ∃ o l p, z = .UnaryOp o l p ∧ k o l = true) h fun _ _ _ h => ⟨_, _, _, rfl, h⟩
noncomputable def onIfe (z : PySem.Expr) (k : PySem.Expr → PySem.Expr → PySem.Expr → Bool) : Bool := if h : z.ctorIdx = 5 then @PySem.Expr.IfExp.elim (fun _ => Bool) z h (fun t l r _ => k t l r) else false
@[elab_as_elim] theorem onIfe_e {P : PySem.Expr → Prop} {z : PySem.Expr} {k : PySem.Expr → PySem.Expr → PySem.Expr → Bool} (h : onIfe z k = true) (f : ∀ (t : PySem.Expr) (l : PySem.Expr) (r : PySem.Expr) (p : Pos), k t l r = true → P (.IfExp t l r p)) : P z :=
  (dite_t h).elim fun q h => @PySem.Expr.IfExp.elim (fun z => ∀ h : z.ctorIdx = 5, @PySem.Expr.IfExp.elim (fun _ => Bool) z h (fun t l r _ => k t l r) = true → P z) z q (fun t l r p _ h => f t l r p h) q h
noncomputable def onTup (z : PySem.Expr) (k : (List PySem.Expr) → Bool) : Bool := if h : z.ctorIdx = 25 then @PySem.Expr.Tuple.elim (fun _ => Bool) z h (fun l _ _ => k l) else false
@[elab_as_elim] theorem onTup_e {P : PySem.Expr → Prop} {z : PySem.Expr} {k : (List PySem.Expr) → Bool} (h : onTup z k = true) (f : ∀ (l : List PySem.Expr) (j : Nat) (p : Pos), k l = true → P (.Tuple l j p)) : P z :=
  (dite_t h).elim fun q h => @PySem.Expr.Tuple.elim (fun z => ∀ h : z.ctorIdx = 25, @PySem.Expr.Tuple.elim (fun _ => Bool) z h (fun l _ _ => k l) = true → P z) z q (fun l j p _ h => f l j p h) q h
theorem onTup_t {z : PySem.Expr} {k : (List PySem.Expr) → Bool} (h : onTup z k = true) : ∃ l j p, z = .Tuple l j p ∧ k l = true :=
  onTup_e (P := fun z => ∃ l j p, z = .Tuple l j p ∧ k l = true) h fun _ _ _ h => ⟨_, _, _, rfl, h⟩
noncomputable def onLst (z : PySem.Expr) (k : (List PySem.Expr) → Bool) : Bool := if h : z.ctorIdx = 24 then @PySem.Expr.List.elim (fun _ => Bool) z h (fun l _ => k l) else false
@[elab_as_elim] theorem onLst_e {P : PySem.Expr → Prop} {z : PySem.Expr} {k : (List PySem.Expr) → Bool} (h : onLst z k = true) (f : ∀ (l : List PySem.Expr) (p : Pos), k l = true → P (.List l p)) : P z :=
  (dite_t h).elim fun q h => @PySem.Expr.List.elim (fun z => ∀ h : z.ctorIdx = 24, @PySem.Expr.List.elim (fun _ => Bool) z h (fun l _ => k l) = true → P z) z q (fun l p _ h => f l p h) q h
noncomputable def onDic (z : PySem.Expr) (k : (List (Option PySem.Expr)) → (List PySem.Expr) → Bool) : Bool := if h : z.ctorIdx = 6 then @PySem.Expr.Dict.elim (fun _ => Bool) z h (fun a b _ => k a b) else false
@[elab_as_elim] theorem onDic_e {P : PySem.Expr → Prop} {z : PySem.Expr} {k : (List (Option PySem.Expr)) → (List PySem.Expr) → Bool} (h : onDic z k = true) (f : ∀ (a : List (Option PySem.Expr)) (b : List PySem.Expr) (p : Pos), k a b = true → P (.Dict a b p)) : P z :=
  (dite_t h).elim fun q h => @PySem.Expr.Dict.elim (fun z => ∀ h : z.ctorIdx = 6, @PySem.Expr.Dict.elim (fun _ => Bool) z h (fun a b _ => k a b) = true → P z) z q (fun a b p _ h => f a b p h) q h
noncomputable def onCall (z : PySem.Expr) (k : PySem.Expr → (List PySem.Expr) → (List Keyword) → Pos → Bool) : Bool := if h : z.ctorIdx = 16 then @PySem.Expr.Call.elim (fun _ => Bool) z h k else false
@[elab_as_elim] theorem onCall_e {P : PySem.Expr → Prop} {z : PySem.Expr} {k : PySem.Expr → (List PySem.Expr) → (List Keyword) → Pos → Bool} (h : onCall z k = true) (f : ∀ (o : PySem.Expr) (l : List PySem.Expr) (w : List Keyword) (p : Pos), k o l w p = true → P (.Call o l w p)) : P z :=
  (dite_t h).elim fun q h => @PySem.Expr.Call.elim (fun z => ∀ h : z.ctorIdx = 16, @PySem.Expr.Call.elim (fun _ => Bool) z h k = true → P z) z q (fun o l w p _ h => f o l w p h) q h
noncomputable def onLc (z : PySem.Expr) (k : PySem.Expr → (List Comprehension) → Scope → Bool) : Bool := if h : z.ctorIdx = 8 then @PySem.Expr.ListComp.elim (fun _ => Bool) z h (fun e g s _ => k e g s) else false
@[elab_as_elim] theorem onLc_e {P : PySem.Expr → Prop} {z : PySem.Expr} {k : PySem.Expr → (List Comprehension) → Scope → Bool} (h : onLc z k = true) (f : ∀ (e : PySem.Expr) (g : List Comprehension) (s : Scope) (p : Pos), k e g s = true → P (.ListComp e g s p)) : P z :=
  (dite_t h).elim fun q h => @PySem.Expr.ListComp.elim (fun z => ∀ h : z.ctorIdx = 8, @PySem.Expr.ListComp.elim (fun _ => Bool) z h (fun e g s _ => k e g s) = true → P z) z q (fun e g s p _ h => f e g s p h) q h
theorem onLc_t {z : PySem.Expr} {k : PySem.Expr → (List Comprehension) → Scope → Bool} (h : onLc z k = true) : ∃ e g s p, z = .ListComp e g s p ∧ k e g s = true :=
  onLc_e (P := fun z => ∃ e g s p, z = .ListComp e g s p ∧ k e g s = true) h fun _ _ _ _ h => ⟨_, _, _, _, rfl, h⟩
noncomputable def onLam (z : PySem.Expr) (k : Arguments → PySem.Expr → Scope → Pos → Bool) : Bool := if h : z.ctorIdx = 4 then @PySem.Expr.Lambda.elim (fun _ => Bool) z h k else false
@[elab_as_elim] theorem onLam_e {P : PySem.Expr → Prop} {z : PySem.Expr} {k : Arguments → PySem.Expr → Scope → Pos → Bool} (h : onLam z k = true) (f : ∀ (a : Arguments) (b : PySem.Expr) (s : Scope) (p : Pos), k a b s p = true → P (.Lambda a b s p)) : P z :=
  (dite_t h).elim fun q h => @PySem.Expr.Lambda.elim (fun z => ∀ h : z.ctorIdx = 4, @PySem.Expr.Lambda.elim (fun _ => Bool) z h k = true → P z) z q (fun a b s p _ h => f a b s p h) q h
noncomputable def onSl (z : PySem.Expr) (k : (Option PySem.Expr) → (Option PySem.Expr) → (Option PySem.Expr) → Bool) : Bool := if h : z.ctorIdx = 26 then @PySem.Expr.Slice.elim (fun _ => Bool) z h (fun a b c _ => k a b c) else false
@[elab_as_elim] theorem onSl_e {P : PySem.Expr → Prop} {z : PySem.Expr} {k : (Option PySem.Expr) → (Option PySem.Expr) → (Option PySem.Expr) → Bool} (h : onSl z k = true) (f : ∀ (a : Option PySem.Expr) (b : Option PySem.Expr) (c : Option PySem.Expr) (p : Pos), k a b c = true → P (.Slice a b c p)) : P z :=
  (dite_t h).elim fun q h => @PySem.Expr.Slice.elim (fun z => ∀ h : z.ctorIdx = 26, @PySem.Expr.Slice.elim (fun _ => Bool) z h (fun a b c _ => k a b c) = true → P z) z q (fun a b c p _ h => f a b c p h) q h
theorem onSl_t {z : PySem.Expr} {k : (Option PySem.Expr) → (Option PySem.Expr) → (Option PySem.Expr) → Bool} (h : onSl z k = true) : ∃ a b c p, z = .Slice a b c p ∧ k a b c = true :=
  onSl_e (P := fun z => ∃ a b c p, z = .Slice a b c p ∧ k a b c = true) h fun _ _ _ _ h => ⟨_, _, _, _, rfl, h⟩
noncomputable def onRet (z : Stmt) (k : (Option PySem.Expr) → Bool) : Bool := if h : z.ctorIdx = 3 then @Stmt.Return.elim (fun _ => Bool) z h (fun v _ => k v) else false
@[elab_as_elim] theorem onRet_e {P : Stmt → Prop} {z : Stmt} {k : (Option PySem.Expr) → Bool} (h : onRet z k = true) (f : ∀ (v : Option PySem.Expr) (p : Pos), k v = true → P (.Return v p)) : P z :=
  (dite_t h).elim fun q h => @Stmt.Return.elim (fun z => ∀ h : z.ctorIdx = 3, @Stmt.Return.elim (fun _ => Bool) z h (fun v _ => k v) = true → P z) z q (fun v p _ h => f v p h) q h
noncomputable def onIf (z : Stmt) (k : PySem.Expr → (List Stmt) → (List Stmt) → Bool) : Bool := if h : z.ctorIdx = 12 then @Stmt.If.elim (fun _ => Bool) z h (fun t l r _ => k t l r) else false
@[elab_as_elim] theorem onIf_e {P : Stmt → Prop} {z : Stmt} {k : PySem.Expr → (List Stmt) → (List Stmt) → Bool} (h : onIf z k = true) (f : ∀ (t : PySem.Expr) (l : List Stmt) (r : List Stmt) (p : Pos), k t l r = true → P (.If t l r p)) : P z :=
  (dite_t h).elim fun q h => @Stmt.If.elim (fun z => ∀ h : z.ctorIdx = 12, @Stmt.If.elim (fun _ => Bool) z h (fun t l r _ => k t l r) = true → P z) z q (fun t l r p _ h => f t l r p h) q h
noncomputable def onAsg (z : Stmt) (k : (List PySem.Expr) → PySem.Expr → Pos → Bool) : Bool := if h : z.ctorIdx = 5 then @Stmt.Assign.elim (fun _ => Bool) z h k else false
@[elab_as_elim] theorem onAsg_e {P : Stmt → Prop} {z : Stmt} {k : (List PySem.Expr) → PySem.Expr → Pos → Bool} (h : onAsg z k = true) (f : ∀ (l : List PySem.Expr) (e : PySem.Expr) (p : Pos), k l e p = true → P (.Assign l e p)) : P z :=
  (dite_t h).elim fun q h => @Stmt.Assign.elim (fun z => ∀ h : z.ctorIdx = 5, @Stmt.Assign.elim (fun _ => Bool) z h k = true → P z) z q (fun l e p _ h => f l e p h) q h
noncomputable def onFor (z : Stmt) (k : PySem.Expr → PySem.Expr → (List Stmt) → (List Stmt) → Bool) : Bool := if h : z.ctorIdx = 9 then @Stmt.For.elim (fun _ => Bool) z h (fun t e l r _ => k t e l r) else false
@[elab_as_elim] theorem onFor_e {P : Stmt → Prop} {z : Stmt} {k : PySem.Expr → PySem.Expr → (List Stmt) → (List Stmt) → Bool} (h : onFor z k = true) (f : ∀ (t : PySem.Expr) (e : PySem.Expr) (l : List Stmt) (r : List Stmt) (p : Pos), k t e l r = true → P (.For t e l r p)) : P z :=
  (dite_t h).elim fun q h => @Stmt.For.elim (fun z => ∀ h : z.ctorIdx = 9, @Stmt.For.elim (fun _ => Bool) z h (fun t e l r _ => k t e l r) = true → P z) z q (fun t e l r p _ h => f t e l r p h) q h
noncomputable def onWhl (z : Stmt) (k : PySem.Expr → (List Stmt) → (List Stmt) → Bool) : Bool := if h : z.ctorIdx = 11 then @Stmt.While.elim (fun _ => Bool) z h (fun t l r _ => k t l r) else false
@[elab_as_elim] theorem onWhl_e {P : Stmt → Prop} {z : Stmt} {k : PySem.Expr → (List Stmt) → (List Stmt) → Bool} (h : onWhl z k = true) (f : ∀ (t : PySem.Expr) (l : List Stmt) (r : List Stmt) (p : Pos), k t l r = true → P (.While t l r p)) : P z :=
  (dite_t h).elim fun q h => @Stmt.While.elim (fun z => ∀ h : z.ctorIdx = 11, @Stmt.While.elim (fun _ => Bool) z h (fun t l r _ => k t l r) = true → P z) z q (fun t l r p _ h => f t l r p h) q h
noncomputable def onExp (z : Stmt) (k : PySem.Expr → Bool) : Bool := if h : z.ctorIdx = 24 then @Stmt.Expr.elim (fun _ => Bool) z h (fun e _ => k e) else false
@[elab_as_elim] theorem onExp_e {P : Stmt → Prop} {z : Stmt} {k : PySem.Expr → Bool} (h : onExp z k = true) (f : ∀ (e : PySem.Expr) (p : Pos), k e = true → P (.Expr e p)) : P z :=
  (dite_t h).elim fun q h => @Stmt.Expr.elim (fun z => ∀ h : z.ctorIdx = 24, @Stmt.Expr.elim (fun _ => Bool) z h (fun e _ => k e) = true → P z) z q (fun e p _ h => f e p h) q h
theorem and_t {a b : Bool} (h : (a && b) = true) : a = true ∧ b = true := Bool.and_eq_true_iff.mp h
theorem not_t {a : Bool} (h : (!a) = true) : a = false := by cases a with
  | false => rfl
  | true => exact (Bool.false_ne_true h).elim
noncomputable def isK1 : Const → Bool | .int k => k == 1 | _ => false
theorem isK1_t {c : Const} (h : isK1 c = true) : c = .int 1 := by
  cases c <;> first | exact (Bool.false_ne_true h).elim | exact congrArg _ (eq_of_beq h)
noncomputable def isRev (z : PySem.Expr) : Bool := onSl z fun a b c => a.isNone && (b.isNone && onS c fun u => onUn u fun o v => o == .USub && onConst v isK1)
theorem isRev_t {z : PySem.Expr} (h : isRev z = true) : ∃ j p p' p'', z = .Slice none none (some (.UnaryOp .USub (.Constant (.int 1) j p) p')) p'' := by
  obtain ⟨a, b, c, p'', rfl, h⟩ := onSl_t h
  obtain ⟨h1, h⟩ := and_t h
  obtain ⟨h2, h⟩ := and_t h
  obtain ⟨u, rfl, h⟩ := onS_t h
  obtain ⟨o, v, p', rfl, h⟩ := onUn_t h
  obtain ⟨h3, h⟩ := and_t h
  obtain ⟨c, j, p, rfl, h⟩ := onConst_t h
  rw [non_t h1, non_t h2, eq_of_beq h3, isK1_t h]
  exact ⟨_, _, _, _, rfl⟩
@[elab_as_elim] theorem isRev_e {P : PySem.Expr → Prop} {z : PySem.Expr} (h : isRev z = true) (f : ∀ j p p' p'', P (.Slice none none (some (.UnaryOp .USub (.Constant (.int 1) j p) p')) p'')) : P z := by
  obtain ⟨_, _, _, _, rfl⟩ := isRev_t h; exact f _ _ _ _
noncomputable def nameIs (sc : Scope) (i : Nat) (e : PySem.Expr) : Bool := onName e fun s _ => nmOk s i && kindIs sc s .local
noncomputable def allNm (sc : Scope) : List Nat → List PySem.Expr → Bool
  | [], [] => true
  | i :: r, e :: s => nameIs sc i e && allNm sc r s
  | _, _ => false
noncomputable def plainBase (e : PySem.Expr) : Bool := !(onCall e fun f es kw _ => isName f && (es.isEmpty && kw.isEmpty))
noncomputable def chkX : Nat → Scope → Str → X → PySem.Expr → Bool
  | 0, _, _, _, _ => false
  | n + 1, sc, q, x, e => match x with
    | .bad => true
    | .loc i => onName e fun s _ => nmOk s i && kindIs sc s .local
    | .cel i => onName e fun s _ => nmOk s i && (kindIs sc s .cell || kindIs sc s .free)
    | .con t => onName e (fun s _ => kindIs sc s .globalImplicit && (!(s == ("__debug__" : Str)) && conName s t)) || onConst e fun c => conConst c t
    | .attr v a => onAttr e fun o s _ => nmOk s a && (plainBase o && chkX n sc q v o)
    | .idx v i => onSub e fun o j => notSl j && (chkX n sc q v o && chkX n sc q i j)
    | .rev v => onSub e fun o j => isRev j && chkX n sc q v o
    | .bin op a b => onBin e fun l o r => opOf op == o && (chkX n sc q a l && chkX n sc q b r)
    | .cmp op a b => onCmp e fun l os rs => on1 os fun o => on1 rs fun r => cmOf op == o && (inMarks r && (chkX n sc q a l && chkX n sc q b r))
    | .and a b => onBoo e fun o vs => o == .And && on2 vs fun l r => chkX n sc q a l && chkX n sc q b r
    | .or a b => onBoo e fun o vs => o == .Or && on2 vs fun l r => chkX n sc q a l && chkX n sc q b r
    | .not a => onUn e fun o l => o == .Not && chkX n sc q a l
    | .ite c a b => onIfe e fun t l r => chkX n sc q c t && (chkX n sc q a l && chkX n sc q b r)
    | .tup l => onTup e fun es => allX (chkX n sc q) l es && Nat.blt l.length 1000
    | .lst l => onLst e fun es => allX (chkX n sc q) l es && Nat.blt l.length 1000
    | .cellL l => onLst e fun es => allX (chkX n sc q) l es && Nat.blt l.length 1000
    | .dct l => onDic e fun ks vs => match l with
      | [] => ks.isEmpty && vs.isEmpty
      | (x, y) :: r => r.isEmpty && on1 ks fun k => onS k fun k => on1 vs fun v => chkX n sc q x k && chkX n sc q y v
    | .cellD => onDic e fun ks vs => ks.isEmpty && vs.isEmpty
    | .call f l => onCall e fun o es kw _ => kw.isEmpty && (!(isAttr o) && (chkX n sc q f o && allX (chkX n sc q) l es))
    | .meth v a l => onCall e fun f es kw pos => kw.isEmpty && onAttr f fun o s apos => nmOk s a && (apos.endLine == pos.line && (Nat.blt es.length 30 && (plainBase o && (chkX n sc q v o && allX (chkX n sc q) l es))))
    | .comp elt i it ifs => onLc e fun e gs scope => on1 gs fun g => g.is_async == 0 && onName g.target fun s _ => nmOk s i && (kindIs scope s .local && (kindIs (compSc sc scope) s .local && (compOk sc scope && (inMarks g.iter && (chkX n sc q it g.iter && (chkX n (compSc sc scope) q elt e && allX (chkX n (compSc sc scope) q) ifs g.ifs))))))
    | .compT elt is it => onLc e fun e gs scope => on1 gs fun g => g.is_async == 0 && (g.ifs.isEmpty && onTup g.target fun es => allNm scope is es && (allNm (compSc sc scope) is es && (decide is.Nodup && (compOk sc scope && (inMarks g.iter && (chkX n sc q it g.iter && chkX n (compSc sc scope) q elt e))))))
    | .tail v i => onSub e fun o j => onSl j fun a b c => b.isNone && (c.isNone && onS a fun j => chkX n sc q v o && chkX n sc q i j)
    | .popC v => onCall e fun f es kw pos => kw.isEmpty && (es.isEmpty && onAttr f fun o s apos => s == Str.ofString "pop" && (apos.endLine == pos.line && (plainBase o && chkX n sc q v o)))
    | .sortC v => onCall e fun f es kw _ => kw.isEmpty && on1 es fun e => onName f fun f _ => kindIs sc f .globalImplicit && (f == ("sorted" : Str) && (!(isStar e) && chkX n sc q v e))
    | .lam k => onLam e fun a b s p => onS lms[k]? fun l => lamOk q k l a s p && ((l.fr.all fun i => kindIs sc (sN i) .cell) && chkX n s (laQ k ++ (".<locals>." : Str)) l.body b)
noncomputable def isComp (e : PySem.Expr) : Bool := match e.ctorIdx with
  | 8 => true
  | 9 => true
  | 10 => true
  | _ => false
noncomputable def swapOk (sc : Scope) (s : Str) (npos : Pos) (e : PySem.Expr) : Bool := if h : e.ctorIdx = 8 then @PySem.Expr.ListComp.elim (fun _ => Bool) e h (fun _ _ scope p => kindIs sc s .local && (npos.line == p.line && !(scope.names.any fun x => x.1 == s && (x.2 == .local || x.2 == .cell)))) else false
noncomputable def oneGen (e : PySem.Expr) : Bool := onLc e fun _ gs _ => on1 gs fun g => g.is_async == 0 && onName g.target fun _ _ => true
noncomputable def tgtOk (sc : Scope) (is : List Nat) (one : Bool) (e : PySem.Expr) : Bool := match one with
  | true => on1 is fun i => nameIs sc i e
  | false => onTup e fun es => allNm sc is es && decide is.Nodup
noncomputable def twoOk (sc : Scope) (is : List Nat) (es vs : List PySem.Expr) : Bool :=
  on2 is fun i j => on2 es fun ea eb => onName ea fun a p => onName eb fun b p' => on2 vs fun v v' =>
    nmOk a i && (nmOk b j && (kindIs sc a .local && (kindIs sc b .local && (p.line == p'.line && (!(Nat.beq i j) && (!(isStar v) && (!(isStar v') && (!(foldedForSure 8 v && foldedForSure 8 v') && !(constantsAlone 8 v && constantsAlone 8 v')))))))))
noncomputable def allS (f : S → Stmt → Bool) : List S → List Stmt → Bool
  | [], [] => true
  | x :: r, e :: s => f x e && allS f r s
  | _, _ => false
noncomputable def methIs (w : String) (i : Nat) (sc : Scope) (apos pos : Pos) (o : PySem.Expr) (s : Str) : Bool := s == Str.ofString w && (apos.endLine == pos.line && nameIs sc i o)
noncomputable def notTup (e : PySem.Expr) : Bool := !(Nat.beq e.ctorIdx 25)
noncomputable def onA1 (st : Stmt) (k : PySem.Expr → PySem.Expr → Pos → Bool) : Bool := onAsg st fun ts e p => on1 ts fun t => k t e p
@[elab_as_elim] theorem onA1_e {P : Stmt → Prop} {st : Stmt} {k : PySem.Expr → PySem.Expr → Pos → Bool} (h : onA1 st k = true) (f : ∀ t e p, k t e p = true → P (.Assign [t] e p)) : P st :=
  onAsg_e h fun _ _ _ h => on1_e (P := fun l => P (.Assign l _ _)) h fun _ h => f _ _ _ h
noncomputable def onM1 (st : Stmt) (k : PySem.Expr → Str → Pos → PySem.Expr → Pos → Bool) : Bool := onExp st fun v => onCall v fun f es kw pos => kw.isEmpty && onAttr f fun o s apos => on1 es fun e => k o s apos e pos
@[elab_as_elim] theorem onM1_e {P : Stmt → Prop} {st : Stmt} {k : PySem.Expr → Str → Pos → PySem.Expr → Pos → Bool} (h : onM1 st k = true) (g : ∀ o s apos e pos p, k o s apos e pos = true → P (.Expr (.Call (.Attribute o s apos) [e] [] pos) p)) : P st :=
  onExp_e h fun _ p h => onCall_e (P := fun z => P (.Expr z p)) h fun _ es kw pos h => nil_e (P := fun w => P (.Expr (.Call _ es w pos) p)) (a1 h)
    (onAttr_e (P := fun f => P (.Expr (.Call f es [] pos) p)) (a2 h) fun _ _ _ h => on1_e (P := fun l => P (.Expr (.Call _ l [] pos) p)) h fun _ h => g _ _ _ _ _ _ h)
noncomputable def onNC (e : PySem.Expr) (k : Str → List PySem.Expr → Bool) : Bool := onCall e fun f es kw _ => kw.isEmpty && onName f fun f _ => k f es
@[elab_as_elim] theorem onNC_e {P : PySem.Expr → Prop} {z : PySem.Expr} {k : Str → List PySem.Expr → Bool} (h : onNC z k = true) (g : ∀ f fp es p, k f es = true → P (.Call (.Name f fp) es [] p)) : P z :=
  onCall_e h fun _ es kw pos h => nil_e (P := fun w => P (.Call _ es w pos)) (a1 h) (onName_e (P := fun f => P (.Call f es [] pos)) (a2 h) fun _ _ h => g _ _ _ _ h)
noncomputable def chkR (sc : Scope) (q : Str) (i : Nat) (r : R) (t e : PySem.Expr) (p : Pos) : Bool := onName t fun s np => nmOk s i && match r with
  | .x x => kindIs sc s .local && ((!(isComp e) || (swapOk sc s np e && oneGen e)) && chkX 40 sc q x e)
  | .newl => kindIs sc s .local && onLst e fun es => es.isEmpty
  | .dcopy x => kindIs sc s .local && onNC e fun f es => on1 es fun e => f == ("dict" : Str) && (kindIs sc f .globalImplicit && (!(isStar e) && chkX 40 sc q x e))
  | .newi c l => kindIs sc s .local && onNC e fun f es => kindIs sc f .globalImplicit && (!(f == ("__debug__" : Str)) && (conName f (.glob c) && allX (chkX 40 sc q) l es))
noncomputable def chkS : Nat → Scope → Str → S → Stmt → Bool
  | 0, _, _, _, _ => false
  | n + 1, sc, q, s, st => match s with
    | .bad => true
    | .ret x => onRet st fun o => onS o fun e => chkX 40 sc q x e
    | .ifS c a b => onIf st fun t l r => chkX 40 sc q c t && (allS (chkS n sc q) a l && allS (chkS n sc q) b r)
    | .asg i r => onA1 st fun t e p => chkR sc q i r t e p
    | .asgT is l => onA1 st fun t v _ => onTup t fun es => onTup v fun vs => twoOk sc is es vs && allX (chkX 40 sc q) l vs
    | .unpk is x => onA1 st fun t e _ => onTup t fun es => allNm sc is es && (decide is.Nodup && (!(isComp e) && (notTup e && chkX 40 sc q x e)))
    | .setA x a v => onA1 st fun t e _ => onAttr t fun o s _ => nmOk s a && (!(isComp e) && (chkX 40 sc q x o && chkX 40 sc q v e))
    | .setAL i a v => onA1 st fun t e _ => onAttr t fun o s _ => nmOk s a && (nameIs sc i o && (!(isComp e) && chkX 40 sc q v e))
    | .setS x j v => onA1 st fun t e _ => onSub t fun o k => notSl k && (!(isComp e) && (chkX 40 sc q x o && (chkX 40 sc q j k && chkX 40 sc q v e)))
    | .putD i j v => onA1 st fun t e _ => onSub t fun o k => notSl k && (!(isComp e) && (nameIs sc i o && (chkX 40 sc q j k && chkX 40 sc q v e)))
    | .app i x => onM1 st fun o s apos e pos => methIs "append" i sc apos pos o s && (!(isStar e) && chkX 40 sc q x e)
    | .ext i x => onM1 st fun o s apos e pos => methIs "extend" i sc apos pos o s && (!(isStar e) && chkX 40 sc q x e)
    | .upd i x => onM1 st fun o s apos e pos => methIs "update" i sc apos pos o s && (!(isStar e) && chkX 40 sc q x e)
    | .appC x v => onM1 st fun o s apos e pos => s == Str.ofString "append" && (apos.endLine == pos.line && (plainBase o && (!(isStar e) && (chkX 40 sc q x o && chkX 40 sc q v e))))
    | .forS is one x b => onFor st fun t e l r => r.isEmpty && (tgtOk sc is one t && (inMarks e && (chkX 40 sc q x e && allS (chkS n sc q) b l)))
    | .forR i x b => onFor st fun t e l r => r.isEmpty && onNC e fun f es => on1 es fun e => nameIs sc i t && (f == ("range" : Str) && (kindIs sc f .globalImplicit && (!(isStar e) && (chkX 40 sc q x e && allS (chkS n sc q) b l))))
    | .forZ is x y b => onFor st fun t e l r => r.isEmpty && onNC e fun f es => on2 es fun e e' => tgtOk sc is false t && (f == ("zip" : Str) && (kindIs sc f .globalImplicit && (!(isStar e) && (!(isStar e') && (chkX 40 sc q x e && (chkX 40 sc q y e' && allS (chkS n sc q) b l))))))
    | .whl _ c b => onWhl st fun t l r => r.isEmpty && (chkX 40 sc q c t && allS (chkS n sc q) b l)
    | .whlL _ x b => onWhl st fun t l r => r.isEmpty && (isName t && (chkX 40 sc q x t && allS (chkS n sc q) b l))
    | .skipC i x => onA1 st fun t e _ => onName t fun s _ => nmOk s i && (kindIs sc s .cell && chkX 40 sc q x e)
    | .expr x => onExp st fun e => !(isComp e) && chkX 40 sc q x e
    | .cont => Nat.beq st.ctorIdx 27
noncomputable def chkF (q : Str) (f : FnI) (st : Stmt) : Bool := parOk f.ps f.ds.length (fdP st) (fdS st) f.cs && ((f.cs.all fun i => isIn f.ps i) && allS (chkS 20 (fdS st) (q ++ (".<locals>." : Str))) f.body (fdB st))
noncomputable def gQ (g : Nat) : Str := Str.ofString (gQl[g]?.getD "")
noncomputable def selfN : Nat := 125
noncomputable def placeN : Nat := 99
noncomputable def simX (self : Nat) : X → Bool
  | .loc i => !(Nat.beq i self)
  | .lst [] => true
  | _ => false
noncomputable def chkC1 (self : Nat) (sc : Scope) (q : Str) (z : CS) (st : Stmt) : Bool := match z with
  | .set a e => onA1 st fun t v _ => onAttr t fun o s _ => nmOk s a && (nameIs sc self o && (!(isComp v) && (simX self e && chkX 8 sc q e v)))
  | .base a e => onExp st fun z => onCall z fun f es kw pos => kw.isEmpty && onAttr f fun nd s apos => onName nd fun nd _ => on2 es fun o v =>
    Nat.beq a placeN && (kindIs sc nd .globalImplicit && (!(nd == ("__debug__" : Str)) && (conName nd (.glob 46) && (s == Str.ofString "__init__" && (apos.endLine == pos.line && (nameIs sc self o && (simX self e && (!(isStar v) && (!(isStar o) && chkX 8 sc q e v)))))))))
noncomputable def chkC (q : Str) (self : Nat) (c : ClI) (st : Stmt) : Bool := parOk (self :: c.ps) c.ds.length (fdP st) (fdS st) [] && allC (chkC1 self (fdS st) (q ++ (".<locals>." : Str))) c.body (fdB st)
where allC (f : CS → Stmt → Bool) : List CS → List Stmt → Bool
  | [], [] => true
  | x :: r, e :: s => f x e && allC f r s
  | _, _ => false
noncomputable def gStN (g : Nat) : Stmt := gSt[g]?.getD (.Pass default)
noncomputable def chkG (g : Nat) : Bool := match gs[g]? with
  | some (.fn f) => chkF (gQ g) f (gStN g)
  | some (.cls c) => chkC (gQ g) selfN c (gStN g)
  | _ => true
theorem ck_0 : chkG 0 = true := by kernel_rfl
theorem ck_1 : chkG 1 = true := by kernel_rfl
theorem ck_2 : chkG 2 = true := by kernel_rfl
theorem ck_3 : chkG 3 = true := by kernel_rfl
theorem ck_4 : chkG 4 = true := by kernel_rfl
theorem ck_5 : chkG 5 = true := by kernel_rfl
theorem ck_6 : chkG 6 = true := by kernel_rfl
theorem ck_7 : chkG 7 = true := by kernel_rfl
theorem ck_8 : chkG 8 = true := by kernel_rfl
theorem ck_9 : chkG 9 = true := by kernel_rfl
theorem ck_10 : chkG 10 = true := by kernel_rfl
theorem ck_11 : chkG 11 = true := by kernel_rfl
theorem ck_12 : chkG 12 = true := by kernel_rfl
theorem ck_13 : chkG 13 = true := by kernel_rfl
theorem ck_14 : chkG 14 = true := by kernel_rfl
theorem ck_15 : chkG 15 = true := by kernel_rfl
theorem ck_16 : chkG 16 = true := by kernel_rfl
theorem ck_17 : chkG 17 = true := by kernel_rfl
theorem ck_18 : chkG 18 = true := by kernel_rfl
theorem ck_19 : chkG 19 = true := by kernel_rfl
theorem ck_20 : chkG 20 = true := by kernel_rfl
theorem ck_21 : chkG 21 = true := by kernel_rfl
theorem ck_22 : chkG 22 = true := by kernel_rfl
theorem ck_23 : chkG 23 = true := by kernel_rfl
theorem ck_24 : chkG 24 = true := by kernel_rfl
theorem ck_25 : chkG 25 = true := by kernel_rfl
theorem ck_26 : chkG 26 = true := by kernel_rfl
theorem ck_27 : chkG 27 = true := by kernel_rfl
theorem ck_28 : chkG 28 = true := by kernel_rfl
theorem ck_29 : chkG 29 = true := by kernel_rfl
theorem ck_30 : chkG 30 = true := by kernel_rfl
theorem ck_31 : chkG 31 = true := by kernel_rfl
theorem ck_32 : chkG 32 = true := by kernel_rfl
theorem ck_33 : chkG 33 = true := by kernel_rfl
theorem ck_34 : chkG 34 = true := by kernel_rfl
theorem ck_35 : chkG 35 = true := by kernel_rfl
theorem ck_36 : chkG 36 = true := by kernel_rfl
theorem ck_37 : chkG 37 = true := by kernel_rfl
theorem ck_38 : chkG 38 = true := by kernel_rfl
theorem ck_39 : chkG 39 = true := by kernel_rfl
theorem ck_40 : chkG 40 = true := by kernel_rfl
theorem ck_41 : chkG 41 = true := by kernel_rfl
theorem ck_42 : chkG 42 = true := by kernel_rfl
theorem ck_43 : chkG 43 = true := by kernel_rfl
theorem ck_44 : chkG 44 = true := by kernel_rfl
theorem ck_45 : chkG 45 = true := by kernel_rfl
theorem ck_46 : chkG 46 = true := by kernel_rfl
theorem ck_47 : chkG 47 = true := by kernel_rfl
theorem ck_48 : chkG 48 = true := by kernel_rfl
theorem ck_49 : chkG 49 = true := by kernel_rfl
theorem ck_50 : chkG 50 = true := by kernel_rfl
theorem ck_51 : chkG 51 = true := by kernel_rfl
theorem ck_52 : chkG 52 = true := by kernel_rfl
theorem ck_53 : chkG 53 = true := by kernel_rfl
theorem ck_54 : chkG 54 = true := by kernel_rfl
theorem ck_55 : chkG 55 = true := by kernel_rfl
theorem ck_56 : chkG 56 = true := by kernel_rfl
theorem ck_57 : chkG 57 = true := by kernel_rfl
theorem ck_58 : chkG 58 = true := by kernel_rfl
theorem ck_59 : chkG 59 = true := by kernel_rfl
theorem ck_60 : chkG 60 = true := by kernel_rfl
theorem ck_61 : chkG 61 = true := by kernel_rfl
theorem ck_62 : chkG 62 = true := by kernel_rfl
theorem ck_63 : chkG 63 = true := by kernel_rfl
theorem ck_64 : chkG 64 = true := by kernel_rfl
theorem ck_65 : chkG 65 = true := by kernel_rfl
theorem ck_66 : chkG 66 = true := by kernel_rfl
theorem ck_67 : chkG 67 = true := by kernel_rfl
theorem ck_68 : chkG 68 = true := by kernel_rfl
theorem ck_69 : chkG 69 = true := by kernel_rfl
theorem ck_70 : chkG 70 = true := by kernel_rfl
theorem ck_71 : chkG 71 = true := by kernel_rfl
theorem ck_72 : chkG 72 = true := by kernel_rfl
theorem ck_73 : chkG 73 = true := by kernel_rfl
theorem ck_74 : chkG 74 = true := by kernel_rfl
theorem ck_75 : chkG 75 = true := by kernel_rfl
theorem ck_76 : chkG 76 = true := by kernel_rfl
theorem ck_77 : chkG 77 = true := by kernel_rfl
theorem ck_78 : chkG 78 = true := by kernel_rfl
theorem ck_79 : chkG 79 = true := by kernel_rfl
theorem ck_80 : chkG 80 = true := by kernel_rfl
theorem ck_81 : chkG 81 = true := by kernel_rfl
theorem ck_82 : chkG 82 = true := by kernel_rfl
theorem ck_83 : chkG 83 = true := by kernel_rfl
theorem ck_84 : chkG 84 = true := by kernel_rfl
theorem ck_85 : chkG 85 = true := by kernel_rfl
theorem ck_86 : chkG 86 = true := by kernel_rfl
theorem ck_87 : chkG 87 = true := by kernel_rfl
theorem ckZ (g : Nat) (h : g < 0) : chkG g = true := absurd h (Nat.not_lt_zero g)
theorem ckS {n : Nat} (p : ∀ g, g < n → chkG g = true) (q : chkG n = true) (g : Nat) (h : g < n + 1) : chkG g = true :=
  (Nat.lt_succ_iff_lt_or_eq.mp h).elim (p g) fun e => e ▸ q
theorem ck_ : ∀ g, g < 88 → chkG g = true :=
  ckS (ckS (ckS (ckS (ckS (ckS (ckS (ckS (ckS (ckS (ckS (ckS (ckS (ckS (ckS (ckS (ckS (ckS (ckS (ckS (ckS (ckS (ckS (ckS (ckS (ckS (ckS (ckS (ckS (ckS (ckS (ckS (ckS (ckS (ckS (ckS (ckS (ckS (ckS (ckS (ckS (ckS (ckS (ckS (ckS (ckS (ckS (ckS (ckS (ckS (ckS (ckS (ckS (ckS (ckS (ckS (ckS (ckS (ckS (ckS (ckS (ckS (ckS (ckS (ckS (ckS (ckS (ckS (ckS (ckS (ckS (ckS (ckS (ckS (ckS (ckS (ckS (ckS (ckS (ckS (ckS (ckS (ckS (ckS (ckS (ckS (ckS (ckS ckZ ck_0) ck_1) ck_2) ck_3) ck_4) ck_5) ck_6) ck_7) ck_8) ck_9) ck_10) ck_11) ck_12) ck_13) ck_14) ck_15) ck_16) ck_17) ck_18) ck_19) ck_20) ck_21) ck_22) ck_23) ck_24) ck_25) ck_26) ck_27) ck_28) ck_29) ck_30) ck_31) ck_32) ck_33) ck_34) ck_35) ck_36) ck_37) ck_38) ck_39) ck_40) ck_41) ck_42) ck_43) ck_44) ck_45) ck_46) ck_47) ck_48) ck_49) ck_50) ck_51) ck_52) ck_53) ck_54) ck_55) ck_56) ck_57) ck_58) ck_59) ck_60) ck_61) ck_62) ck_63) ck_64) ck_65) ck_66) ck_67) ck_68) ck_69) ck_70) ck_71) ck_72) ck_73) ck_74) ck_75) ck_76) ck_77) ck_78) ck_79) ck_80) ck_81) ck_82) ck_83) ck_84) ck_85) ck_86) ck_87
abbrev SK (w : World) := strKind pw w
noncomputable def isC (c : Nat) : Bool := Nat.ble 36 c && Nat.ble c 64
abbrev Fz := Addr → Obj → Prop
abbrev Hm := List (Addr × Addr)
section
variable (w : World) (fz : Fz) (hm : Hm)
mutual
inductive Rep : T → Value → Prop
  | none : Rep .none .none
  | bool (b : Bool) : Rep (.bool b) (.bool b)
  | int (i : Int) (t : Tok) : Rep (.int i) (.int i t)
  | sym (n : Nat) (t : Tok) : n < nsz → Rep (.sym n) (.str (sN n) t)
  | glob {g : Nat} {a : Addr} : gA[g]? = some a → Rep (.glob g) (.ref a)
  | bi {n : Nat} {v : Value} : biV n = some v → Rep (.bi n) v
  | tup {l : List T} {a : Addr} {o : Obj} {vs : Array Value} {n : Nat} : fz a o → o.cls = .type "tuple" → o.data = .seq vs n → RepL l vs.toList → Rep (.tup l) (.ref a)
  | lst {l : List T} {a : Addr} {o : Obj} {vs : Array Value} {n : Nat} : fz a o → o.cls = .type "list" → o.data = .seq vs n → RepL l vs.toList → Rep (.lst l) (.ref a)
  | dct {l : List (Nat × T)} {a : Addr} {o : Obj} {kvs : List (Str × Value)} : fz a o → (a == sysModules) = false → o.IsDictOf (SK w) kvs → RepD l kvs → Rep (.dct l) (.ref a)
  | inst {c : Nat} {l : List (Nat × T)} {x dx C : Addr} {es : List DictEntry} {n : Nat} {kvs : List (Str × Value)} : isC c = true → gA[c]? = some C → fz x (instObj C dx) → fz dx (dictOf es n) → Pairs (SK w) es kvs → (kvs.map (·.1)).Nodup →
      RepD l kvs → Rep (.inst c l) (.ref x)
  | lam {k : Nat} {l : LamI} {cl : List (Nat × T)} {f c' : Addr} {a : Arguments} {b : PySem.Expr} {s : Scope} {p : Pos} {q : Str} {clos : List (Str × Addr)} {pm ctv : Value} {oc : Obj} {vs : Array Value} {t : Tok} :
      lms[k]? = some l → lamOk q k l a s p = true → (∃ n, chkX n s (laQ k ++ (".<locals>." : Str)) l.body b = true) → fz f (kla_obj (Str.ofString "<lambda>") (laQ k) a b s clos pm c' ctv) →
      fz c' oc → oc.data = .fields vs → vs[1]? = some (.str (laQ k) t) → RepC cl clos → pick cl l.fr = some cl → Rep (.lam k cl) (.ref f)
  | own {i : Nat} {p : Addr × Addr} : hm[i]? = some p → Rep (.own i) (.ref p.1)
inductive RepL : List T → List Value → Prop
  | nil : RepL [] []
  | cons {t : T} {v : Value} {l : List T} {vs : List Value} : Rep t v → RepL l vs → RepL (t :: l) (v :: vs)
inductive RepD : List (Nat × T) → List (Str × Value) → Prop
  | nil : RepD [] []
  | cons {k : Nat} {t : T} {v : Value} {l : List (Nat × T)} {kvs : List (Str × Value)} : k < nsz → Rep t v → RepD l kvs → RepD ((k, t) :: l) ((sN k, v) :: kvs)
inductive RepC : List (Nat × T) → List (Str × Addr) → Prop
  | nil {clos : List (Str × Addr)} : RepC [] clos
  | cons {i : Nat} {t : T} {c : Addr} {o : Obj} {v : Value} {l : List (Nat × T)} {clos : List (Str × Addr)} : clos.lookup (sN i) = some c → fz c o → o.data = .cell (some v) → Rep t v → RepC l clos → RepC ((i, t) :: l) clos
end
end
section
variable {w : World} {fz : Fz} {hm : Hm} {P : Value → Prop} {v : Value}
noncomputable def RepI (w : World) (fz : Fz) (hm : Hm) (P : Value → Prop) (t : T) (v : Value) : Prop := match t with
  | .none => P .none → P v
  | .bool b => P (.bool b) → P v
  | .int i => (∀ t, P (.int i t)) → P v
  | .sym n => (∀ t, n < nsz → P (.str (sN n) t)) → P v
  | .glob g => (∀ a, gA[g]? = some a → P (.ref a)) → P v
  | .bi n => biV n = some v
  | .tup l => (∀ a o (vs : Array Value) n, fz a o → o.cls = .type "tuple" → o.data = .seq vs n → RepL w fz hm l vs.toList → P (.ref a)) → P v
  | .lst l => (∀ a o (vs : Array Value) n, fz a o → o.cls = .type "list" → o.data = .seq vs n → RepL w fz hm l vs.toList → P (.ref a)) → P v
  | .dct l => (∀ a o kvs, fz a o → (a == sysModules) = false → o.IsDictOf (SK w) kvs → RepD w fz hm l kvs → P (.ref a)) → P v
  | .own i => (∀ p, hm[i]? = some p → P (.ref p.1)) → P v
  | .inst c l => (∀ x dx C (es : List DictEntry) n kvs, isC c = true → gA[c]? = some C → fz x (instObj C dx) → fz dx (dictOf es n) → Pairs (SK w) es kvs → (kvs.map (·.1)).Nodup → RepD w fz hm l kvs → P (.ref x)) → P v
  | .lam k cl => (∀ l' f c' a b s p q (clos : List (Str × Addr)) pm ctv (oc : Obj) (vs : Array Value) t', lms[k]? = some l' → lamOk q k l' a s p = true → (∃ n, chkX n s (laQ k ++ (".<locals>." : Str)) l'.body b = true) → fz f (kla_obj (Str.ofString "<lambda>") (laQ k) a b s clos pm c' ctv) → fz c' oc → oc.data = .fields vs → vs[1]? = some (.str (laQ k) t') → RepC w fz hm cl clos → pick cl l'.fr = some cl → P (.ref f)) → P v
theorem Rep.inv {t : T} (P : Value → Prop) (r : Rep w fz hm t v) : RepI w fz hm P t v := by
  cases r with
  | none => exact id
  | bool => exact id
  | int i t => exact fun f => f t
  | sym n t h => exact fun f => f t h
  | glob h => exact fun f => f _ h
  | bi h => exact h
  | tup a b c d => exact fun f => f _ _ _ _ a b c d
  | lst a b c d => exact fun f => f _ _ _ _ a b c d
  | dct a b c d => exact fun f => f _ _ _ a b c d
  | own h => exact fun f => f _ h
  | inst a b c d e g i => exact fun f => f _ _ _ _ _ _ a b c d e g i
  | lam a b c d e g i j k => exact fun f => f _ _ _ _ _ _ _ _ _ _ _ _ _ _ a b c d e g i j k
@[elab_as_elim] theorem Rep.none_e (r : Rep w fz hm .none v) (f : P .none) : P v := r.inv P f
@[elab_as_elim] theorem Rep.bool_e {b : Bool} (r : Rep w fz hm (.bool b) v) (f : P (.bool b)) : P v := r.inv P f
@[elab_as_elim] theorem Rep.int_e {i : Int} (r : Rep w fz hm (.int i) v) (f : ∀ t, P (.int i t)) : P v := r.inv P f
@[elab_as_elim] theorem Rep.sym_e {n : Nat} (r : Rep w fz hm (.sym n) v) (f : ∀ t, n < nsz → P (.str (sN n) t)) : P v := r.inv P f
@[elab_as_elim] theorem Rep.glob_e {g : Nat} (r : Rep w fz hm (.glob g) v) (f : ∀ a, gA[g]? = some a → P (.ref a)) : P v := r.inv P f
theorem Rep.bi_i {n : Nat} (r : Rep w fz hm (.bi n) v) : biV n = some v := r.inv fun _ => True
@[elab_as_elim] theorem Rep.tup_e {l : List T} (r : Rep w fz hm (.tup l) v) (f : ∀ a o (vs : Array Value) n, fz a o → o.cls = .type "tuple" → o.data = .seq vs n → RepL w fz hm l vs.toList → P (.ref a)) : P v := r.inv P f
@[elab_as_elim] theorem Rep.lst_e {l : List T} (r : Rep w fz hm (.lst l) v) (f : ∀ a o (vs : Array Value) n, fz a o → o.cls = .type "list" → o.data = .seq vs n → RepL w fz hm l vs.toList → P (.ref a)) : P v := r.inv P f
@[elab_as_elim] theorem Rep.dct_e {l : List (Nat × T)} (r : Rep w fz hm (.dct l) v) (f : ∀ a o kvs, fz a o → (a == sysModules) = false → o.IsDictOf (SK w) kvs → RepD w fz hm l kvs → P (.ref a)) : P v := r.inv P f
@[elab_as_elim] theorem Rep.inst_e {c : Nat} {l : List (Nat × T)} (r : Rep w fz hm (.inst c l) v) (f : ∀ x dx C (es : List DictEntry) n kvs, isC c = true → gA[c]? = some C → fz x (instObj C dx) → fz dx (dictOf es n) → Pairs (SK w) es kvs → (kvs.map (·.1)).Nodup → RepD w fz hm l kvs → P (.ref x)) : P v := r.inv P f
@[elab_as_elim] theorem Rep.lam_e {k : Nat} {cl : List (Nat × T)} (r : Rep w fz hm (.lam k cl) v) (f : ∀ l' f c' a b s p q (clos : List (Str × Addr)) pm ctv (oc : Obj) (vs : Array Value) t', lms[k]? = some l' → lamOk q k l' a s p = true → (∃ n, chkX n s (laQ k ++ (".<locals>." : Str)) l'.body b = true) → fz f (kla_obj (Str.ofString "<lambda>") (laQ k) a b s clos pm c' ctv) → fz c' oc → oc.data = .fields vs → vs[1]? = some (.str (laQ k) t') → RepC w fz hm cl clos → pick cl l'.fr = some cl → P (.ref f)) : P v := r.inv P f
@[elab_as_elim] theorem Rep.own_e {i : Nat} (r : Rep w fz hm (.own i) v) (f : ∀ p, hm[i]? = some p → P (.ref p.1)) : P v := r.inv P f
end
section
variable {w : World} {fz : Fz} {hm : Hm} {P : List Value → Prop} {vs : List Value}
noncomputable def RepLI (w : World) (fz : Fz) (hm : Hm) (P : List Value → Prop) (l : List T) (vs : List Value) : Prop := match l with
  | [] => P [] → P vs
  | t :: l => (∀ v vs, Rep w fz hm t v → RepL w fz hm l vs → P (v :: vs)) → P vs
theorem RepL.inv {l : List T} (P : List Value → Prop) (r : RepL w fz hm l vs) : RepLI w fz hm P l vs := by
  cases r with
  | nil => exact id
  | cons a b => exact fun f => f _ _ a b
@[elab_as_elim] theorem RepL.nil_e (r : RepL w fz hm [] vs) (f : P []) : P vs := r.inv P f
@[elab_as_elim] theorem RepL.cons_e {t : T} {l : List T} (r : RepL w fz hm (t :: l) vs) (f : ∀ v vs, Rep w fz hm t v → RepL w fz hm l vs → P (v :: vs)) : P vs := r.inv P f
@[elab_as_elim] theorem RepL.e1 {t : T} (r : RepL w fz hm [t] vs) (f : ∀ v, Rep w fz hm t v → P [v]) : P vs := r.inv P fun v _ a r => r.inv (fun vs => P (v :: vs)) (f v a)
@[elab_as_elim] theorem RepL.e2 {t u : T} (r : RepL w fz hm [t, u] vs) (f : ∀ v x, Rep w fz hm t v → Rep w fz hm u x → P [v, x]) : P vs := r.inv P fun v _ a r => RepL.e1 (P := fun vs => P (v :: vs)) r fun x b => f v x a b
end
section
variable {w : World} {fz : Fz} {hm : Hm} {P : List (Str × Value) → Prop} {kvs : List (Str × Value)}
noncomputable def RepDI (w : World) (fz : Fz) (hm : Hm) (P : List (Str × Value) → Prop) (l : List (Nat × T)) (kvs : List (Str × Value)) : Prop := match l with
  | [] => P [] → P kvs
  | p :: l => (∀ v kvs, p.1 < nsz → Rep w fz hm p.2 v → RepD w fz hm l kvs → P ((sN p.1, v) :: kvs)) → P kvs
theorem RepD.inv {l : List (Nat × T)} (P : List (Str × Value) → Prop) (r : RepD w fz hm l kvs) : RepDI w fz hm P l kvs := by
  cases r with
  | nil => exact id
  | cons a b c => exact fun f => f _ _ a b c
@[elab_as_elim] theorem RepD.nil_e (r : RepD w fz hm [] kvs) (f : P []) : P kvs := r.inv P f
@[elab_as_elim] theorem RepD.cons_e {p : Nat × T} {l : List (Nat × T)} (r : RepD w fz hm (p :: l) kvs) (f : ∀ v kvs, p.1 < nsz → Rep w fz hm p.2 v → RepD w fz hm l kvs → P ((sN p.1, v) :: kvs)) : P kvs := r.inv P f
theorem RepC.inv {p : Nat × T} {l : List (Nat × T)} {clos : List (Str × Addr)} (r : RepC w fz hm (p :: l) clos) : (∃ c o v, clos.lookup (sN p.1) = some c ∧ fz c o ∧ o.data = .cell (some v) ∧ Rep w fz hm p.2 v) ∧ RepC w fz hm l clos := by
  cases r with
  | cons h1 h2 h3 x r => exact ⟨⟨_, _, _, h1, h2, h3, x⟩, r⟩
theorem nbeq_ne {j k : Nat} (q : Nat.beq j k = false) : j ≠ k := fun e => by rw [e, Nat.beq_refl] at q; exact nT q.symm
end
section
variable {w : World} {fz fz' : Fz} {hm hm' : Hm}
theorem Rep.mono (hf : ∀ a o, fz a o → fz' a o) (hh : ∀ (i : Nat) (p : Addr × Addr), hm[i]? = some p → hm'[i]? = some p) {t : T} {v : Value} (h : Rep w fz hm t v) : Rep w fz' hm' t v :=
  Rep.rec (motive_1 := fun t v _ => Rep w fz' hm' t v) (motive_2 := fun l vs _ => RepL w fz' hm' l vs) (motive_3 := fun l vs _ => RepD w fz' hm' l vs) (motive_4 := fun l vs _ => RepC w fz' hm' l vs)
    .none .bool .int (fun n t h => .sym n t h) (fun h => .glob h) (fun h => .bi h)
    (fun h1 h2 h3 _ ih => .tup (hf _ _ h1) h2 h3 ih) (fun h1 h2 h3 _ ih => .lst (hf _ _ h1) h2 h3 ih) (fun h1 h0 h2 _ ih => .dct (hf _ _ h1) h0 h2 ih)
    (fun h0 h1 h2 h3 h4 h5 _ ih => .inst h0 h1 (hf _ _ h2) (hf _ _ h3) h4 h5 ih) (fun h0 h1 h2 h3 h4 h5 h6 _ h7 ih => .lam h0 h1 h2 (hf _ _ h3) (hf _ _ h4) h5 h6 ih h7) (fun h => .own (hh _ _ h))
    .nil (fun _ _ ih1 ih2 => .cons ih1 ih2) .nil (fun h _ _ ih1 ih2 => .cons h ih1 ih2) .nil (fun h1 h2 h3 _ _ ih1 ih2 => .cons h1 (hf _ _ h2) h3 ih1 ih2) h
theorem RepL.mono (hf : ∀ a o, fz a o → fz' a o) (hh : ∀ (i : Nat) (p : Addr × Addr), hm[i]? = some p → hm'[i]? = some p) {l : List T} {vs : List Value} (h : RepL w fz hm l vs) : RepL w fz' hm' l vs := by
  induction l generalizing vs with
  | nil => exact h.nil_e .nil
  | cons t l ih => exact h.cons_e fun _ _ x r => .cons (x.mono hf hh) (ih r)
theorem RepD.mono (hf : ∀ a o, fz a o → fz' a o) (hh : ∀ (i : Nat) (p : Addr × Addr), hm[i]? = some p → hm'[i]? = some p) {l : List (Nat × T)} {vs : List (Str × Value)} (h : RepD w fz hm l vs) : RepD w fz' hm' l vs := by
  induction l generalizing vs with
  | nil => exact h.nil_e .nil
  | cons t l ih => exact h.cons_e fun _ _ k x r => .cons k (x.mono hf hh) (ih r)
theorem RepC.mono (hf : ∀ a o, fz a o → fz' a o) (hh : ∀ (i : Nat) (p : Addr × Addr), hm[i]? = some p → hm'[i]? = some p) {l : List (Nat × T)} {vs : List (Str × Addr)} (h : RepC w fz hm l vs) : RepC w fz' hm' l vs := by
  induction l with
  | nil => exact .nil
  | cons t l ih => exact let ⟨⟨_, _, _, h1, h2, h3, x⟩, r⟩ := h.inv; .cons h1 (hf _ _ h2) h3 (x.mono hf hh) (ih r)
theorem RepL.length {l : List T} {vs : List Value} (h : RepL w fz hm l vs) : l.length = vs.length := by
  induction l generalizing vs with
  | nil => exact h.nil_e rfl
  | cons t l ih => exact h.cons_e fun _ _ _ r => congrArg (· + 1) (ih r)
theorem RepL.append {l l' : List T} {vs vs' : List Value} (h : RepL w fz hm l vs) (h' : RepL w fz hm l' vs') : RepL w fz hm (l ++ l') (vs ++ vs') := by
  induction l generalizing vs with
  | nil => exact h.nil_e h'
  | cons t l ih => exact h.cons_e fun _ _ x r => .cons x (ih r)
theorem RepL.get {l : List T} {vs : List Value} (h : RepL w fz hm l vs) {i : Nat} {t : T} (e : l[i]? = some t) : ∃ v, vs[i]? = some v ∧ Rep w fz hm t v := by
  induction l generalizing vs i with
  | nil => exact nS e
  | cons u l ih =>
    refine h.cons_e fun v vs x r => ?_
    cases i with
    | zero => cases e; exact ⟨_, rfl, x⟩
    | succ i => exact ih r e
theorem RepL.set {l : List T} {vs : List Value} (h : RepL w fz hm l vs) (i : Nat) {t : T} {v : Value} (x : Rep w fz hm t v) : RepL w fz hm (l.set i t) (vs.set i v) := by
  induction l generalizing vs i with
  | nil => exact h.nil_e .nil
  | cons u l ih =>
    refine h.cons_e fun _ _ y r => ?_
    cases i with
    | zero => exact .cons x r
    | succ i => exact .cons y (ih r i)
theorem RepL.drop {l : List T} {vs : List Value} (h : RepL w fz hm l vs) (i : Nat) : RepL w fz hm (l.drop i) (vs.drop i) := by
  induction l generalizing vs i with
  | nil => refine h.nil_e ?_; rw [List.drop_nil, List.drop_nil]; exact .nil
  | cons u l ih =>
    refine h.cons_e fun _ _ y r => ?_
    cases i with
    | zero => exact .cons y r
    | succ i => exact ih r i
theorem RepL.reverse {l : List T} {vs : List Value} (h : RepL w fz hm l vs) : RepL w fz hm l.reverse vs.reverse := by
  induction l generalizing vs with
  | nil => exact h.nil_e .nil
  | cons u l ih => exact h.cons_e fun _ _ y r => by rw [List.reverse_cons, List.reverse_cons]; exact (ih r).append (.cons y .nil)
theorem valueAt_cons (a : Str) (v : Value) (kvs : List (Str × Value)) (k : Str) : valueAt ((a, v) :: kvs) k = if a = k then some v else valueAt kvs k := by
  unfold valueAt
  rw [List.find?_cons]
  by_cases h : a = k
  · rw [if_pos h, decide_eq_true h]; rfl
  · rw [if_neg h, decide_eq_false h]
theorem RepD.lk {l : List (Nat × T)} {kvs : List (Str × Value)} (h : RepD w fz hm l kvs) {k : Nat} (hk : k < nsz) : match lk l k with
    | some t => ∃ v, valueAt kvs (sN k) = some v ∧ Rep w fz hm t v
    | none => valueAt kvs (sN k) = none := by
  induction l generalizing kvs with
  | nil => exact h.nil_e (P := fun kvs => valueAt kvs (sN k) = none) rfl
  | cons p l ih =>
    obtain ⟨j, t⟩ := p
    refine h.cons_e (P := fun kvs => match (match Nat.beq j k with | true => some t | false => Mine.lk l k) with | some t => ∃ v, valueAt kvs (sN k) = some v ∧ Rep w fz hm t v | none => valueAt kvs (sN k) = none) fun v kvs hj x r => ?_
    rw [valueAt_cons]
    cases q : Nat.beq j k with
    | true => rw [if_pos (congrArg sN (Nat.eq_of_beq_eq_true q))]; exact ⟨v, rfl, x⟩
    | false => rw [if_neg fun z => nbeq_ne q (sN_inj hj hk z)]; exact ih r
theorem RepD.some {l : List (Nat × T)} {kvs : List (Str × Value)} (h : RepD w fz hm l kvs) {k : Nat} (hk : k < nsz) {t : T} (e : Mine.lk l k = some t) : ∃ v, valueAt kvs (sN k) = some v ∧ Rep w fz hm t v := by
  have := h.lk hk; rw [e] at this; exact this
theorem RepD.none {l : List (Nat × T)} {kvs : List (Str × Value)} (h : RepD w fz hm l kvs) {k : Nat} (hk : k < nsz) (e : Mine.lk l k = none) : valueAt kvs (sN k) = none := by
  have := h.lk hk; rw [e] at this; exact this
theorem RepD.isSm {l : List (Nat × T)} {kvs : List (Str × Value)} (h : RepD w fz hm l kvs) {k : Nat} (hk : k < nsz) : (valueAt kvs (sN k)).isSome = isSm (Mine.lk l k) := by
  have := h.lk hk
  cases e : Mine.lk l k with
  | none => rw [e] at this; rw [this]; rfl
  | some t => rw [e] at this; obtain ⟨v, q, _⟩ := this; rw [q]; rfl
theorem RepD.length {l : List (Nat × T)} {kvs : List (Str × Value)} (h : RepD w fz hm l kvs) : l.length = kvs.length := by
  induction l generalizing kvs with
  | nil => exact h.nil_e rfl
  | cons p l ih => exact h.cons_e fun _ _ _ _ r => congrArg (· + 1) (ih r)
theorem stored_cons (a : Str) (u : Value) (kvs : List (Str × Value)) (k : Str) (v : Value) (hn : (((a, u) :: kvs).map (·.1)).Nodup) :
    stored ((a, u) :: kvs) k v = if a = k then (a, v) :: kvs else (a, u) :: stored kvs k v := by
  unfold stored
  by_cases h : a = k
  · subst h
    rw [List.map_cons, List.nodup_cons] at hn
    simp only [List.any_cons, decide_true, Bool.true_or, if_true, List.map_cons]
    rw [map_store_of_not_mem kvs _ v hn.1]
  · simp only [List.any_cons, decide_eq_false h, Bool.false_or, if_neg h, List.map_cons]
    split <;> rfl
theorem nodup_stored {kvs : List (Str × Value)} (hn : (kvs.map (·.1)).Nodup) (k : Str) (v : Value) : ((stored kvs k v).map (·.1)).Nodup := by
  unfold stored
  split
  · rw [keys_map_store]; exact hn
  · rename_i h
    rw [List.map_append, List.nodup_append]
    refine ⟨hn, by simp, fun a ha b hb => ?_⟩
    simp only [List.map_cons, List.map_nil, List.mem_singleton] at hb
    subst hb
    intro e
    subst e
    apply h
    obtain ⟨kv, hkv, e⟩ := List.mem_map.mp ha
    exact List.any_eq_true.mpr ⟨kv, hkv, decide_eq_true e⟩
theorem RepD.put {l : List (Nat × T)} {kvs : List (Str × Value)} (h : RepD w fz hm l kvs) (hn : (kvs.map (·.1)).Nodup) {k : Nat} (hk : k < nsz) {t : T} {v : Value} (x : Rep w fz hm t v) : RepD w fz hm (pt l k t) (stored kvs (sN k) v) := by
  induction l generalizing kvs with
  | nil => exact h.nil_e (P := fun kvs => RepD w fz hm [(k, t)] (stored kvs (sN k) v)) (.cons hk x .nil)
  | cons p l ih =>
    obtain ⟨j, u⟩ := p
    revert hn
    refine h.cons_e (P := fun kvs => (kvs.map (·.1)).Nodup → RepD w fz hm (match Nat.beq j k with | true => (j, t) :: l | false => (j, u) :: pt l k t) (stored kvs (sN k) v)) fun y kvs hj z r hn => ?_
    rw [stored_cons _ _ _ _ _ hn]
    cases q : Nat.beq j k with
    | true => rw [if_pos (congrArg sN (Nat.eq_of_beq_eq_true q))]; exact .cons hj x r
    | false => rw [if_neg fun z => nbeq_ne q (sN_inj hj hk z)]; exact .cons hj z (ih r (List.nodup_cons.mp hn).2)
theorem RepC.lk {l : List (Nat × T)} {clos : List (Str × Addr)} (h : RepC w fz hm l clos) {k : Nat} {t : T} (e : lk l k = some t) : ∃ c o v, clos.lookup (sN k) = some c ∧ fz c o ∧ o.data = .cell (some v) ∧ Rep w fz hm t v := by
  induction l with
  | nil => exact nS e
  | cons p l ih =>
    obtain ⟨j, u⟩ := p
    have e' : (match Nat.beq j k with | true => Option.some u | false => Mine.lk l k) = Option.some t := e
    cases q : Nat.beq j k with
    | true => rw [q] at e'; cases e'; exact Nat.eq_of_beq_eq_true q ▸ h.inv.1
    | false => rw [q] at e'; exact ih h.inv.2 e'
end
noncomputable def tA : List Addr := [1072, 1136, 1150]
noncomputable def Mt (hm : Hm) (a : Addr) : Prop := a ∈ hm.map (·.2) ∨ a ∈ tA
section
variable (w : World)
noncomputable def CellO (fz : Fz) (hm : Hm) (p : Addr × Addr) (o : Obj) : Cell → Prop
  | .lst l => p.1 = p.2 ∧ o.cls = .type "list" ∧ ∃ vs n, o.data = .seq vs n ∧ RepL w fz hm l vs.toList ∧ o.dict = none ∧ o.slots = #[]
  | .dct l => p.1 = p.2 ∧ (p.1 == sysModules) = false ∧ ∃ kvs, o.IsDictOf (SK w) kvs ∧ RepD w fz hm l kvs
  | .inst c l => isC c = true ∧ ∃ C es n kvs, gA[c]? = some C ∧ fz p.1 (instObj C p.2) ∧ o = dictOf es n ∧ Pairs (SK w) es kvs ∧ (kvs.map (·.1)).Nodup ∧ RepD w fz hm l kvs
noncomputable def TabO (fz : Fz) (k : Nat) (o : Obj) : Prop := ∃ ps : Array Value, o = tabObj ps ∧ (ps = #[] ∨ ∃ c' oc vs t, ps = #[rawInt (laAt k).1, rawInt (laAt k).2, .ref c'] ∧ fz c' oc ∧ oc.data = .fields vs ∧ vs[1]? = some (.str (laQ k) t))
structure W (h₀ : Heap) (L : Addr) (h : Heap) (fz : Fz) (hm : Hm) (σ : Sg) : Prop where
  len : hm.length = σ.length
  fzo : ∀ a o, fz a o → h.get? a = some o
  fzm : ∀ a o, fz a o → ¬ Mt hm a
  nd : (hm.map (·.2) ++ tA).Nodup
  cell : ∀ (i : Nat) (c : Cell) (p : Addr × Addr), σ[i]? = some c → hm[i]? = some p → ∃ o, h.get? p.2 = some o ∧ CellO w fz hm p o c
  mt : ∀ a, Mt hm a → a ≠ L ∧ h₀.get? a = none
  tab : ∀ (k : Nat) (a : Addr), tA[k]? = some a → ∃ o, h.get? a = some o ∧ TabO fz k o
structure Ext (h : Heap) (fz : Fz) (hm : Hm) (h' : Heap) (fz' : Fz) (hm' : Hm) : Prop where
  keep : ∀ b o, h.get? b = some o → ¬ Mt hm b → h'.get? b = some o
  sub : ∀ a o, fz a o → fz' a o
  new : ∀ a o, fz' a o → fz a o ∨ h.get? a = none
  hmx : ∃ more : Hm, hm' = hm ++ more ∧ ∀ p ∈ more, h.get? p.2 = none
  dom : ∀ b, h'.get? b = none → h.get? b = none
end
section
variable {w : World} {h₀ h h' h'' : Heap} {L : Addr} {fz fz' fz'' : Fz} {hm hm' hm'' : Hm} {σ : Sg} {m : Str → Option Value}
theorem Ext.refl (h : Heap) (fz : Fz) (hm : Hm) : Ext h fz hm h fz hm := ⟨fun _ _ e _ => e, fun _ _ e => e, fun _ _ e => .inl e, ⟨[], by simp, fun _ e => nomatch e⟩, fun _ e => e⟩
theorem Ext.hmi (x : Ext h fz hm h' fz' hm') : ∀ (i : Nat) (p : Addr × Addr), hm[i]? = some p → hm'[i]? = some p := fun i p e => by
  obtain ⟨more, rfl, _⟩ := x.hmx
  obtain ⟨hi, _⟩ := List.getElem?_eq_some_iff.mp e
  rw [List.getElem?_append_left hi]; exact e
theorem Ext.mt (x : Ext h fz hm h' fz' hm') {a : Addr} (hn : h.get? a ≠ none) (hm1 : ¬ Mt hm a) : ¬ Mt hm' a := by
  obtain ⟨more, rfl, hf⟩ := x.hmx
  rintro (e | e)
  · rw [List.map_append] at e
    rcases List.mem_append.mp e with e | e
    · exact hm1 (.inl e)
    · obtain ⟨p, hp, rfl⟩ := List.mem_map.mp e
      exact hn (hf p hp)
  · exact hm1 (.inr e)
theorem Ext.trans (x : Ext h fz hm h' fz' hm') (y : Ext h' fz' hm' h'' fz'' hm'') : Ext h fz hm h'' fz'' hm'' := by
  refine ⟨fun b o e q => y.keep b o (x.keep b o e q) (x.mt (by rw [e]; exact fun z => nomatch z) q), fun a o e => y.sub _ _ (x.sub _ _ e), fun a o e => ?_, ?_, fun b e => x.dom b (y.dom b e)⟩
  · rcases y.new a o e with e | e
    · exact x.new a o e
    · exact .inr (x.dom a e)
  · obtain ⟨m1, rfl, f1⟩ := x.hmx
    obtain ⟨m2, rfl, f2⟩ := y.hmx
    refine ⟨m1 ++ m2, by rw [List.append_assoc], fun p hp => ?_⟩
    rcases List.mem_append.mp hp with hp | hp
    · exact f1 p hp
    · exact x.dom _ (f2 p hp)
theorem Ext.rep (x : Ext h fz hm h' fz' hm') {t : T} {v : Value} (r : Rep w fz hm t v) : Rep w fz' hm' t v := r.mono x.sub x.hmi
theorem CellO.mono (hf : ∀ a o, fz a o → fz' a o) (hh : ∀ (i : Nat) (p : Addr × Addr), hm[i]? = some p → hm'[i]? = some p) {p : Addr × Addr} {o : Obj} {c : Cell} (x : CellO w fz hm p o c) : CellO w fz' hm' p o c := by
  cases c with
  | lst l => obtain ⟨a, b, vs, n, d, r, nd⟩ := x; exact ⟨a, b, vs, n, d, r.mono hf hh, nd⟩
  | dct l => obtain ⟨a, b, kvs, d, r⟩ := x; exact ⟨a, b, kvs, d, r.mono hf hh⟩
  | inst c l => obtain ⟨z, C, es, n, kvs, a, b, d, e, f, r⟩ := x; exact ⟨z, C, es, n, kvs, a, hf _ _ b, d, e, f, r.mono hf hh⟩
theorem TabO.mono (hf : ∀ a o, fz a o → fz' a o) {k : Nat} {o : Obj} (x : TabO fz k o) : TabO fz' k o := by
  obtain ⟨ps, a, b⟩ := x
  exact ⟨ps, a, b.imp id fun ⟨c', oc, vs, t, e, f, g⟩ => ⟨c', oc, vs, t, e, hf _ _ f, g⟩⟩
theorem Fr.ext (F : Fr h₀ L h m) (x : Ext h fz hm h' fz' hm') (hmt : ∀ a, Mt hm a → a ≠ L ∧ h₀.get? a = none) : Fr h₀ L h' m := by
  obtain ⟨o, es, ep, e, r⟩ := F.ns
  refine ⟨⟨o, es, ep, x.keep _ _ e fun q => (hmt _ q).1 rfl, r⟩, fun b o e => x.keep _ _ (F.keep b o e) fun q => ?_, F.above⟩
  rw [(hmt _ q).2] at e; cases e
theorem Fr.lt_base (F : Fr h₀ L h m) {a : Addr} (e : h.get? a = none) : h₀.get? a = none := by
  cases q : h₀.get? a with
  | none => rfl
  | some o => rw [F.keep _ _ q] at e; cases e
theorem ext_push (h : Heap) (fz : Fz) (hm : Hm) (o : Obj) (hf : o.isFreed = false) : Ext h fz hm (h.push o) (fun a p => fz a p ∨ (a = h.objs.size ∧ p = o)) hm := by
  refine ⟨fun b o' e _ => Heap.get?_push_of_some _ e, fun a o' e => .inl e, fun a o' e => e.imp id fun e => ?_, ⟨[], by simp, fun _ e => nomatch e⟩, fun b e => ?_⟩
  · cases q : h.get? a with
    | none => rfl
    | some z => have := Heap.lt_size q; rw [e.1] at this; exact absurd this (Nat.lt_irrefl _)
  · cases q : h.get? b with
    | none => rfl
    | some z => rw [Heap.get?_push_of_some _ q] at e; cases e
theorem get_none_size (h : Heap) : h.get? h.objs.size = none := by
  cases q : h.get? h.objs.size with
  | none => rfl
  | some z => exact absurd (Heap.lt_size q) (Nat.lt_irrefl _)
theorem W.push (x : W w h₀ L h fz hm σ) (o : Obj) (hf : o.isFreed = false) : W w h₀ L (h.push o) (fun a p => fz a p ∨ (a = h.objs.size ∧ p = o)) hm σ := by
  refine ⟨x.len, fun a p e => ?_, fun a p e => ?_, x.nd, fun i c p e1 e2 => ?_, x.mt, fun k a e => ?_⟩
  · rcases e with e | ⟨rfl, rfl⟩
    · exact Heap.get?_push_of_some _ (x.fzo _ _ e)
    · exact Heap.get?_push_size _ hf
  · rcases e with e | ⟨rfl, rfl⟩
    · exact x.fzm _ _ e
    · rintro (q | q)
      · obtain ⟨p, hp, e⟩ := List.mem_map.mp q
        obtain ⟨i, hi⟩ := List.getElem?_of_mem hp
        have : i < σ.length := by have := x.len; obtain ⟨z, _⟩ := List.getElem?_eq_some_iff.mp hi; lia
        obtain ⟨o', g, _⟩ := x.cell i σ[i] p (by simp [this]) hi
        rw [e, get_none_size] at g; cases g
      · obtain ⟨k, hk⟩ := List.getElem?_of_mem q
        obtain ⟨o', g, _⟩ := x.tab k _ hk
        rw [get_none_size] at g; cases g
  · obtain ⟨o', g, r⟩ := x.cell i c p e1 e2
    exact ⟨o', Heap.get?_push_of_some _ g, r.mono (fun _ _ => .inl) fun _ _ e => e⟩
  · obtain ⟨o', g, r⟩ := x.tab k a e
    exact ⟨o', Heap.get?_push_of_some _ g, r.mono fun _ _ => .inl⟩
theorem W.keeps (x : W w h₀ L h fz hm σ) (k : ∀ b o, h.get? b = some o → h'.get? b = some o) : W w h₀ L h' fz hm σ :=
  ⟨x.len, fun a p e => k _ _ (x.fzo _ _ e), x.fzm, x.nd, fun i c p e1 e2 => let ⟨o, g, r⟩ := x.cell i c p e1 e2; ⟨o, k _ _ g, r⟩, x.mt, fun i a e => let ⟨o, g, r⟩ := x.tab i a e; ⟨o, k _ _ g, r⟩⟩
theorem Ext.keeps (fz : Fz) (hm : Hm) (k : ∀ b o, h.get? b = some o → h'.get? b = some o) : Ext h fz hm h' fz hm :=
  ⟨fun b o e _ => k _ _ e, fun _ _ e => e, fun _ _ e => .inl e, ⟨[], by simp, fun _ e => nomatch e⟩, fun b e => by
    cases q : h.get? b with
    | none => rfl
    | some o => rw [k _ _ q] at e; cases e⟩
theorem W.ne_cell (x : W w h₀ L h fz hm σ) {i j : Nat} {p q : Addr × Addr} (hi : hm[i]? = some p) (hj : hm[j]? = some q) (ne : i ≠ j) : p.2 ≠ q.2 := fun e => by
  have n := (List.nodup_append.mp x.nd).1
  obtain ⟨li, ei⟩ := List.getElem?_eq_some_iff.mp hi
  obtain ⟨lj, ej⟩ := List.getElem?_eq_some_iff.mp hj
  apply ne
  refine (List.getElem_inj (i := i) (j := j) (h₀ := by rw [List.length_map]; exact li) (h₁ := by rw [List.length_map]; exact lj) n).mp ?_
  rw [List.getElem_map, List.getElem_map, ei, ej]; exact e
theorem W.cell_mt (x : W w h₀ L h fz hm σ) {i : Nat} {p : Addr × Addr} (hi : hm[i]? = some p) : Mt hm p.2 := .inl (List.mem_map.mpr ⟨p, List.mem_of_getElem? hi, rfl⟩)
theorem W.cell_tab (x : W w h₀ L h fz hm σ) {i k : Nat} {p : Addr × Addr} {a : Addr} (hi : hm[i]? = some p) (hk : tA[k]? = some a) : p.2 ≠ a := fun e => by
  have n := (List.nodup_append.mp x.nd).2.2
  exact n p.2 (List.mem_map.mpr ⟨p, List.mem_of_getElem? hi, rfl⟩) a (List.mem_of_getElem? hk) e
theorem W.setCell (x : W w h₀ L h fz hm σ) {i : Nat} {c : Cell} {p : Addr × Addr} {o : Obj} (hi : i < σ.length) (hp : hm[i]? = some p) (hs : Heap.SameBut p.2 h h') (ho : h'.get? p.2 = some o) (r : CellO w fz hm p o c) :
    W w h₀ L h' fz hm (σ.set i c) := by
  refine ⟨by rw [List.length_set]; exact x.len, fun a o' e => ?_, x.fzm, x.nd, fun j d q e1 e2 => ?_, x.mt, fun k a e => ?_⟩
  · exact (hs.2 a fun q => x.fzm _ _ e (q ▸ x.cell_mt hp)).trans (x.fzo _ _ e)
  · by_cases e : i = j
    · subst e
      rw [hp] at e2; cases e2
      rw [List.getElem?_set_self hi] at e1; cases e1
      exact ⟨o, ho, r⟩
    · rw [List.getElem?_set_ne e] at e1
      obtain ⟨o', g, r'⟩ := x.cell j d q e1 e2
      exact ⟨o', (hs.2 _ (x.ne_cell e2 hp (Ne.symm e))).trans g, r'⟩
  · obtain ⟨o', g, r'⟩ := x.tab k a e
    exact ⟨o', (hs.2 _ (Ne.symm (x.cell_tab hp e))).trans g, r'⟩
theorem Ext.setCell (fz : Fz) {i : Nat} {p : Addr × Addr} (hp : hm[i]? = some p) (hs : Heap.SameBut p.2 h h') (hn : h'.get? p.2 ≠ none) : Ext h fz hm h' fz hm :=
  ⟨fun b o e q => (hs.2 b fun z => q (z ▸ .inl (List.mem_map.mpr ⟨p, List.mem_of_getElem? hp, rfl⟩))).trans e, fun _ _ e => e, fun _ _ e => .inl e, ⟨[], by simp, fun _ e => nomatch e⟩, fun b e => by
    by_cases q : b = p.2
    · subst q; exact absurd e hn
    · rw [← hs.2 b q]; exact e⟩
end
theorem subscripted_plain {sl : PySem.Expr} (hs : notSl sl = true) (o i : Value) : subscripted sl false o i = operate [o, i] (getItem o i) := by cases sl <;> first | rfl | cases hs
theorem fz_tup {h : Heap} {a : Addr} {o : Obj} {vs : Array Value} {n : Nat} (g : h.get? a = some o) (c : o.cls = .type "tuple") (e : o.data = .seq vs n) : IsTup h a vs := ⟨o, g, c, n, e⟩
theorem fz_lst {h : Heap} {a : Addr} {o : Obj} {vs : Array Value} {n : Nat} (g : h.get? a = some o) (c : o.cls = .type "list") (e : o.data = .seq vs n) : h.IsList a vs := ⟨o, g, c, n, e⟩
theorem seqIndex_nat {k n : Nat} (hk : k < n) : seqIndex? (Int.ofNat k) n = some k := by
  unfold seqIndex?
  have h0 : ¬ ((k : Int) < 0) := by lia
  simp only [Int.ofNat_eq_natCast, if_neg h0]
  rw [if_pos (by simp only [Bool.and_eq_true, decide_eq_true_eq]; constructor <;> lia)]
  simp
theorem i0 (k : Nat) : (0 : Int) ≤ Int.ofNat k := Int.natCast_nonneg k
theorem i063 (k : Nat) : (-(2 ^ 63) : Int) ≤ Int.ofNat k := by have := i0 k; lia
theorem i63 {k : Nat} (h : k < 1000000) : Int.ofNat k < 2 ^ 63 := by rw [Int.ofNat_eq_natCast]; lia
noncomputable def Res (w : World) (h₀ : Heap) (L : Addr) (g : Array GenState) (d : Drawn) (os : OsState) (h : Heap) (fz : Fz) (hm : Hm) (Q : Value → Shared → Prop) (K : T → Sg → Prop) : Prop :=
  ∀ t v h' tk' fz' hm' σ', K t σ' → Rep w fz' hm' t v → W w h₀ L h' fz' hm' σ' → Ext h fz hm h' fz' hm' → Q v ⟨h', g, d, tk', os⟩
section
variable {w : World} {A : Around} {E : Value → Shared → Prop} {g : Array GenState} {d : Drawn} {tk : Nat} {os : OsState} {h₀ h : Heap} {L : Addr} {m : Str → Option Value} {fz : Fz} {hm : Hm} {σ : Sg}
theorem op_idx {value slice : PySem.Expr} {v j : T} {vv vj : Value} {K : T → Prop} {Q : Value → Shared → Prop} (X : W w h₀ L h fz hm σ) (hv : Rep w fz hm v vv) (hj : Rep w fz hm j vj) (hs : notSl slice = true) (he : idxP v j σ K)
    (hQ : Res w h₀ L g d os h fz hm Q fun t σ' => K t ∧ σ' = σ) : wpAny (model pw w) A (subscriptTail value slice vv vj) Q E ⟨h, g, d, tk, os⟩ := by
  revert hj
  cases v with
  | tup l =>
    refine tInt_e he fun i he => nP_e he fun k he => oP_e he fun t' e he hj => ?_
    refine hv.tup_e fun a o vs n h1 h2 h3 h4 => hj.int_e fun t => ?_
    obtain ⟨x, e', r⟩ := h4.get e
    have hlt := (List.getElem?_eq_some_iff.mp e').1
    exact tail_any (T := "tuple") ⟨_, X.fzo _ _ h1, h2⟩ slot_tuple_getitem.lookup (getItem_tuple (fz_tup (X.fzo _ _ h1) h2 h3) (i063 k) (i63 he.1) (seqIndex_nat (by simpa using hlt)) (by simpa using e') (hQ _ _ _ _ _ _ _ ⟨he.2, rfl⟩ r X (Ext.refl ..))) (subscripted_plain hs _ _)
  | lst l =>
    refine tInt_e he fun i he => nP_e he fun k he => oP_e he fun t' e he hj => ?_
    refine hv.lst_e fun a o vs n h1 h2 h3 h4 => hj.int_e fun t => ?_
    obtain ⟨x, e', r⟩ := h4.get e
    exact tail_any (T := "list") ⟨_, X.fzo _ _ h1, h2⟩ PySem.slot_list_getitem.lookup (wpAny_getItem_list (fz_lst (X.fzo _ _ h1) h2 h3) (i0 k) (i63 he.1) (by simpa using e') (hQ _ _ _ _ _ _ _ ⟨he.2, rfl⟩ r X (Ext.refl ..))) (subscripted_plain hs _ _)
  | own ci =>
    refine tInt_e he fun i he => cL_e he fun l hl he => nP_e he fun k he => oP_e he fun t' e he hj => ?_
    refine hv.own_e fun p hi => hj.int_e fun t => ?_
    obtain ⟨o, ho, hpp, hc, vs, n, hd, hr, -⟩ := X.cell ci _ _ hl hi
    obtain ⟨x, e', r⟩ := hr.get e
    rw [hpp]
    exact tail_any (T := "list") ⟨_, ho, hc⟩ PySem.slot_list_getitem.lookup (wpAny_getItem_list (fz_lst ho hc hd) (i0 k) (i63 he.1) (by simpa using e') (hQ _ _ _ _ _ _ _ ⟨he.2, rfl⟩ r X (Ext.refl ..))) (subscripted_plain hs _ _)
  | dct es =>
    refine tSym_e he fun n he => oP_e he fun t' e he hj => ?_
    refine hv.dct_e fun a o kvs h1 h0 h2 h3 => hj.sym_e fun t hn => ?_
    obtain ⟨x, e', r⟩ := h3.some hn e
    have hD := Heap.dictOf_iff.mpr ⟨_, X.fzo _ _ h1, h2⟩
    exact tail_any (hD.typeIs (s := ⟨h, g, d, tk, os⟩)) slot_dict_getitem.lookup (wpAny_getItem_of (strKind_is _ _ _ _) hD.mapOf e' (hQ _ _ _ _ _ _ _ ⟨he, rfl⟩ r X (Ext.refl ..))) (subscripted_plain hs _ _)
  | _ => exact he.elim
end
section
variable {w : World} {A : Around} {E : Value → Shared → Prop} {g : Array GenState} {d : Drawn} {tk : Nat} {os : OsState} {h₀ h : Heap} {L : Addr} {m : Str → Option Value} {fz : Fz} {hm : Hm} {σ : Sg} {Q : Value → Shared → Prop}
theorem Res.val {K : T → Sg → Prop} (hQ : Res w h₀ L g d os h fz hm Q K) (X : W w h₀ L h fz hm σ) {t : T} {v : Value} {tk' : Nat} (hk : K t σ) (r : Rep w fz hm t v) : Q v ⟨h, g, d, tk', os⟩ :=
  hQ _ _ _ _ _ _ _ hk r X (Ext.refl ..)
theorem Res.push {K : T → Sg → Prop} (hQ : Res w h₀ L g d os h fz hm Q K) (X : W w h₀ L h fz hm σ) {t : T} {o : Obj} {tk' : Nat} (hf : o.isFreed = false) (hk : K t σ)
    (r : ∀ fz' : Fz, (∀ a p, fz a p → fz' a p) → fz' h.objs.size o → Rep w fz' hm t (.ref h.objs.size)) : Q (.ref h.objs.size) ⟨h.push o, g, d, tk', os⟩ :=
  hQ _ _ _ _ _ _ _ hk (r _ (fun _ _ => .inl) (.inr ⟨rfl, rfl⟩)) (X.push o hf) (ext_push h fz hm o hf)
theorem Res.ext {K : T → Sg → Prop} {h' : Heap} {fz' : Fz} {hm' : Hm} (hQ : Res w h₀ L g d os h fz hm Q K) (x : Ext h fz hm h' fz' hm') : Res w h₀ L g d os h' fz' hm' Q K :=
  fun t v h'' tk fz'' hm'' σ' k r X e => hQ t v h'' tk fz'' hm'' σ' k r X (x.trans e)
theorem Res.mono {K K' : T → Sg → Prop} (hQ : Res w h₀ L g d os h fz hm Q K) (hk : ∀ t σ, K' t σ → K t σ) : Res w h₀ L g d os h fz hm Q K' :=
  fun t v h' tk fz' hm' σ' k r X e => hQ t v h' tk fz' hm' σ' (hk _ _ k) r X e
theorem tup_new {l : List T} {vs : List Value} {K : T → Sg → Prop} (X : W w h₀ L h fz hm σ) (hl : RepL w fz hm l vs) (hz : vs.length ≤ sizeLine) (hk : K (.tup l) σ) (hQ : Res w h₀ L g d os h fz hm Q K) :
    wpAny (model pw w) A (newTuple vs) Q E ⟨h, g, d, tk, os⟩ :=
  wpAny_newObj_type (hQ.push X rfl hk fun _ hf e => .tup e rfl rfl (hl.mono hf fun _ _ e => e)) (by show vs.toArray.size ≤ sizeLine; rw [List.size_toArray]; exact hz)
theorem lst_new {l : List T} {vs : List Value} {K : T → Sg → Prop} (X : W w h₀ L h fz hm σ) (hl : RepL w fz hm l vs) (hz : vs.length ≤ sizeLine) (hk : K (.lst l) σ) (hQ : Res w h₀ L g d os h fz hm Q K) :
    wpAny (model pw w) A (newList vs) Q E ⟨h, g, d, tk, os⟩ :=
  wpAny_newObj_type (hQ.push X rfl hk fun _ hf e => .lst e rfl rfl (hl.mono hf fun _ _ e => e)) (by show vs.toArray.size ≤ sizeLine; rw [List.size_toArray]; exact hz)
theorem sN_len : ∀ n < nsz, (sN n).length ≤ 100 := by
  intro n hn
  have : (List.range nsz).all (fun n => Nat.ble (sN n).length 100) = true := by kernel_rfl
  exact Nat.le_of_ble_eq_true (List.all_eq_true.mp this n (List.mem_range.mpr hn))
noncomputable def saddOk : Bool := tab.sadd.all fun p => p.2.all fun q => Nat.blt p.1 nsz && (Nat.blt q.1 nsz && (Nat.blt q.2 nsz && (sN p.1 ++ sN q.1 == sN q.2)))
theorem saddOk_ : saddOk = true := by kernel_rfl
theorem lk2_mem {α : Type} {l : List (Nat × List (Nat × α))} {a b : Nat} {c : α} (e : lk2 l a b = some c) : ∃ r, (a, r) ∈ l ∧ (b, c) ∈ r := by
  have lkm : ∀ {β : Type} (l : List (Nat × β)) (a : Nat) (c : β), lk l a = some c → (a, c) ∈ l := by
    intro β l a c e
    induction l with
    | nil => cases e
    | cons p l ih =>
      obtain ⟨j, v⟩ := p
      have e' : (match Nat.beq j a with | true => some v | false => lk l a) = some c := e
      cases q : Nat.beq j a with
      | true => rw [q] at e'; cases e'; cases Nat.eq_of_beq_eq_true q; exact .head _
      | false => rw [q] at e'; exact .tail _ (ih e')
  unfold lk2 at e
  cases h : lk l a with
  | none => rw [h] at e; exact nS e
  | some r => rw [h] at e; exact ⟨r, lkm _ _ _ h, lkm _ _ _ e⟩
theorem sadd_of {x y z : Nat} (e : lk2 tab.sadd x y = some z) : z < nsz ∧ sN x ++ sN y = sN z := by
  obtain ⟨r, h1, h2⟩ := lk2_mem e
  have := List.all_eq_true.mp (List.all_eq_true.mp saddOk_ _ h1) _ h2
  simp only [Bool.and_eq_true, Nat.blt_eq, beq_iff_eq] at this
  exact ⟨this.2.2.1, this.2.2.2⟩
noncomputable def smulOk : Bool := tab.smul.all fun p => p.2.all fun q => Nat.beq q.1 1 && Nat.beq q.2 p.1
theorem smulOk_ : smulOk = true := by kernel_rfl
theorem smul_of {x y z : Nat} (e : lk2 tab.smul x y = some z) : y = 1 ∧ z = x := by
  obtain ⟨r, h1, h2⟩ := lk2_mem e
  have := List.all_eq_true.mp (List.all_eq_true.mp smulOk_ _ h1) _ h2
  simp only [Bool.and_eq_true, Nat.beq_eq] at this
  exact this
theorem small_bits {a : Int} (h : small a) : Builtin.Int.intBits a ≤ 63 := by
  unfold Builtin.Int.intBits
  split
  · lia
  · rename_i q
    have q : a ≠ 0 := fun e => q (by rw [e]; rfl)
    have := (Nat.log2_lt (n := a.natAbs) (k := 62) (by lia)).mpr h
    lia
theorem mulOk_small {a b : Int} (h : small a ∨ small b) : IntMulOk a b := by
  unfold IntMulOk
  rcases h with h | h
  · have := small_bits h
    simp only [Bool.and_eq_true, decide_eq_true_eq, not_and]
    intro q; exact absurd q.1 (by unfold shortFactorBits; lia)
  · have := small_bits h
    simp only [Bool.and_eq_true, decide_eq_true_eq, not_and]
    intro q; exact absurd q.2 (by unfold shortFactorBits; lia)
theorem mul_one_ok (x : Str) : MulOk x 1 := by
  refine ⟨by decide, fun _ h => ?_, fun _ h => ?_⟩ <;> simp at h
theorem powP_e {x y : Int} {K : Int → Prop} (h : powP x y K) : x = .ofNat 10 ∧ y = .ofNat 18 ∧ K 1000000000000000000 := by
  refine nP_e h fun x h => nP_e h fun y h => ?_
  cases q : Nat.beq x 10 && Nat.beq y 18 with
  | false => rw [q] at h; exact h.elim
  | true =>
    rw [q] at h
    exact ⟨congrArg _ (Nat.eq_of_beq_eq_true (a1 q)), congrArg _ (Nat.eq_of_beq_eq_true (a2 q)), h⟩
theorem op_bin {op : Op} {u v : T} {vu vv : Value} {K : T → Prop} (X : W w h₀ L h fz hm σ) (hu : Rep w fz hm u vu) (hv : Rep w fz hm v vv) (he : binP tab op u v K)
    (hQ : Res w h₀ L g d os h fz hm Q fun t σ' => K t ∧ σ' = σ) : wpAny (model pw w) A (binaryOp (opOf op) vu vv) Q E ⟨h, g, d, tk, os⟩ := by
  revert hu hv
  cases op with
  | add =>
    cases u with
    | int a => exact tInt_e he fun b he hu hv => hu.int_e fun t => hv.int_e fun t' => add_int (hQ.val X ⟨he, rfl⟩ (.int _ _))
    | sym x =>
      refine tSym_e he fun y he => oP_e he fun z e he hu hv => hu.sym_e fun t hx => hv.sym_e fun t' hy => ?_
      obtain ⟨hz, e⟩ := sadd_of e
      refine add_str (fun t' tk' => ?_) ?_
      · rw [e]; exact hQ.val X ⟨he, rfl⟩ (.sym _ _ hz)
      · have := sN_len _ hx; have := sN_len _ hy; rw [sizeLine_eq]; lia
    | _ => exact he.elim
  | sub => exact tInt_e he fun a he => tInt_e he fun b he hu hv => hu.int_e fun t => hv.int_e fun t' => sub_int (hQ.val X ⟨he, rfl⟩ (.int _ _))
  | mul =>
    cases u with
    | int a => exact tInt_e he fun b he hu hv => hu.int_e fun t => hv.int_e fun t' => mul_int (hQ.val X ⟨he.2, rfl⟩ (.int _ _)) (mulOk_small he.1)
    | sym x =>
      refine tInt_e he fun y he => nP_e he fun y he => oP_e he fun z e hz hu hv => hu.sym_e fun t hx => hv.int_e fun t' => ?_
      obtain ⟨rfl, rfl⟩ := smul_of e
      refine SB.mul (mul_one_ok _) fun t' tk' => ?_
      have : Txt.mul (sN z) (Int.ofNat 1) = sN z := by unfold Txt.mul; rw [if_neg (by decide), if_pos (by simp)]
      rw [this]; exact hQ.val X ⟨hz, rfl⟩ (.sym _ _ hx)
    | _ => exact he.elim
  | fdiv => exact tInt_e he fun a he => tInt_e he fun b he hu hv => hu.int_e fun t => hv.int_e fun t' => floordiv_int he.1.1 (hQ.val X ⟨he.2, rfl⟩ (.int _ _)) (.inl (PyProof.noPylong_small he.1.2))
  | mod => exact tInt_e he fun a he => tInt_e he fun b he hu hv => hu.int_e fun t => hv.int_e fun t' => mod_int' he.1 (hQ.val X ⟨he.2, rfl⟩ (.int _ _))
  | pow =>
    refine tInt_e he fun a he => tInt_e he fun b he hu hv => hu.int_e fun t => hv.int_e fun t' => ?_
    obtain ⟨rfl, rfl, he⟩ := powP_e he
    refine pow_int_small (by decide) (by decide) (by decide) ?_
    rw [show (Int.ofNat 10) ^ (Int.ofNat 18).toNat = 1000000000000000000 by decide]
    exact hQ.val X ⟨he, rfl⟩ (.int _ _)
end
noncomputable def p1 : T → PyData
  | .int i => .int i
  | .sym n => .str (sN n)
  | _ => .none
noncomputable def p2 : T → PyData
  | .tup l => .tuple (l.map p1)
  | .lst l => .list (l.map p1)
  | t => p1 t
theorem sN_ok : ∀ n < nsz, PyData.strOk (sN n) = true := by
  intro n hn
  have : (List.range nsz).all (fun n => PyData.strOk (sN n)) = true := by kernel_rfl
  exact List.all_eq_true.mp this n (List.mem_range.mpr hn)
theorem sN_beq {a b : Nat} (ha : a < nsz) (hb : b < nsz) : (sN a == sN b) = Nat.beq a b := by
  cases q : Nat.beq a b with
  | true => cases Nat.eq_of_beq_eq_true q; exact beq_self_eq_true _
  | false => exact beq_eq_false_iff_ne.mpr fun e => by rw [sN_inj ha hb e, Nat.beq_refl] at q; cases q
section
variable {w : World} {A : Around} {E : Value → Shared → Prop} {g : Array GenState} {d : Drawn} {tk : Nat} {os : OsState} {h₀ h : Heap} {L : Addr} {m : Str → Option Value} {fz : Fz} {hm : Hm} {σ : Sg} {Q : Value → Shared → Prop}
structure Ra1 (w : World) (h : Heap) (a : T) (va : Value) : Prop where
  r : Reads h va (p1 a) []
  c : (p1 a).canLay0 = true
  d : (p1 a).depth = 0
theorem r1_int {i : Int} {v : Value} (r : Rep w fz hm (.int i) v) : Ra1 w h (.int i) v := r.int_e fun _ => ⟨.int _ _, rfl, rfl⟩
theorem r1_sym {n : Nat} {v : Value} (r : Rep w fz hm (.sym n) v) : Ra1 w h (.sym n) v := r.sym_e fun _ hn => ⟨.str _ _, sN_ok _ hn, rfl⟩
theorem r1_none {v : Value} (r : Rep w fz hm .none v) : Ra1 w h .none v := r.none_e ⟨.none, rfl, rfl⟩
theorem sym_lt {n : Nat} {v : Value} (r : Rep w fz hm (.sym n) v) : n < nsz := r.sym_e (P := fun _ => n < nsz) fun _ hn => hn
theorem teq1_reads {a b : T} {va vb : Value} {c : Bool} (ra : Rep w fz hm a va) (rb : Rep w fz hm b vb) (e : teq1 a b = some c) :
    Ra1 w h a va ∧ Ra1 w h b vb ∧ PyData.eqv (p1 a) (p1 b) = c := by
  cases a with
  | int i =>
    cases b with
    | int j => exact ⟨r1_int ra, r1_int rb, by cases e; rfl⟩
    | sym n => exact ⟨r1_int ra, r1_sym rb, by cases e; rfl⟩
    | _ => exact nS e
  | sym n =>
    cases b with
    | int j => exact ⟨r1_sym ra, r1_int rb, by cases e; rfl⟩
    | sym n' => exact ⟨r1_sym ra, r1_sym rb, by cases e; exact sN_beq (sym_lt ra) (sym_lt rb)⟩
    | _ => exact nS e
  | none =>
    cases b with
    | none => exact ⟨r1_none ra, r1_none rb, by cases e; rfl⟩
    | _ => exact nS e
  | _ => exact nS e
structure RaL (w : World) (h : Heap) (l : List T) (vs : List Value) : Prop where
  r : ∃ as, ReadsAll h vs (l.map p1) as
  c : PyData.canLayAll0 (l.map p1) = true
  d : PyData.depthAll (l.map p1) = 0
theorem RaL.cons {a : T} {l : List T} {v : Value} {vs : List Value} (x : Ra1 w h a v) (y : RaL w h l vs) : RaL w h (a :: l) (v :: vs) :=
  y.r.elim fun _ q => ⟨⟨_, .cons x.r q⟩, by rw [List.map_cons, PyData.canLayAll0, x.c, y.c]; rfl, by rw [List.map_cons, PyData.depthAll, x.d, y.d]; rfl⟩
theorem both_some {a b : Option Bool} {c : Bool} (e : (match a with
    | some c => (match b with
      | some d => some (c && d)
      | none => none)
    | none => none) = some c) : ∃ x y, a = some x ∧ b = some y ∧ (x && y) = c := by
  cases a with
  | none => exact nS e
  | some x => cases b with
    | none => exact nS e
    | some y => exact ⟨x, y, rfl, rfl, Option.some.inj e⟩
theorem teqL_reads : ∀ {l l' : List T} {vs vs' : List Value} {c : Bool}, RepL w fz hm l vs → RepL w fz hm l' vs' → teqL l l' = some c →
    RaL w h l vs ∧ RaL w h l' vs' ∧ PyData.eqvAll (l.map p1) (l'.map p1) = c := by
  intro l
  induction l with
  | nil =>
    intro l' vs vs' c r r' e
    cases l' with
    | nil => exact r.nil_e (r'.nil_e ⟨⟨⟨_, .nil⟩, rfl, rfl⟩, ⟨⟨_, .nil⟩, rfl, rfl⟩, by cases e; rfl⟩)
    | cons _ _ => exact nS e
  | cons a l ih =>
    intro l' vs vs' c r r' e
    cases l' with
    | nil => exact nS e
    | cons b l' =>
      obtain ⟨c1, c2, e1, e2, rfl⟩ := both_some e
      refine r.cons_e fun v vs ra r => r'.cons_e fun v' vs' rb r' => ?_
      have x := teq1_reads (h := h) ra rb e1
      have y := ih r r' e2
      exact ⟨RaL.cons x.1 y.1, RaL.cons x.2.1 y.2.1, by rw [List.map_cons, List.map_cons, PyData.eqvAll, x.2.2, y.2.2]⟩
theorem shaped_1 {p : PyData} (a : p.canLay0 = true) (b : p.depth = 0) : SeqAt.shaped p = true := by unfold SeqAt.shaped; rw [a, b]; rfl
structure Ra2 (h : Heap) (a : T) (va : Value) : Prop where
  r : ∃ as, Reads h va (p2 a) as
  s : SeqAt.shaped (p2 a) = true
theorem Ra1.two {a : T} {v : Value} (x : Ra1 w h a v) (e : p2 a = p1 a) : Ra2 h a v := ⟨⟨_, by rw [e]; exact x.r⟩, by rw [e]; exact shaped_1 x.c x.d⟩
theorem RaL.tup {l : List T} {a : Addr} {o : Obj} {vs : Array Value} {n : Nat} (X : W w h₀ L h fz hm σ) (h1 : fz a o) (h2 : o.cls = .type "tuple") (h3 : o.data = .seq vs n) (x : RaL w h l vs.toList) : Ra2 h (.tup l) (.ref a) :=
  x.r.elim fun _ q => ⟨⟨_, .tuple (X.fzo _ _ h1) h2 h3 q⟩, by unfold SeqAt.shaped p2; rw [PyData.canLay0, x.c, PyData.depth, x.d]; rfl⟩
theorem RaL.lst {l : List T} {a : Addr} {o : Obj} {vs : Array Value} {n : Nat} (X : W w h₀ L h fz hm σ) (h1 : fz a o) (h2 : o.cls = .type "list") (h3 : o.data = .seq vs n) (x : RaL w h l vs.toList) : Ra2 h (.lst l) (.ref a) :=
  x.r.elim fun _ q => ⟨⟨_, .list (X.fzo _ _ h1) h2 h3 q⟩, by unfold SeqAt.shaped p2; rw [PyData.canLay0, x.c, PyData.depth, x.d]; rfl⟩
theorem p2_of1 {a b : T} {c : Bool} (e : teq1 a b = some c) : p2 a = p1 a ∧ p2 b = p1 b := by
  cases a with
  | int i => cases b with
    | int j => exact ⟨rfl, rfl⟩
    | sym n => exact ⟨rfl, rfl⟩
    | _ => exact nS e
  | sym n => cases b with
    | int j => exact ⟨rfl, rfl⟩
    | sym n' => exact ⟨rfl, rfl⟩
    | _ => exact nS e
  | none => cases b with
    | none => exact ⟨rfl, rfl⟩
    | _ => exact nS e
  | _ => exact nS e
theorem teq_reads {a b : T} {va vb : Value} {c : Bool} (X : W w h₀ L h fz hm σ) (ra : Rep w fz hm a va) (rb : Rep w fz hm b vb) (e : teq a b = some c) :
    Ra2 h a va ∧ Ra2 h b vb ∧ PyData.eqv (p2 a) (p2 b) = c := by
  have one : teq1 a b = some c → Ra2 h a va ∧ Ra2 h b vb ∧ PyData.eqv (p2 a) (p2 b) = c := fun e =>
    have x := teq1_reads (h := h) ra rb e
    have q := p2_of1 e
    ⟨x.1.two q.1, x.2.1.two q.2, by rw [q.1, q.2]; exact x.2.2⟩
  cases a with
  | tup l =>
    cases b with
    | tup l' =>
      refine ra.tup_e fun a o vs n h1 h2 h3 h4 => rb.tup_e fun a' o' vs' n' k1 k2 k3 k4 => ?_
      have y := teqL_reads (h := h) h4 k4 e
      exact ⟨y.1.tup X h1 h2 h3, y.2.1.tup X k1 k2 k3, y.2.2⟩
    | _ => exact nS e
  | lst l =>
    cases b with
    | lst l' =>
      refine ra.lst_e fun a o vs n h1 h2 h3 h4 => rb.lst_e fun a' o' vs' n' k1 k2 k3 k4 => ?_
      have y := teqL_reads (h := h) h4 k4 e
      exact ⟨y.1.lst X h1 h2 h3, y.2.1.lst X k1 k2 k3, y.2.2⟩
    | _ => exact nS e
  | _ => exact one e
theorem syms_cons {m : Nat} {r : List T} {ns : List Nat} (e : symsOf (.sym m :: r) = some ns) : ∃ l, symsOf r = some l ∧ ns = m :: l := by
  have e : (match symsOf r with
    | some l => some (m :: l)
    | none => none) = some ns := e
  cases q : symsOf r with
  | none => rw [q] at e; exact nS e
  | some l => rw [q] at e; exact ⟨l, rfl, (Option.some.inj e).symm⟩
theorem symsOf_strs : ∀ {l : List T} {vs : List Value} {ns : List Nat}, RepL w fz hm l vs → symsOf l = some ns → StrsAre vs (ns.map sN) ∧ ∀ n ∈ ns, n < nsz := by
  intro l
  induction l with
  | nil => intro vs ns r e; exact r.nil_e (by cases e; exact ⟨.nil, fun _ h => nomatch h⟩)
  | cons t l ih =>
    intro vs ns r e
    refine r.cons_e fun v vs ra r2 => ?_
    cases t with
    | sym m =>
      obtain ⟨ns, e2, rfl⟩ := syms_cons e
      have q := ih r2 e2
      exact ra.sym_e fun t hn => ⟨.cons _ _ q.1, fun k hk => by cases hk with | head => exact hn | tail _ h => exact q.2 _ h⟩
    | _ => exact nS e
theorem nIn_any {n : Nat} (hn : n < nsz) : ∀ {ns : List Nat}, (∀ k ∈ ns, k < nsz) → (ns.map sN).any (· == sN n) = nIn n ns
  | [], _ => rfl
  | m :: r, h => by
    rw [List.map_cons, List.any_cons, sN_beq (h _ (.head _)) hn, nIn_any hn fun k hk => h _ (.tail _ hk)]
    show _ = match Nat.beq m n with | true => true | false => nIn n r
    cases Nat.beq m n <;> simp
theorem op_mem {neg : Bool} {a b : T} {va vb : Value} {K : Bool → Prop} (X : W w h₀ L h fz hm σ) (ra : Rep w fz hm a va) (rb : Rep w fz hm b vb) (he : memP a b σ K)
    (hQ : ∀ c tk', K c → Q (.bool (if neg then !c else c)) ⟨h, g, d, tk', os⟩) : wpAny (model pw w) A (compareOp (if neg then .NotIn else .In) va vb) Q E ⟨h, g, d, tk, os⟩ := by
  have dct : ∀ {n : Nat} {t : Tok} {es : List (Nat × T)} {x : Addr} {o : Obj} {kvs : List (Str × Value)}, n < nsz → (x == sysModules) = false → h.get? x = some o → o.IsDictOf (SK w) kvs → RepD w fz hm es kvs → K (isSm (lk es n)) →
      wpAny (model pw w) A (compareOp (if neg then .NotIn else .In) (.str (sN n) t) (.ref x)) Q E ⟨h, g, d, tk, os⟩ := fun {n t es x o kvs} hn h0 ho hd hr he => by
    have hD := Heap.dictOf_iff.mpr ⟨_, ho, hd⟩
    have q := hQ _ (tk + 1) he
    rw [← hr.isSm hn] at q
    cases neg with
    | false => exact wpAny_in_of (strKind_is _ _ _ _) h0 hD.mapOf q
    | true => exact wpAny_notIn_of (strKind_is _ _ _ _) h0 hD.mapOf q
  revert ra
  refine tSym_e he fun n he ra => ra.sym_e fun t hn => ?_
  cases b with
  | dct es => exact rb.dct_e fun x o kvs h1 h0 h2 h3 => dct hn h0 (X.fzo _ _ h1) h2 h3 he
  | own i =>
    refine cD_e he fun es hes he => rb.own_e fun p hi => ?_
    obtain ⟨o, ho, hpp, h0, kvs, hd, hr⟩ := X.cell _ _ _ hes hi
    rw [← hpp] at ho
    exact dct hn h0 ho hd hr he
  | tup l =>
    refine oP_e he fun ns e he => rb.tup_e fun x o vs nn h1 h2 h3 h4 => ?_
    have q2 := symsOf_strs h4 e
    have q := hQ _ tk he
    rw [← nIn_any hn q2.2] at q
    cases neg with
    | false => exact in_tuple_strs (fz_tup (X.fzo _ _ h1) h2 h3) q2.1 q
    | true => exact notin_tuple_strs (fz_tup (X.fzo _ _ h1) h2 h3) q2.1 q
  | _ => exact he.elim
theorem biV_ne {n : Nat} {v : Value} (e : biV n = some v) : (v == Value.none) = false :=
  match n, e with
  | 0, e | 1, e | 2, e | 3, e | 4, e | 5, e | 6, e | 7, e | 8, e => by cases e; rfl
  | _ + 9, e => nS e
theorem isNn_of {a : T} {va : Value} (ra : Rep w fz hm a va) : (va == Value.none) = isNn a := by
  cases ra with
  | bi e => exact biV_ne e
  | _ => rfl
theorem op_cmp {op : Cm} {a b : T} {va vb : Value} {K : Bool → Prop} (X : W w h₀ L h fz hm σ) (hu : A.units + 64 < cLine) (ra : Rep w fz hm a va) (rb : Rep w fz hm b vb) (he : cmpP op a b σ K)
    (hQ : ∀ c tk', K c → Q (.bool c) ⟨h, g, d, tk', os⟩) : wpAny (model pw w) A (compareOp (cmOf op) va vb) Q E ⟨h, g, d, tk, os⟩ := by
  cases op with
  | eq =>
    refine oP_e he fun c e he => ?_
    have x := teq_reads X ra rb e
    exact x.1.r.elim fun _ r => x.2.1.r.elim fun _ r' => eq_dataH r r' x.1.s x.2.1.s hu (by rw [x.2.2]; exact hQ _ _ he)
  | ne =>
    refine oP_e he fun c e he => ?_
    have x := teq_reads X ra rb e
    exact x.1.r.elim fun _ r => x.2.1.r.elim fun _ r' => ne_dataH r r' x.1.s x.2.1.s hu (by rw [x.2.2]; exact hQ _ _ he)
  | lt => revert ra rb; exact tInt_e he fun i he => tInt_e he fun j he ra rb => ra.int_e fun t => rb.int_e fun t' => lt_int (hQ _ _ he)
  | gt => revert ra rb; exact tInt_e he fun i he => tInt_e he fun j he ra rb => ra.int_e fun t => rb.int_e fun t' => gt_int (hQ _ _ he)
  | ge => revert ra rb; exact tInt_e he fun i he => tInt_e he fun j he ra rb => ra.int_e fun t => rb.int_e fun t' => ge_int (hQ _ _ he)
  | inn => exact op_mem (neg := false) X ra rb he fun c tk' k => hQ c tk' k
  | nin => exact op_mem (neg := true) (K := fun c => K (!c)) X ra rb he fun c tk' k => hQ _ tk' k
  | is => revert rb; exact tNone_e (t := b) he fun he rb => rb.none_e (is_none (by rw [isNn_of ra]; exact hQ _ _ he))
  | isn => revert rb; exact tNone_e (t := b) he fun he rb => rb.none_e (isNot_none (by rw [isNn_of ra]; exact hQ _ _ he))
end
section
variable {w : World}
theorem sk_shape {k : Str} {v : Value} (e : (SK w).is k v = true) : ∃ t, v = .str k t := Value.isStrOf_shape e
theorem getL_pairs (name : Str) {es : List DictEntry} {kvs : List (Str × Value)} (h : Pairs (SK w) es kvs) : getL name es = some (valueAt kvs name) := by
  induction h with
  | nil => rfl
  | @cons e kv es kvs h1 h2 r ih =>
    obtain ⟨t, ht⟩ := sk_shape h1
    obtain ⟨k, v⟩ := kv
    dsimp only at ht h2
    unfold getL at ih ⊢
    rw [valueAt_cons, List.find?_cons, ht]
    show (match (match k == name with | true => some e | false => es.find? (·.key.isStr name)) with | some e => some (some e.val) | none => if (e :: es).any (·.refKey) then none else some none) = _
    by_cases q : k = name
    · subst q; rw [beq_self_eq_true, if_pos rfl, ← h2]
    · rw [beq_eq_false_iff_ne.mpr q, if_neg q]
      dsimp only
      rw [List.any_cons, show e.refKey = false by unfold DictEntry.refKey; rw [ht], Bool.false_or]
      exact ih
theorem putL_pairs (name : Str) (hs : Int) (t : Tok) (v : Value) {es : List DictEntry} {kvs : List (Str × Value)} (h : Pairs (SK w) es kvs) (hn : (kvs.map (·.1)).Nodup) : Pairs (SK w) (putL name hs (.str name t) v es) (stored kvs name v) := by
  induction h with
  | nil => exact .cons (strKind_is _ _ _ _) rfl .nil
  | @cons e kv es kvs h1 h2 r ih =>
    obtain ⟨t', ht⟩ := sk_shape h1
    obtain ⟨k, u⟩ := kv
    dsimp only at ht h2
    rw [stored_cons _ _ _ _ _ hn]
    show Pairs (SK w) (if e.key.isStr name then ⟨e.hash, e.key, v⟩ :: es else e :: putL name hs (.str name t) v es) _
    rw [ht]
    show Pairs (SK w) (if (k == name) = true then _ else _) _
    by_cases q : k = name
    · subst q
      rw [if_pos (beq_self_eq_true _), if_pos rfl]
      exact .cons (strKind_is _ _ _ _) rfl r
    · rw [if_neg (by rw [beq_iff_eq]; exact q), if_neg q]
      exact .cons h1 h2 (ih (List.nodup_cons.mp hn).2)
theorem pairs_len {es : List DictEntry} {kvs : List (Str × Value)} (h : Pairs (SK w) es kvs) : es.length = kvs.length := by
  induction h with
  | nil => rfl
  | cons _ _ _ ih => rw [List.length_cons, List.length_cons, ih]
end
theorem isIn_mem : ∀ {l : List Nat} {i : Nat}, isIn l i = true → i ∈ l
  | j :: r, i, e => by
    have e' : (match Nat.beq j i with | true => true | false => isIn r i) = true := e
    cases q : Nat.beq j i with
    | true => cases Nat.eq_of_beq_eq_true q; exact .head _
    | false => rw [q] at e'; exact .tail _ (isIn_mem e')
theorem lk_mem {α : Type} : ∀ {l : List (Nat × α)} {a : Nat} {c : α}, lk l a = some c → (a, c) ∈ l
  | (j, v) :: r, a, c, e => by
    have e' : (match Nat.beq j a with | true => some v | false => lk r a) = some c := e
    cases q : Nat.beq j a with
    | true => rw [q] at e'; cases e'; cases Nat.eq_of_beq_eq_true q; exact .head _
    | false => rw [q] at e'; exact .tail _ (lk_mem e')
noncomputable def attr1 (P : Params) (c a : Nat) : Bool := match gA[c]? with
  | some C => plainGet (mK P) C (sN a) && (hasDictIn (mK P) C && findIn (mK P) (.ref C) (sN a) == some none)
  | none => false
noncomputable def attrAll (P : Params) : Bool := tab.attrs.all fun p => p.2.all fun a => attr1 P p.1 a
theorem attrAll_ (P : Params) : attrAll P = true := by kernel_rfl
theorem attr_of {c a : Nat} (e : okA tab c a = true) (P : Params) {C : Addr} (hC : gA[c]? = some C) : plainGet (mK P) C (sN a) = true ∧ hasDictIn (mK P) C = true ∧ findIn (mK P) (.ref C) (sN a) = some none := by
  unfold okA at e
  cases hl : lk tab.attrs c with
  | none => rw [hl] at e; exact nT e
  | some l =>
    rw [hl] at e
    have this := List.all_eq_true.mp (List.all_eq_true.mp (attrAll_ P) _ (lk_mem hl)) _ (isIn_mem e)
    unfold attr1 at this
    rw [hC] at this
    exact ⟨a1 this, a1 (a2 this), eq_of_beq (a2 (a2 this))⟩
theorem rep_handed {w : World} {fz : Fz} {hm : Hm} {t : T} {v : Value} (r : Rep w fz hm t v) : handedIn v = true := by
  cases r with
  | @bi n _ e =>
    match n, e with
    | 0, e | 1, e | 2, e | 3, e | 4, e | 5, e | 6, e | 7, e | 8, e => cases e; first | rfl | decide
    | _ + 9, e => exact nS e
  | _ => rfl
section
variable {w : World} {A : Around} {E : Value → Shared → Prop} {g : Array GenState} {d : Drawn} {tk : Nat} {os : OsState} {h₀ h : Heap} {L : Addr} {m : Str → Option Value} {fz : Fz} {hm : Hm} {σ : Sg} {Q : Value → Shared → Prop}
theorem inst_at {t : T} {v : Value} {c : Nat} {fs : List (Nat × T)} (X : W w h₀ L h fz hm σ) (r : Rep w fz hm t v) (e : t = .inst c fs ∨ ∃ i, t = .own i ∧ σ[i]? = some (.inst c fs)) :
    ∃ x C es n kvs dx, v = .ref x ∧ isC c = true ∧ gA[c]? = some C ∧ InstAt h x (instObj C dx) C (some (dictOf es n)) ∧ Pairs (SK w) es kvs ∧ (kvs.map (·.1)).Nodup ∧ RepD w fz hm fs kvs := by
  rcases e with rfl | ⟨i, rfl, e⟩
  · exact r.inst_e fun _ _ _ _ _ _ h0 h1 h2 h3 h4 h5 h6 => ⟨_, _, _, _, _, _, rfl, h0, h1, ⟨X.fzo _ _ h2, rfl, rfl, X.fzo _ _ h3⟩, h4, h5, h6⟩
  · refine r.own_e fun p hi => ?_
    obtain ⟨o, ho, h0, C, es, n, kvs, hC, h1, rfl, h4, h5, h6⟩ := X.cell _ _ _ e hi
    exact ⟨_, C, es, n, kvs, _, rfl, h0, hC, ⟨X.fzo _ _ h1, rfl, rfl, ho⟩, h4, h5, h6⟩
theorem op_attr1 {t : T} {v : Value} {c a : Nat} {fs : List (Nat × T)} {u : T} {K : T → Prop} (X : W w h₀ L h fz hm σ) (F : Fr h₀ L h m) (X₀ : (mK w.params).In h₀) (r : Rep w fz hm t v)
    (e : t = .inst c fs ∨ ∃ i, t = .own i ∧ σ[i]? = some (.inst c fs)) (ha : a < nsz) (hk : okA tab c a = true) (hl : lk fs a = some u) (he : K u) (hQ : Res w h₀ L g d os h fz hm Q fun t σ' => K t ∧ σ' = σ) {b : Bool} :
    wpAny (model pw w) A (getAttr v (sN a) b) Q E ⟨h, g, d, tk, os⟩ := by
  obtain ⟨x, C, es, n, kvs, dx, rfl, h0, hC, I, hp, hn, hr⟩ := inst_at X r e
  obtain ⟨f1, f2, f3⟩ := attr_of hk w.params hC
  obtain ⟨u', hu, ru⟩ := hr.some ha hl
  exact get_own (s := ⟨h, g, d, tk, os⟩) F X₀ I f1 f2 f3 rfl (by rw [getL_pairs _ hp, hu]) (rep_handed ru) (hQ.val X ⟨he, rfl⟩ ru)
theorem op_attr {t : T} {v : Value} {a : Nat} {K : T → Prop} (X : W w h₀ L h fz hm σ) (F : Fr h₀ L h m) (X₀ : (mK w.params).In h₀) (r : Rep w fz hm t v) (ha : a < nsz) (he : attrP tab t a σ K)
    (hQ : Res w h₀ L g d os h fz hm Q fun t σ' => K t ∧ σ' = σ) {b : Bool} : wpAny (model pw w) A (getAttr v (sN a) b) Q E ⟨h, g, d, tk, os⟩ := by
  have go : ∀ {c : Nat} {fs : List (Nat × T)}, (t = .inst c fs ∨ ∃ i, t = .own i ∧ σ[i]? = some (.inst c fs)) → (match lk fs a with
      | some u => okA tab c a = true ∧ K u
      | none => False) → wpAny (model pw w) A (getAttr v (sN a) b) Q E ⟨h, g, d, tk, os⟩ := fun {c fs} e he => by
    cases hu : lk fs a with
    | none => rw [hu] at he; exact he.elim
    | some u => rw [hu] at he; exact op_attr1 X F X₀ r e ha he.1 hu he.2 hQ
  cases t with
  | inst c fs => exact go (.inl rfl) he
  | own i => exact cI_m he fun c fs hc he => go (.inr ⟨_, rfl, hc⟩) he
  | _ => exact he.elim
end
structure Tp (mg mb : Str → Option Value) (h : Heap) : Prop where
  g : h.Ns mainGlobals mg
  b : h.Ns builtinsNs mb
  nolimit : h.NoLimit
  builtins : ∀ x : Str, x ≠ "__name__" → mb x = bootBuiltins x
  bmain : ∃ bm ob, mg "__builtins__" = some (.ref bm) ∧ bm ≠ builtinsNs ∧ h.get? bm = some ob ∧ ob.cls = .type "module" ∧ ob.dict = some builtinsNs ∧ ob.data = .plain
theorem Tp.keeps {mg mb : Str → Option Value} {h h' : Heap} (T : Tp mg mb h) (k : ∀ b o, h.get? b = some o → h'.get? b = some o) : Tp mg mb h' := ⟨T.g.keeps k, T.b.keeps k, T.nolimit.keeps k, T.builtins, let ⟨bm, ob, a, b, c, d⟩ := T.bmain; ⟨bm, ob, a, b, k _ _ c, d⟩⟩
structure Act (w : World) (mg mb : Str → Option Value) (n : Nat) (A : Around) (h₀ : Heap) (L : Addr) : Prop where
  fr : ∃ env outer base A₀, A.frames = some (env :: outer) ∧ env.frame = some L ∧ env.scope.kind = .function ∧ Below A₀ base outer h₀
  X : (mK w.params).In h₀
  T : Tp mg mb h₀
  hh : A.handled = none
  hd : A.depth + n < recursionLimit
  hu : A.units + 12 * n + 64 < cLine
section
variable {w : World} {mg mb : Str → Option Value} {n : Nat} {A : Around} {E : Value → Shared → Prop} {g : Array GenState} {d : Drawn} {tk : Nat} {os : OsState} {h₀ h : Heap} {L : Addr} {m : Str → Option Value} {fz : Fz} {hm : Hm} {σ : Sg} {Q : Value → Shared → Prop}
noncomputable def mtL (hm : Hm) : List Addr := hm.map (·.2) ++ tA
theorem mt_mem {hm : Hm} {a : Addr} : Mt hm a ↔ a ∈ mtL hm := List.mem_append.symm
theorem W.lives (X : W w h₀ L h fz hm σ) {a : Addr} (e : Mt hm a) : ∃ o, h.get? a = some o := by
  rcases e with e | e
  · obtain ⟨p, hp, rfl⟩ := List.mem_map.mp e
    obtain ⟨i, hi⟩ := List.getElem?_of_mem hp
    have : i < σ.length := by have := X.len; obtain ⟨z, _⟩ := List.getElem?_eq_some_iff.mp hi; lia
    obtain ⟨o', g, _⟩ := X.cell i σ[i] p (by simp [this]) hi
    exact ⟨_, g⟩
  · obtain ⟨k, hk⟩ := List.getElem?_of_mem e
    obtain ⟨o', g, _⟩ := X.tab k _ hk
    exact ⟨_, g⟩
theorem W.into (X : W w h₀ L h fz hm σ) : W w (hideAll h (mtL hm)) h.objs.size h fz hm σ :=
  ⟨X.len, X.fzo, X.fzm, X.nd, X.cell, fun a e => ⟨by obtain ⟨o, ho⟩ := X.lives e; exact Nat.ne_of_lt (Heap.lt_size ho), hideAll_none _ (mt_mem.mp e)⟩, X.tab⟩
theorem W.back {g' : Heap} {L' : Addr} {h' : Heap} {fz' : Fz} {hm' : Hm} {σ' : Sg} (X : W w h₀ L h fz hm σ) (F : Fr h₀ L h m) (x : Ext h fz hm h' fz' hm') (Y : W w g' L' h' fz' hm' σ') : W w h₀ L h' fz' hm' σ' := by
  refine ⟨Y.len, Y.fzo, Y.fzm, Y.nd, Y.cell, fun a e => ?_, Y.tab⟩
  obtain ⟨more, rfl, hf⟩ := x.hmx
  have old : Mt hm a → a ≠ L ∧ h₀.get? a = none := X.mt a
  rcases e with e | e
  · rw [List.map_append] at e
    rcases List.mem_append.mp e with e | e
    · exact old (.inl e)
    · obtain ⟨p, hp, rfl⟩ := List.mem_map.mp e
      have hn := hf p hp
      refine ⟨fun q => ?_, Fr.lt_base F hn⟩
      obtain ⟨o, _, _, ho, _⟩ := F.ns
      rw [q, ho] at hn; cases hn
  · exact old (.inr e)
theorem ground (s : Shared) (hs : s.heap = h) {env : Env} {outer : List Env} {base : Heap} {A₀ : Around} (B : Below A₀ base outer h₀) (F : Fr h₀ L h m) (X : W w h₀ L h fz hm σ) (hA : A.frames = some (env :: outer)) (hf : env.frame = some L) (hke : env.scope.kind = .function) :
    Below A base (env :: outer) (hideAll h (mtL hm)) ∧ h₀.StaysIn (hideAll h (mtL hm)) := by
  let news : List (Addr × Obj) := (mtL hm).map fun a => (a, (h.get? a).getD default)
  have e : news.map (·.1) = mtL hm := by rw [List.map_map]; exact List.map_id _
  have N : News h₀ L h news := fun p hp => by
    obtain ⟨a, ha, rfl⟩ := List.mem_map.mp hp
    obtain ⟨o, ho⟩ := X.lives (mt_mem.mpr ha)
    refine ⟨?_, X.mt a (mt_mem.mpr ha)⟩
    show h.get? a = some ((h.get? a).getD default)
    rw [ho]; rfl
  subst hs
  have := groundX (s := s) (R := fun _ _ => True) B F N hA hf hke
  rw [e] at this
  exact ⟨this.2.1, this.2.2.1⟩
theorem Act.enter (s : Shared) (hs : s.heap = h) (Z : Act w mg mb (n + 1) A h₀ L) (F : Fr h₀ L h m) (X : W w h₀ L h fz hm σ) {env' : Env} {L' : Addr} (hf : env'.frame = some L') (hk : env'.scope.kind = .function) :
    Act w mg mb n (A.deeper env') (hideAll h (mtL hm)) L' ∧ h₀.StaysIn (hideAll h (mtL hm)) := by
  obtain ⟨⟨env, outer, base, A₀, hA, hf', hke, B⟩, X₀, T, hh, hd, hu⟩ := Z
  obtain ⟨B', st⟩ := ground s hs B F X hA hf' hke
  refine ⟨⟨⟨env', env :: outer, base, A, Around.frames_deeper hA, hf, hk, B'⟩, X₀.keeps st, T.keeps st, hh, ?_, ?_⟩, st⟩
  · show A.depth + 1 + n < recursionLimit; lia
  · show A.units + 3 + 12 * n + 64 < cLine; lia
end
set_option genSizeOf false in
set_option genInjectivity false in
structure Fx where
  w : World
  A : Around
  h₀ : Heap
  L : Addr
  g : Array GenState
  d : Drawn
  os : OsState
  env : Env
  sc : Scope
  q : Str
  κ : List (Nat × T)
  ρ : Rho
noncomputable def VarsT (w : World) (fz : Fz) (hm : Hm) (ρ : Rho) (m' : Str → Option Value) : Prop := ∀ i t, lk ρ i = some (.t t) → i < nsz → ∃ v, m' (sN i) = some v ∧ Rep w fz hm t v
structure En (c : Fx) (h : Heap) (fz : Fz) (hm : Hm) : Prop where
  hsc : c.env.scope = c.sc
  kind : c.sc.kind = .function
  glob : c.env.globals = mainGlobals
  blt : c.env.builtins = builtinsNs
  qual : c.env.qual = c.q
  cells : ∀ i v, lk c.κ i = some v → (kindIs c.sc (sN i) .cell || kindIs c.sc (sN i) .free) = true → ∃ a o x, c.env.cells.lookup (sN i) = some a ∧ fz a o ∧ o.data = .cell (some x) ∧ Rep c.w fz hm v x
  has : ∀ s, kindIs c.sc s .cell = true → ∃ a, c.env.cells.lookup s = some a
  ns : ∃ m', h.Ns c.env.locals m' ∧ VarsT c.w fz hm c.ρ m'
  mt : ¬ Mt hm c.env.locals
  code : ∀ k, k < 3 → c.q ++ ("<lambda>" : Str) = laQ k → ∃ cd P, c.env.code = .ref cd ∧ tA[k]? = some P ∧ CodeHd c.h₀ cd P
noncomputable abbrev Fx.st (c : Fx) (h : Heap) (tk : Nat) : Shared := ⟨h, c.g, c.d, tk, c.os⟩
abbrev RT (c : Fx) := Res c.w c.h₀ c.L c.g c.d c.os
noncomputable def SX (c : Fx) (f : Sg → (T → Sg → Prop) → Prop) (t : Sem Value) : Prop :=
  ∀ (m : Str → Option Value) (h : Heap) (fz : Fz) (hm : Hm) (σ : Sg) (tk : Nat) (Q : Value → Shared → Prop) (E : Value → Shared → Prop) (K : T → Sg → Prop),
    Fr c.h₀ c.L h m → W c.w c.h₀ c.L h fz hm σ → En c h fz hm → f σ K → RT c h fz hm Q K → wpAny (model pw c.w) c.A t Q E (c.st h tk)
noncomputable def RB (c : Fx) (h : Heap) (fz : Fz) (hm : Hm) (Q : Bool → Shared → Prop) (K : Bool → Sg → Prop) : Prop :=
  ∀ b h' tk' fz' hm' σ', K b σ' → W c.w c.h₀ c.L h' fz' hm' σ' → Ext h fz hm h' fz' hm' → Q b (c.st h' tk')
noncomputable def onB (K : Bool → Sg → Prop) : T → Sg → Prop := fun v σ => match v with
  | .bool b => K b σ
  | _ => False
noncomputable def SB (c : Fx) (f : Sg → (T → Sg → Prop) → Prop) (t : Sem Bool) : Prop :=
  ∀ (m : Str → Option Value) (h : Heap) (fz : Fz) (hm : Hm) (σ : Sg) (tk : Nat) (Q : Bool → Shared → Prop) (E : Value → Shared → Prop) (K : Bool → Sg → Prop),
    Fr c.h₀ c.L h m → W c.w c.h₀ c.L h fz hm σ → En c h fz hm → f σ (onB K) → RB c h fz hm Q K → wpAny (model pw c.w) c.A t Q E (c.st h tk)
section
variable {c : Fx} {h h' : Heap} {fz fz' : Fz} {hm hm' : Hm} {m : Str → Option Value} {f f' f'' : Sg → (T → Sg → Prop) → Prop} {t : Sem Value}
theorem VarsT.mono {w : World} {ρ : Rho} {m' : Str → Option Value} (hf : ∀ a o, fz a o → fz' a o) (hh : ∀ (i : Nat) (p : Addr × Addr), hm[i]? = some p → hm'[i]? = some p) (V : VarsT w fz hm ρ m') : VarsT w fz' hm' ρ m' :=
  fun i t e hi => let ⟨v, a, b⟩ := V i t e hi; ⟨v, a, b.mono hf hh⟩
theorem En.ext (N : En c h fz hm) (x : Ext h fz hm h' fz' hm') : En c h' fz' hm' := by
  obtain ⟨a, b, e0, e, f, k, hs, ⟨m', ⟨o, es, ep, ho, r⟩, V⟩, i, j⟩ := N
  exact ⟨a, b, e0, e, f, fun i v h1 h2 => let ⟨a, o, y, p, q, r, t⟩ := k i v h1 h2; ⟨a, o, y, p, x.sub _ _ q, r, x.rep t⟩, hs, ⟨m', ⟨o, es, ep, x.keep _ _ ho i, r⟩, V.mono x.sub x.hmi⟩, x.mt (by rw [ho]; exact fun z => nomatch z) i, j⟩
theorem RB.ext {Q : Bool → Shared → Prop} {K : Bool → Sg → Prop} (hQ : RB c h fz hm Q K) (x : Ext h fz hm h' fz' hm') : RB c h' fz' hm' Q K :=
  fun b h'' tk fz'' hm'' σ' k X e => hQ b h'' tk fz'' hm'' σ' k X (x.trans e)
theorem W.fr {w : World} {h₀ : Heap} {L : Addr} {σ : Sg} (X : W w h₀ L h fz hm σ) (F : Fr h₀ L h m) (x : Ext h fz hm h' fz' hm') : Fr h₀ L h' m := Fr.ext F x X.mt
theorem SX.then (s : SX c f t) {Q : Value → Shared → Prop} {E : Value → Shared → Prop} {K : T → Sg → Prop} {σ : Sg} {tk : Nat} (F : Fr c.h₀ c.L h m) (X : W c.w c.h₀ c.L h fz hm σ) (N : En c h fz hm) (e : f σ K)
    (k : ∀ t v h' tk' fz' hm' σ', K t σ' → Rep c.w fz' hm' t v → Fr c.h₀ c.L h' m → W c.w c.h₀ c.L h' fz' hm' σ' → En c h' fz' hm' → Ext h fz hm h' fz' hm' → Q v (c.st h' tk')) :
    wpAny (model pw c.w) c.A t Q E (c.st h tk) :=
  s m h fz hm σ tk Q E K F X N e fun t v h' tk' fz' hm' σ' a r X' x => k t v h' tk' fz' hm' σ' a r (X.fr F x) X' (N.ext x) x
theorem SB.then {t : Sem Bool} (s : SB c f t) {Q : Bool → Shared → Prop} {E : Value → Shared → Prop} {K : Bool → Sg → Prop} {σ : Sg} {tk : Nat} (F : Fr c.h₀ c.L h m) (X : W c.w c.h₀ c.L h fz hm σ) (N : En c h fz hm) (e : f σ (onB K))
    (k : ∀ b h' tk' fz' hm' σ', K b σ' → Fr c.h₀ c.L h' m → W c.w c.h₀ c.L h' fz' hm' σ' → En c h' fz' hm' → Ext h fz hm h' fz' hm' → Q b (c.st h' tk')) :
    wpAny (model pw c.w) c.A t Q E (c.st h tk) :=
  s m h fz hm σ tk Q E K F X N e fun b h' tk' fz' hm' σ' a X' x => k b h' tk' fz' hm' σ' a (X.fr F x) X' (N.ext x) x
theorem nm_of {s : Str} {i : Nat} (e : nmOk s i = true) : i < nsz ∧ s = sN i ∧ (s == ("__debug__" : Str)) = false ∧ (s == ("__classdict__" : Str)) = false := by
  exact ⟨Nat.le_of_ble_eq_true (a1 e), eq_of_beq (a1 (a2 e)), not_t (a1 (a2 (a2 e))), not_t (a2 (a2 (a2 e)))⟩
theorem kind_of {sc : Scope} {s : Str} {k : NameKind} (e : kindIs sc s k = true) (N : En c h fz hm) (hs : c.sc = sc) : c.env.kindOf s = some k := by
  unfold kindIs at e
  unfold Env.kindOf
  rw [N.hsc, hs]
  exact beq_iff_eq.mp e
theorem SX.loc {i : Nat} {s : Str} {p : Pos} {tb : Tab} {cp : CP} {k : Nat} (hn : nmOk s i = true) (hk : kindIs c.sc s .local = true) : SX c (fun σ K => ev tb cp c.κ (k + 1) (.loc i) c.ρ σ K) (eval (.Name s p) c.env) := by
  intro m h fz hm σ tk Q E K F X N e hQ
  obtain ⟨hi, rfl, hd, _⟩ := nm_of hn
  refine lvt_m (c := lk c.ρ i) (K := fun v => K v σ) e fun v hl e => ?_
  · obtain ⟨m', hns, V⟩ := N.ns
    obtain ⟨x, hx, r⟩ := V _ _ hl hi
    exact wpAny_Name (wpAny_loadName_local (by rw [N.hsc]; exact N.kind) (kind_of hk N rfl) hns hx (hQ.val X e r)) hd
theorem SX.cel {i : Nat} {s : Str} {p : Pos} {tb : Tab} {cp : CP} {k : Nat} (hn : nmOk s i = true) (hk : (kindIs c.sc s .cell || kindIs c.sc s .free) = true) : SX c (fun σ K => ev tb cp c.κ (k + 1) (.cel i) c.ρ σ K) (eval (.Name s p) c.env) := by
  intro m h fz hm σ tk Q E K F X N e hQ
  obtain ⟨hi, rfl, hd, hd'⟩ := nm_of hn
  have e : (match lk c.κ i with
    | some v => K v σ
    | none => False) := e
  refine some_m (c := lk c.κ i) (K := fun v => K v σ) e fun v hl e => ?_
  · obtain ⟨a, o, x, hc, ho, hdat, r⟩ := N.cells _ _ hl hk
    rcases Bool.or_eq_true_iff.mp hk with hk | hk
    · exact wpAny_Name (wpAny_loadName_cell (by rw [N.hsc]; exact N.kind) (kind_of hk N rfl) hc ⟨o, X.fzo _ _ ho, hdat⟩ (hQ.val X e r)) hd
    · exact wpAny_Name (wpAny_loadName_free (by rw [N.hsc]; exact N.kind) (kind_of hk N rfl) hc ⟨o, X.fzo _ _ ho, hdat⟩ (hQ.val X e r) hd') hd
end
end Mine
end
noncomputable section
open PySem PySem.W PySem.Calls PyProof.Rows
set_option maxRecDepth 100000
set_option maxHeartbeats 8000000
namespace Mine
section
variable {c : Fx} {n : Nat} {mg mb : Str → Option Value} {tb : Tab} {cp : CP} {k : Nat}
theorem blt_t {a b : Nat} (h : Nat.blt a b = true) : a < b := Nat.le_of_ble_eq_true h
theorem con_rep {P : Params} {w : World} {fz : Fz} {hm : Hm} {s : Str} {t : T} (e : conName s t = true) (hP : P = w.params) :
    ∃ v, Rep w fz hm t v ∧ ((nsIn (mK P) mainGlobals s = some (some v)) ∨ (nsIn (mK P) mainGlobals s = some none ∧ bootBuiltins s = some v ∧ s ≠ "__name__")) := by
  obtain ⟨p, hp, e⟩ := List.any_eq_true.mp e
  obtain ⟨x, y⟩ := p
  have e1 : Str.ofString x = s := eq_of_beq (a1 e)
  have e2 : y = t := conEq_of (a2 e)
  clear e
  subst e1 e2
  have this := List.all_eq_true.mp (gNAll_ P) _ hp
  cases y with
  | glob g =>
    obtain ⟨a, ha, this⟩ := onS_t (o := gA[g]?) (k := fun a => nsIn (mK P) mainGlobals (Str.ofString x) == some (some (.ref a))) this
    exact ⟨_, .glob ha, .inl (eq_of_beq this)⟩
  | sym n =>
    obtain ⟨o, hx, this⟩ := onS_t (o := nsIn (mK P) mainGlobals (Str.ofString x)) (k := fun o => onS o fun v => onStr v fun x => x == sN n && Nat.blt n nsz) this
    obtain ⟨v, rfl, this⟩ := onS_t (o := o) this
    obtain ⟨x', t', rfl, this⟩ := onStr_t (z := v) this
    exact ⟨_, .sym n t' (blt_t (a2 this)), .inl (by rw [hx, eq_of_beq (a1 this)])⟩
  | bi n =>
    have this : (nsIn (mK P) mainGlobals (Str.ofString x) == some none && (bootBuiltins (Str.ofString x) == biV n && ((biV n).isSome && !(Str.ofString x == ("__name__" : Str))))) = true := this
    have h3 := a2 (a2 this)
    obtain ⟨v, hv⟩ := Option.isSome_iff_exists.mp (a1 h3)
    exact ⟨v, .bi hv, .inr ⟨eq_of_beq (a1 this), (eq_of_beq (a1 (a2 this))).trans hv, fun q => by
      have a4 := not_t (a2 h3)
      rw [q, beq_self_eq_true] at a4
      exact nT a4.symm⟩⟩
  | _ => exact nT this
theorem SX.glob {t : T} {s : Str} {p : Pos} (Z : Act c.w mg mb n c.A c.h₀ c.L) (hk : kindIs c.sc s .globalImplicit = true) (hd : (s == ("__debug__" : Str)) = false) (hc : conName s t = true) :
    SX c (fun σ K => ev tb cp c.κ (k + 1) (.con t) c.ρ σ K) (eval (.Name s p) c.env) := by
  intro m h fz hm σ tk Q E K F X N e hQ
  obtain ⟨v, r, hv⟩ := con_rep (w := c.w) (fz := fz) (hm := hm) hc rfl
  have e : K t σ := e
  refine Name_function_global (by rw [N.hsc]; exact N.kind) (kind_of hk N rfl) ?_ hd
  have hg : (c.st h tk).heap.Ns c.env.globals mg := by rw [N.glob]; exact Z.T.g.keeps F.keep
  rcases hv with hv | ⟨h1, h2, h3⟩
  · exact loadGlobal_global hg (mg_of (Z.X.keeps F.keep) (Z.T.g.keeps F.keep) hv) (hQ.val X e r)
  · exact loadGlobal_builtin hg (mg_none_of (Z.X.keeps F.keep) (Z.T.g.keeps F.keep) h1) (by rw [N.blt]; exact Z.T.b.keeps F.keep) ((Z.T.builtins s h3).trans h2) (hQ.val X e r)
theorem SX.const {t : T} {cn : Const} {kk : Nat} {p : Pos} (hc : conConst cn t = true) : SX c (fun σ K => ev tb cp c.κ (k + 1) (.con t) c.ρ σ K) (eval (.Constant cn kk p) c.env) := by
  intro m h fz hm σ tk Q E K F X N e hQ
  have e : K t σ := e
  rw [eval_Constant]
  cases t with
  | none => cases cn with
    | none => exact wpAny_pure (hQ.val X e .none)
    | _ => exact nT hc
  | bool b => cases cn with
    | bool a => rw [show a = b from eq_of_beq hc]; exact wpAny_pure (hQ.val X e (.bool _))
    | _ => exact nT hc
  | int b => cases cn with
    | int a => rw [show a = b from eq_of_beq hc]; exact wpAny_mkInt (hQ.val X e (.int _ _))
    | _ => exact nT hc
  | sym n => cases cn with
    | str s =>
      have q := nm_of hc
      rw [q.2.1]
      exact wpAny_mkText (hQ.val X e (.sym _ _ q.1))
    | _ => exact nT hc
  | _ => exact nT hc
variable {f f' f'' : Sg → (T → Sg → Prop) → Prop} {l r o : PySem.Expr} {p : Pos}
theorem base_plain {o : PySem.Expr} {s : Str} {env : Env} {whole : Sem Value} (hb : plainBase o = true) : attributeBase o s env whole = whole := by
  cases o with
  | Call f as ks p => cases f with
    | Name => cases as with
      | nil => cases ks with
        | nil => exact nT hb
        | cons => rfl
      | cons => rfl
    | _ => rfl
  | _ => rfl
theorem attr_eval {o : PySem.Expr} {s : Str} {env : Env} {p : Pos} (hb : plainBase o = true) : eval (.Attribute o s p) env = (do
      let o' ← eval o env
      standAt p.atName
      let r ← holding [o'] (getAttr o' s true)
      letTemporaryGo o o' r
      pure r) := by
  show (do let o' ← attributeBase o s env (eval o env); standAt p.atName; let r ← holding [o'] (getAttr o' s true); letTemporaryGo o o' r; pure r) = _
  rw [base_plain hb]
theorem SX.attr {a : Nat} {s : Str} (Z : Act c.w mg mb n c.A c.h₀ c.L) (hn : nmOk s a = true) (hb : plainBase o = true) (x : SX c f (eval o c.env)) :
    SX c (fun σ K => f σ fun v σ => attrP tab v a σ fun t => K t σ) (eval (.Attribute o s p) c.env) := by
  intro m h fz hm σ tk Q E K F X N e hQ
  obtain ⟨hi, rfl, _, _⟩ := nm_of hn
  refine Attribute_any_ (x.then F X N e fun t v h' tk' fz' hm' σ' a r F' X' N' x' => ?_) (attr_eval hb)
  exact op_attr X' F' (Z.X) r hi a ((hQ.ext x').mono fun t s q => by rw [q.2]; exact q.1)
theorem SX.idx (hs : notSl r = true) (x : SX c f (eval o c.env)) (y : SX c f' (eval r c.env)) :
    SX c (fun σ K => f σ fun v σ => f' σ fun j σ => idxP v j σ fun t => K t σ) (eval (.Subscript o r p) c.env) := by
  intro m h fz hm σ tk Q E K F X N e hQ
  refine Subscript_ (x.then F X N e fun t v h' tk' fz' hm' σ' a rv F' X' N' x' => ?_)
  refine y.then F' X' N' a fun t' v' h'' tk'' fz'' hm'' σ'' a' rv' F'' X'' N'' x'' => ?_
  exact op_idx X'' (rv.mono x''.sub x''.hmi) rv' hs a' ((hQ.ext (x'.trans x'')).mono fun t s q => by rw [q.2]; exact q.1)
theorem SX.bin {op : Op} (x : SX c f (eval l c.env)) (y : SX c f' (eval r c.env)) :
    SX c (fun σ K => f σ fun u σ => f' σ fun v σ => binP tab op u v fun t => K t σ) (eval (.BinOp l (opOf op) r p) c.env) := by
  intro m h fz hm σ tk Q E K F X N e hQ
  refine wpAny_BinOp (x.then F X N e fun t v h' tk' fz' hm' σ' a rv F' X' N' x' => ?_)
  refine y.then F' X' N' a fun t' v' h'' tk'' fz'' hm'' σ'' a' rv' F'' X'' N'' x'' => ?_
  exact op_bin X'' (rv.mono x''.sub x''.hmi) rv' a' ((hQ.ext (x'.trans x'')).mono fun t s q => by rw [q.2]; exact q.1)
theorem inMarks_ok {op : CmpOp} {r : PySem.Expr} (h : inMarks r = true) : behindInMarks op r = false := by
  cases r <;> first | rfl | cases h
theorem SX.cmp {op : Cm} (Z : Act c.w mg mb n c.A c.h₀ c.L) (hm' : inMarks r = true) (x : SX c f (eval l c.env)) (y : SX c f' (eval r c.env)) :
    SX c (fun σ K => f σ fun u σ => f' σ fun v σ => cmpP op u v σ fun b => K (.bool b) σ) (eval (.Compare l [cmOf op] [r] p) c.env) := by
  intro m h fz hm σ tk Q E K F X N e hQ
  refine wpAny_Compare1 (x.then F X N e fun t v h' tk' fz' hm' σ' a rv F' X' N' x' => ?_) (inMarks_ok hm')
  refine y.then F' X' N' a fun t' v' h'' tk'' fz'' hm'' σ'' a' rv' F'' X'' N'' x'' => ?_
  exact op_cmp X'' (by have := Z.hu; lia) (rv.mono x''.sub x''.hmi) rv' a' fun b tk3 kb => (hQ.ext (x'.trans x'')).val X'' kb (.bool b)
theorem SB.cmp {op : Cm} {whole : Sem Value} (Z : Act c.w mg mb n c.A c.h₀ c.L) (hm' : inMarks r = true) (x : SX c f (eval l c.env)) (y : SX c f' (eval r c.env)) :
    SB c (fun σ K => f σ fun u σ => f' σ fun v σ => cmpP op u v σ fun b => K (.bool b) σ) (isTrue (.Compare l [cmOf op] [r] p) c.env whole) := by
  intro m h fz hm σ tk Q E K F X N e hQ
  refine wpAny_isTrue_Compare1 (x.then F X N e fun t v h' tk' fz' hm' σ' a rv F' X' N' x' => ?_) (inMarks_ok hm')
  refine y.then F' X' N' a fun t' v' h'' tk'' fz'' hm'' σ'' a' rv' F'' X'' N'' x'' => ?_
  exact op_cmp X'' (by have := Z.hu; lia) (rv.mono x''.sub x''.hmi) rv' a' fun b tk3 kb => wpAny_truthy_bool (hQ.ext (x'.trans x'') _ _ _ _ _ _ kb X'' (Ext.refl ..))
@[elab_as_elim] theorem onB_e {P : T → Prop} {K : Bool → Sg → Prop} {t : T} {σ : Sg} (h : onB K t σ) (f : ∀ b, K b σ → P (.bool b)) : P t := by
  cases t with
  | bool b => exact f b h
  | _ => exact h.elim
theorem SB.plain {e : PySem.Expr} (x : SX c f (eval e c.env)) (he : isTrue e c.env (eval e c.env) = (do let v ← eval e c.env; standAt e.pos; holding [v] (truthy v))) : SB c f (isTrue e c.env (eval e c.env)) := by
  intro m h fz hm σ tk Q E K F X N ee hQ
  refine isTrue_plain (x.then F X N ee fun t v h' tk' fz' hm' σ' a rv F' X' N' x' => ?_) he
  revert rv
  refine onB_e a fun b a rv => rv.bool_e ?_
  exact wpAny_truthy_bool (hQ _ _ _ _ _ _ a X' x')
noncomputable def notP (K : T → Sg → Prop) : T → Sg → Prop := fun u σ => match u with
  | .bool b => K (.bool (!b)) σ
  | _ => False
@[elab_as_elim] theorem notP_e {P : T → Prop} {K : T → Sg → Prop} {t : T} {σ : Sg} (h : notP K t σ) (f : ∀ b, K (.bool (!b)) σ → P (.bool b)) : P t := by
  cases t with
  | bool b => exact f b h
  | _ => exact h.elim
theorem SX.not (x : SX c f (eval l c.env)) : SX c (fun σ K => f σ (notP K)) (eval (.UnaryOp .Not l p) c.env) := by
  intro m h fz hm σ tk Q E K F X N e hQ
  refine UnaryOp_ (x.then F X N e fun t v h' tk' fz' hm' σ' a rv F' X' N' x' => ?_)
  revert rv
  refine notP_e a fun b a rv => rv.bool_e ?_
  exact not_of (wpAny_truthy_bool ((hQ.ext x').val X' a (.bool _)))
theorem SB.not {whole : Sem Value} (x : SB c f (isTrue l c.env (eval l c.env))) : SB c (fun σ K => f σ (notP K)) (isTrue (.UnaryOp .Not l p) c.env whole) := by
  intro m h fz hm σ tk Q E K F X N e hQ
  exact isTrue_not (x.then (K := fun b s => K (!b) s) F X N e fun b h' tk' fz' hm' σ' a F' X' N' x' => hQ _ _ _ _ _ _ a X' x')
noncomputable def andP (f' : Sg → (T → Sg → Prop) → Prop) (K : T → Sg → Prop) : T → Sg → Prop := fun u σ => match u with
  | .bool true => f' σ K
  | .bool false => K (.bool false) σ
  | _ => False
noncomputable def orP (f' : Sg → (T → Sg → Prop) → Prop) (K : T → Sg → Prop) : T → Sg → Prop := fun u σ => match u with
  | .bool true => K (.bool true) σ
  | .bool false => f' σ K
  | _ => False
noncomputable def iteP (f' f'' : Sg → (T → Sg → Prop) → Prop) (K : T → Sg → Prop) : T → Sg → Prop := fun u σ => match u with
  | .bool true => f' σ K
  | .bool false => f'' σ K
  | _ => False
@[elab_as_elim] theorem andP_e {P : T → Prop} {f' : Sg → (T → Sg → Prop) → Prop} {K : T → Sg → Prop} {t : T} {σ : Sg} (h : andP f' K t σ) (f : ∀ b, andP f' K (.bool b) σ → P (.bool b)) : P t := by
  cases t with
  | bool b => exact f b h
  | _ => exact h.elim
@[elab_as_elim] theorem orP_e {P : T → Prop} {f' : Sg → (T → Sg → Prop) → Prop} {K : T → Sg → Prop} {t : T} {σ : Sg} (h : orP f' K t σ) (f : ∀ b, orP f' K (.bool b) σ → P (.bool b)) : P t := by
  cases t with
  | bool b => exact f b h
  | _ => exact h.elim
theorem BoolOp_one {op : BoolOp} {e : PySem.Expr} {pos : Pos} {env : Env} : eval (.BoolOp op [e] pos) env = eval e env := rfl
theorem SX.and (x : SX c f (eval l c.env)) (y : SX c f' (eval r c.env)) : SX c (fun σ K => f σ (andP f' K)) (eval (.BoolOp .And [l, r] p) c.env) := by
  intro m h fz hm σ tk Q E K F X N e hQ
  refine BoolOp_and (x.then F X N e fun t v h' tk' fz' hm' σ' a rv F' X' N' x' => ?_)
  revert rv
  refine andP_e a fun b a rv => rv.bool_e ?_
  cases b with
  | true => exact wpAny_truthy_bool (by rw [if_pos rfl, BoolOp_one]; exact y _ _ _ _ _ _ _ _ _ F' X' N' a (hQ.ext x'))
  | false => exact wpAny_truthy_bool (by rw [if_neg (by decide)]; exact (hQ.ext x').val X' a (.bool _))
theorem SX.or (x : SX c f (eval l c.env)) (y : SX c f' (eval r c.env)) : SX c (fun σ K => f σ (orP f' K)) (eval (.BoolOp .Or [l, r] p) c.env) := by
  intro m h fz hm σ tk Q E K F X N e hQ
  refine BoolOp_or (x.then F X N e fun t v h' tk' fz' hm' σ' a rv F' X' N' x' => ?_)
  revert rv
  refine orP_e a fun b a rv => rv.bool_e ?_
  cases b with
  | true => exact wpAny_truthy_bool (by rw [if_pos rfl]; exact (hQ.ext x').val X' a (.bool _))
  | false => exact wpAny_truthy_bool (by rw [if_neg (by decide), BoolOp_one]; exact y _ _ _ _ _ _ _ _ _ F' X' N' a (hQ.ext x'))
theorem SB.and {whole : Sem Value} (x : SB c f (isTrue l c.env (eval l c.env))) (y : SB c f' (isTrue r c.env (eval r c.env))) : SB c (fun σ K => f σ (andP f' K)) (isTrue (.BoolOp .And [l, r] p) c.env whole) := by
  intro m h fz hm σ tk Q E K F X N e hQ
  refine isTrue_and (x.then (K := fun b s => if b = true then f' s (onB K) else K false s) F X N ?_ fun b h' tk' fz' hm' σ' a F' X' N' x' => ?_)
  · have : andP f' (onB K) = onB fun b s => if b = true then f' s (onB K) else K false s := by
      funext t s
      cases t <;> try rfl
      rename_i b
      cases b <;> rfl
    rw [this] at e; exact e
  · cases b with
    | true =>
      rw [if_pos rfl] at a ⊢
      exact isTrue_and (y.then F' X' N' a fun b h'' tk'' fz'' hm'' σ'' a' F'' X'' N'' x'' => by
        cases b with
        | true => rw [if_pos rfl]; exact isTrue_and_nil ((hQ.ext x') _ _ _ _ _ _ a' X'' x'')
        | false => rw [if_neg (by decide)]; exact (hQ.ext x') _ _ _ _ _ _ a' X'' x'')
    | false => rw [if_neg (by decide)] at a ⊢; exact hQ _ _ _ _ _ _ a X' x'
theorem SB.or {whole : Sem Value} (x : SB c f (isTrue l c.env (eval l c.env))) (y : SB c f' (isTrue r c.env (eval r c.env))) : SB c (fun σ K => f σ (orP f' K)) (isTrue (.BoolOp .Or [l, r] p) c.env whole) := by
  intro m h fz hm σ tk Q E K F X N e hQ
  refine isTrue_or (x.then (K := fun b s => if b = true then K true s else f' s (onB K)) F X N ?_ fun b h' tk' fz' hm' σ' a F' X' N' x' => ?_)
  · have : orP f' (onB K) = onB fun b s => if b = true then K true s else f' s (onB K) := by
      funext t s
      cases t <;> try rfl
      rename_i b
      cases b <;> rfl
    rw [this] at e; exact e
  · cases b with
    | false =>
      rw [if_neg (by decide)] at a ⊢
      exact isTrue_or (y.then F' X' N' a fun b h'' tk'' fz'' hm'' σ'' a' F'' X'' N'' x'' => by
        cases b with
        | false => rw [if_neg (by decide)]; exact isTrue_or_nil ((hQ.ext x') _ _ _ _ _ _ a' X'' x'')
        | true => rw [if_pos rfl]; exact (hQ.ext x') _ _ _ _ _ _ a' X'' x'')
    | true => rw [if_pos rfl] at a ⊢; exact hQ _ _ _ _ _ _ a X' x'
variable {tt : PySem.Expr}
theorem ite_on (K : T → Sg → Prop) : iteP f' f'' K = onB fun b s => if b = true then f' s K else f'' s K := by
  funext t s
  cases t <;> try rfl
  rename_i b
  cases b <;> rfl
theorem SX.ite (x : SB c f (isTrue tt c.env (eval tt c.env))) (y : SX c f' (eval l c.env)) (z : SX c f'' (eval r c.env)) : SX c (fun σ K => f σ (iteP f' f'' K)) (eval (.IfExp tt l r p) c.env) := by
  intro m h fz hm σ tk Q E K F X N e hQ
  rw [ite_on] at e
  refine wpAny_IfExp (x.then F X N e fun b h' tk' fz' hm' σ' a F' X' N' x' => ?_)
  cases b with
  | true => rw [if_pos rfl] at a ⊢; exact y _ _ _ _ _ _ _ _ _ F' X' N' a (hQ.ext x')
  | false => rw [if_neg (by decide)] at a ⊢; exact z _ _ _ _ _ _ _ _ _ F' X' N' a (hQ.ext x')
theorem SB.ite {whole : Sem Value} (x : SB c f (isTrue tt c.env (eval tt c.env))) (y : SB c f' (isTrue l c.env (eval l c.env))) (z : SB c f'' (isTrue r c.env (eval r c.env))) :
    SB c (fun σ K => f σ (iteP f' f'' K)) (isTrue (.IfExp tt l r p) c.env whole) := by
  intro m h fz hm σ tk Q E K F X N e hQ
  rw [ite_on] at e
  refine isTrue_IfExp (x.then F X N e fun b h' tk' fz' hm' σ' a F' X' N' x' => ?_)
  cases b with
  | true => rw [if_pos rfl] at a ⊢; exact y _ _ _ _ _ _ _ _ _ F' X' N' a (hQ.ext x')
  | false => rw [if_neg (by decide)] at a ⊢; exact z _ _ _ _ _ _ _ _ _ F' X' N' a (hQ.ext x')
end
section
variable {w : World} {h₀ h h' h'' : Heap} {L a : Addr} {fz fz' : Fz} {hm hm' : Hm} {σ : Sg} {m : Str → Option Value} {o : Obj}
noncomputable def addF (fz : Fz) (a : Addr) (o : Obj) : Fz := fun b p => fz b p ∨ (b = a ∧ p = o)
theorem W.other (X : W w h₀ L h fz hm σ) (hs : Heap.SameBut a h h') (hn : ¬ Mt hm a) (hf : ∀ o, ¬ fz a o) : W w h₀ L h' fz hm σ := by
  refine ⟨X.len, fun b p e => ?_, X.fzm, X.nd, fun i c p e1 e2 => ?_, X.mt, fun k b e => ?_⟩
  · exact (hs.2 b fun q => hf p (q ▸ e)).trans (X.fzo _ _ e)
  · obtain ⟨o, g, r⟩ := X.cell i c p e1 e2
    exact ⟨o, (hs.2 _ fun q => hn (q ▸ X.cell_mt e2)).trans g, r⟩
  · obtain ⟨o, g, r⟩ := X.tab k b e
    exact ⟨o, (hs.2 _ fun q => hn (q ▸ .inr (List.mem_of_getElem? e))).trans g, r⟩
theorem W.freeze (X : W w h₀ L h fz hm σ) (ho : h.get? a = some o) (hn : ¬ Mt hm a) : W w h₀ L h (addF fz a o) hm σ := by
  refine ⟨X.len, fun b p e => ?_, fun b p e => ?_, X.nd, fun i c p e1 e2 => ?_, X.mt, fun k b e => ?_⟩
  · rcases e with e | ⟨rfl, rfl⟩
    · exact X.fzo _ _ e
    · exact ho
  · rcases e with e | ⟨rfl, rfl⟩
    · exact X.fzm _ _ e
    · exact hn
  · obtain ⟨o, g, r⟩ := X.cell i c p e1 e2
    exact ⟨o, g, r.mono (fun _ _ => .inl) fun _ _ e => e⟩
  · obtain ⟨o, g, r⟩ := X.tab k b e
    exact ⟨o, g, r.mono fun _ _ => .inl⟩
theorem Ext.other (x : Ext h fz hm h' fz' hm') (hs : Heap.SameBut a h' h'') (hn : h.get? a = none) : Ext h fz hm h'' fz' hm' := by
  refine ⟨fun b o e q => ?_, x.sub, x.new, x.hmx, fun b e => ?_⟩
  · exact (hs.2 b fun z => by rw [z, hn] at e; cases e).trans (x.keep b o e q)
  · by_cases q : b = a
    · rw [q]; exact hn
    · rw [hs.2 b q] at e; exact x.dom b e
theorem Ext.freeze (x : Ext h fz hm h' fz' hm') (hn : h.get? a = none) : Ext h fz hm h' (addF fz' a o) hm' :=
  ⟨x.keep, fun b p e => .inl (x.sub b p e), fun b p e => by
    rcases e with e | ⟨rfl, rfl⟩
    · exact x.new b p e
    · exact .inr hn, x.hmx, x.dom⟩
theorem W.fresh_mt (X : W w h₀ L h fz hm σ) (hn : h.get? a = none) : ¬ Mt hm a := fun e => by
  obtain ⟨o, ho⟩ := X.lives e
  rw [ho] at hn; cases hn
theorem W.fresh_fz (X : W w h₀ L h fz hm σ) (hn : h.get? a = none) (o : Obj) : ¬ fz a o := fun e => by
  rw [X.fzo _ _ e] at hn; cases hn
theorem W.addCell {c : Cell} {p : Addr × Addr} (X : W w h₀ L h fz hm σ) (F : Fr h₀ L h m) (hp : p.2 = h.objs.size) (hf : o.isFreed = false) (hc : CellO w fz (hm ++ [p]) p o c) : W w h₀ L (h.push o) fz (hm ++ [p]) (σ ++ [c]) := by
  have hn := get_none_size h
  have fr : ¬ Mt hm h.objs.size := X.fresh_mt hn
  refine ⟨by rw [List.length_append, List.length_append, X.len]; rfl, fun b q e => Heap.get?_push_of_some _ (X.fzo _ _ e), fun b q e z => ?_, ?_, fun i c' p' e1 e2 => ?_, fun b e => ?_, fun k b e => ?_⟩
  · rcases z with z | z
    · rw [List.map_append, List.mem_append] at z
      rcases z with z | z
      · exact X.fzm _ _ e (.inl z)
      · have : b = p.2 := by simpa using z
        rw [this, hp] at e; exact X.fresh_fz hn _ e
    · exact X.fzm _ _ e (.inr z)
  · have nd := X.nd
    have e1 : (hm ++ [p]).map (·.2) ++ tA = hm.map (·.2) ++ ([p.2] ++ tA) := by rw [List.map_append, List.append_assoc]; rfl
    rw [e1]
    rw [List.nodup_append] at nd ⊢
    have hm1 : p.2 ∉ hm.map (·.2) := fun z => fr (hp ▸ .inl z)
    have hm2 : p.2 ∉ tA := fun z => fr (hp ▸ .inr z)
    refine ⟨nd.1, ?_, fun a ha b hb q => ?_⟩
    · exact List.nodup_cons.mpr ⟨hm2, nd.2.1⟩
    · rcases List.mem_cons.mp hb with rfl | hb
      · exact hm1 (q ▸ ha)
      · exact nd.2.2 a ha b hb q
  · have hl := X.len
    by_cases hi : i < σ.length
    · rw [List.getElem?_append_left hi] at e1
      rw [List.getElem?_append_left (by lia)] at e2
      obtain ⟨o', g, r⟩ := X.cell i c' p' e1 e2
      exact ⟨o', Heap.get?_push_of_some _ g, r.mono (fun _ _ e => e) fun j q e => by rw [List.getElem?_append_left (List.getElem?_eq_some_iff.mp e).1]; exact e⟩
    · rw [List.getElem?_append_right (by lia)] at e1 e2
      have hi' : i - σ.length = 0 := by
        have := (List.getElem?_eq_some_iff.mp e1).1
        simp only [List.length_singleton] at this; lia
      rw [hi'] at e1
      rw [hl, hi'] at e2
      cases e1; cases e2
      exact ⟨o, by rw [hp]; exact Heap.get?_push_size _ hf, hc⟩
  · have nw : b = h.objs.size → b ≠ L ∧ h₀.get? b = none := fun q => by
      subst q
      refine ⟨fun z => ?_, Fr.lt_base F hn⟩
      obtain ⟨o, _, _, ho, _⟩ := F.ns
      rw [z, ho] at hn; cases hn
    rcases e with e | e
    · rw [List.map_append, List.mem_append] at e
      rcases e with e | e
      · exact X.mt b (.inl e)
      · exact nw (by have : b = p.2 := by simpa using e
                     rw [this, hp])
    · exact X.mt b (.inr e)
  · obtain ⟨o', g, r⟩ := X.tab k b e
    exact ⟨o', Heap.get?_push_of_some _ g, r⟩
theorem ext_cell (h : Heap) (fz : Fz) (hm : Hm) (p : Addr × Addr) (o : Obj) (hp : p.2 = h.objs.size) : Ext h fz hm (h.push o) fz (hm ++ [p]) :=
  ⟨fun b o' e _ => Heap.get?_push_of_some _ e, fun _ _ e => e, fun _ _ e => .inl e, ⟨[p], rfl, fun q e => by
    cases e with
    | head => rw [hp]; exact get_none_size h
    | tail _ z => exact nomatch z⟩, fun b e => by
    cases q : h.get? b with
    | none => rfl
    | some z => rw [Heap.get?_push_of_some _ q] at e; cases e⟩
end
section
variable {c : Fx} {n : Nat} {mg mb : Str → Option Value} {f f' : Sg → (T → Sg → Prop) → Prop} {p : Pos}
theorem starEach_cons {env : Env} {e : PySem.Expr} {rest : List PySem.Expr} (h : isStar e = false) : starEach (e :: rest) env = (false, eval e env) :: starEach rest env := by
  cases e with
  | Starred => cases h
  | _ => rfl
theorem evs_ok {G : X → Sg → (T → Sg → Prop) → Prop} {chk : X → PySem.Expr → Bool} (IH : ∀ x e, chk x e = true → SX c (G x) (eval e c.env)) :
    ∀ (l : List X) (es : List PySem.Expr), allX chk l es = true → ∀ (m : Str → Option Value) (h : Heap) (fz : Fz) (hm : Hm) (σ : Sg) (tk : Nat) (Q : List Value → Shared → Prop) (E : Value → Shared → Prop) (K : List T → Sg → Prop),
      Fr c.h₀ c.L h m → W c.w c.h₀ c.L h fz hm σ → En c h fz hm → evs G l σ K →
      (∀ ts vs h' tk' fz' hm' σ', K ts σ' → ts.length = l.length → RepL c.w fz' hm' ts vs → Fr c.h₀ c.L h' m → W c.w c.h₀ c.L h' fz' hm' σ' → En c h' fz' hm' → Ext h fz hm h' fz' hm' → Q vs (c.st h' tk')) →
      wpAny (model pw c.w) c.A (spliced (backTo p (starEach es c.env))) Q E (c.st h tk) := by
  intro l
  induction l with
  | nil => intro es hc; cases es with
    | nil => exact fun m h fz hm σ tk Q E K F X N e k => spliced_none (k [] [] h tk fz hm σ e rfl .nil F X N (Ext.refl ..))
    | cons => exact nT hc
  | cons x r ih => intro es hc; cases es with
    | nil => exact nT hc
    | cons ex s =>
      intro m h fz hm σ tk Q E K F X N e k
      refine args_cons ((IH x ex (a1 (a2 hc))).then F X N e fun t v h' tk' fz' hm' σ' a rv F' X' N' x' => ?_) (starEach_cons (not_t (a1 hc)))
      exact ih s (a2 (a2 hc)) m h' fz' hm' σ' tk' _ E _ F' X' N' a fun ts vs h'' tk'' fz'' hm'' σ'' a' hl rl F'' X'' N'' x'' => k _ _ _ _ _ _ _ a' (congrArg (· + 1) hl) (.cons (rv.mono x''.sub x''.hmi) rl) F'' X'' N'' (x'.trans x'')
variable {G : X → Sg → (T → Sg → Prop) → Prop} {chk : X → PySem.Expr → Bool} {l : List X} {es : List PySem.Expr} {kk : Nat}
theorem SX.tup (IH : ∀ x e, chk x e = true → SX c (G x) (eval e c.env)) (hc : allX chk l es = true) (hl : Nat.blt l.length 1000 = true) : SX c (fun σ K => evs G l σ fun vs σ => K (.tup vs) σ) (eval (.Tuple es kk p) c.env) := by
  intro m h fz hm σ tk Q E K F X N e hQ
  refine Tuple_ (evs_ok IH l es hc m h fz hm σ tk _ E _ F X N e fun ts vs h' tk' fz' hm' σ' a hn rl F' X' N' x' => ?_)
  exact tup_new X' rl (by rw [← rl.length, hn]; have := Nat.le_of_ble_eq_true hl; rw [sizeLine_eq]; lia) a (hQ.ext x')
theorem SX.lst (IH : ∀ x e, chk x e = true → SX c (G x) (eval e c.env)) (hc : allX chk l es = true) (hl : Nat.blt l.length 1000 = true) : SX c (fun σ K => evs G l σ fun vs σ => K (.lst vs) σ) (eval (.List es p) c.env) := by
  intro m h fz hm σ tk Q E K F X N e hQ
  refine List_ (evs_ok IH l es hc m h fz hm σ tk _ E _ F X N e fun ts vs h' tk' fz' hm' σ' a hn rl F' X' N' x' => ?_)
  exact lst_new X' rl (by rw [← rl.length, hn]; have := Nat.le_of_ble_eq_true hl; rw [sizeLine_eq]; lia) a (hQ.ext x')
theorem SX.cellL (IH : ∀ x e, chk x e = true → SX c (G x) (eval e c.env)) (hc : allX chk l es = true) (hl : Nat.blt l.length 1000 = true) :
    SX c (fun σ K => evs G l σ fun vs σ => K (.own σ.length) (σ ++ [.lst vs])) (eval (.List es p) c.env) := by
  intro m h fz hm σ tk Q E K F X N e hQ
  refine List_ (evs_ok IH l es hc m h fz hm σ tk _ E _ F X N e fun ts vs h' tk' fz' hm' σ' a hn rl F' X' N' x' => ?_)
  refine wpAny_newObj_type ?_ (by show vs.toArray.size ≤ sizeLine; rw [List.size_toArray, ← rl.length, hn]; have := Nat.le_of_ble_eq_true hl; rw [sizeLine_eq]; lia)
  have up : ∀ (i : Nat) (q : Addr × Addr), hm'[i]? = some q → (hm' ++ [(h'.objs.size, h'.objs.size)])[i]? = some q := fun i q e => by rw [List.getElem?_append_left (List.getElem?_eq_some_iff.mp e).1]; exact e
  refine (hQ.ext x') _ _ _ _ _ (hm' ++ [(h'.objs.size, h'.objs.size)]) _ a (.own (p := (h'.objs.size, h'.objs.size)) ?_) (X'.addCell F' rfl rfl ⟨rfl, rfl, vs.toArray, 0, rfl, rl.mono (fun _ _ e => e) up, rfl, rfl⟩) (ext_cell _ _ _ _ _ rfl)
  rw [← X'.len, List.getElem?_append_right (Nat.le_refl _), Nat.sub_self]; rfl
end
noncomputable def srevOk : Bool := tab.srev.all fun q => Nat.blt q.1 nsz && (Nat.blt q.2 nsz && ((⟨((Builtin.Str.strSliceIndices none none (-1) (sN q.1).length).filterMap ((sN q.1).cps[·]?)).toArray⟩ : Str) == sN q.2))
theorem srevOk_ : srevOk = true := by kernel_rfl
section
variable {c : Fx} {n : Nat} {mg mb : Str → Option Value} {f f' : Sg → (T → Sg → Prop) → Prop} {p p1 p2 p3 : Pos} {o k v : PySem.Expr} {kk : Nat}
noncomputable def revP (K : T → Sg → Prop) : T → Sg → Prop := fun v σ => match v with
  | .lst l => l.length < 1000000 ∧ K (.lst l.reverse) σ
  | .sym s => (match lk tab.srev s with
    | some r => K (.sym r) σ
    | none => False)
  | _ => False
theorem keeps_push (h : Heap) (o : Obj) : ∀ b x, h.get? b = some x → (h.push o).get? b = some x := fun _ _ e => Heap.get?_push_of_some _ e
theorem SX.rev (x : SX c f (eval o c.env)) :
    SX c (fun σ K => f σ (revP K)) (eval (.Subscript o (.Slice none none (some (.UnaryOp .USub (.Constant (.int 1) kk p1) p2)) p3) p) c.env) := by
  intro m h fz hm σ tk Q E K F X N e hQ
  refine Subscript_ (x.then F X N e fun t v h' tk' fz' hm' σ' a r F' X' N' x' => ?_)
  refine wpAny_Slice ?_
  refine wpAny_pure (wpAny_pure ?_)
  show wpAny (model pw c.w) c.A (eval (.UnaryOp .USub (.Constant (.int 1) kk p1) p2) c.env) _ E _
  refine UnaryOp_ ?_
  rw [eval_Constant]
  refine wpAny_mkInt (P.neg_int ?_)
  have X1 := X'.keeps (keeps_push h' { cls := .type "slice", data := .fields #[.none, .none, .int (-1) (tk' + 1)] })
  have x1 := x'.trans (Ext.keeps fz' hm' (keeps_push h' { cls := .type "slice", data := .fields #[.none, .none, .int (-1) (tk' + 1)] }))
  cases r with
  | @lst _ _ _ ws _ h1 h2 h3 h4 =>
    obtain ⟨hl, hk⟩ := a
    refine tail_any (T := "list") ⟨_, X1.fzo _ _ h1, h2⟩ list_getitem_lookup (wpAny_getItem_list_slice (st := some (-1)) (fz_lst (X1.fzo _ _ h1) h2 h3) (Heap.IsSliceOf.new ..) .none .none (.int _ _) (by decide) ?_ ?_) (ops := [.ref _, .ref _]) rfl
    · refine (hQ.ext x1).push X1 rfl hk fun fz'' hf e => .lst e rfl rfl ?_
      rw [krv_pick]
      exact (h4.mono hf fun _ _ e => e).reverse
    · have := h4.length
      have e' : ws.size = ws.toList.length := Array.length_toList.symm
      rw [sizeLine_eq]; lia
  | sym n t hn =>
    have a : (match lk tab.srev n with
      | some r => K (.sym r) σ'
      | none => False) := a
    cases hr : lk tab.srev n with
    | none => rw [hr] at a; exact a.elim
    | some r =>
    rw [hr] at a
    have this := List.all_eq_true.mp srevOk_ _ (lk_mem hr)
    have h2 : r < nsz := Nat.le_of_ble_eq_true (a1 (a2 this))
    refine tail_any (T := "str") (typeIs_str _ _ _) PySem.F.slot_str_getitem.lookup (wpAny_getItem_str_slice (l := none) (u := none) (st := some (-1, tk' + 1)) ⟨_, Heap.get?_push_size _ rfl, rfl, rfl⟩ rfl ?_) (ops := [.str _ _, .ref _]) rfl
    refine (show (Made.str ⟨((Builtin.Str.strSliceIndices none none (-1) (sN n).length).filterMap ((sN n).cps[·]?)).toArray⟩).post Q _ from ?_)
    rw [eq_of_beq (a2 (a2 this))]
    refine ⟨?_, (hQ.ext x1).val X1 a (.sym _ _ h2)⟩
    have := sN_len r h2
    rw [sizeLine_eq]; lia
  | _ => exact a.elim
theorem SX.dct0 (Z : Act c.w mg mb n c.A c.h₀ c.L) : SX c (fun σ K => K (.dct []) σ) (eval (.Dict [] [] p) c.env) := by
  intro m h fz hm σ tk Q E K F X N e hQ
  refine wpAny_Dict_empty ?_
  refine hQ.push X rfl e fun fz' hf e => .dct e (F.notModules (modules_low Z.T.nolimit)) ?_ .nil
  obtain ⟨o, ho, hd⟩ := Heap.dictOf_iff.mp (Heap.DictOf.new (knd := SK c.w) h)
  rw [Heap.get?_push_size _ rfl] at ho
  cases ho; exact hd
theorem SX.cellD (Z : Act c.w mg mb n c.A c.h₀ c.L) : SX c (fun σ K => K (.own σ.length) (σ ++ [.dct []])) (eval (.Dict [] [] p) c.env) := by
  intro m h fz hm σ tk Q E K F X N e hQ
  refine wpAny_Dict_empty ?_
  refine hQ _ _ _ _ _ (hm ++ [(h.objs.size, h.objs.size)]) _ e (.own (p := (h.objs.size, h.objs.size)) ?_) (X.addCell F rfl rfl ⟨rfl, F.notModules (modules_low Z.T.nolimit), [], ?_, .nil⟩) (ext_cell _ _ _ _ _ rfl)
  · rw [← X.len, List.getElem?_append_right (Nat.le_refl _), Nat.sub_self]; rfl
  · obtain ⟨o, ho, hd⟩ := Heap.dictOf_iff.mp (Heap.DictOf.new (knd := SK c.w) h)
    rw [Heap.get?_push_size _ rfl] at ho
    cases ho; exact hd
noncomputable def dctP (f' : Sg → (T → Sg → Prop) → Prop) (K : T → Sg → Prop) : T → Sg → Prop := fun k σ => f' σ fun v σ => (match k with
  | .sym s => K (.dct [(s, v)]) σ
  | _ => False)
theorem SX.dct1 (Z : Act c.w mg mb n c.A c.h₀ c.L) (x : SX c f (eval k c.env)) (y : SX c f' (eval v c.env)) : SX c (fun σ K => f σ (dctP f' K)) (eval (.Dict [some k] [v] p) c.env) := by
  intro m h fz hm σ tk Q E K F X N e hQ
  refine wpAny_Dict_walk (knd := SK c.w) rfl rfl (by simp) (by show 1 ≤ 15; decide) (pairTrees_cons_walk ?_)
  have hn : h.get? h.objs.size = none := get_none_size h
  have x0 := Ext.keeps fz hm (keeps_push h { cls := .type "dict", data := .dict #[] })
  have hlive : (h.push { cls := .type "dict", data := .dict #[] }).get? h.objs.size ≠ none := by rw [Heap.get?_push_size _ rfl]; exact fun z => nomatch z
  refine x.then (F.push _) (X.keeps (keeps_push h _)) (N.ext x0) e fun t1 v1 h1 tk1 fz1 hm1 σ1 a1 r1 F1 X1 N1 x1 => ?_
  refine y.then F1 X1 N1 a1 fun t2 v2 h2 tk2 fz2 hm2 σ2 a2 r2 F2 X2 N2 x2 => ?_
  refine pairTrees_nil_walk ?_
  cases t1 with
  | sym s =>
    cases r1 with
    | sym _ t hs =>
      have x02 := x0.trans (x1.trans x2)
      have x12 := x1.trans x2
      have nm : ¬ Mt hm2 h.objs.size := x12.mt hlive (X.fresh_mt hn)
      have nf : ∀ o, ¬ fz2 h.objs.size o := fun o q => (x12.new _ _ q).elim (X.fresh_fz hn o) hlive
      have hk : (SK c.w).is (sN s) (.str (sN s) t) = true := strKind_is _ _ _ _
      refine ⟨[(sN s, v2)], ⟨hk, rfl, trivial⟩, ?_, fun h3 hd hs3 => ?_⟩
      · obtain ⟨o, es, ep, ho, hr⟩ := Heap.DictOf.new (knd := SK c.w) h
        exact ⟨o, es, ep, x12.keep _ _ ho (X.fresh_mt hn), hr⟩
      · obtain ⟨o, ho, hdo⟩ := Heap.dictOf_iff.mp hd
        have X3 := (X2.other hs3 nm nf).freeze ho nm
        have x3 := (x02.other hs3 hn).freeze (o := o) hn
        refine hQ _ _ _ _ _ _ _ a2 (.dct (.inr ⟨rfl, rfl⟩) (F.notModules (modules_low Z.T.nolimit)) hdo (.cons hs (r2.mono (fun _ _ => .inl) fun _ _ e => e) .nil)) X3 x3
  | _ => exact a2.elim
end
noncomputable def isi1 (P : Params) (d : Nat) : Bool := match gA[d]? with
  | some D => plainGet (mK P) D "__class__" && (hasDictIn (mK P) D && (findIn (mK P) (.ref D) "__class__" == some (some (.builtin "object.__class__")) && (mroIn (mK P) D (.type "object") == some true &&
    ((List.range 72).all fun g => !(isT g) || (match gA[g]? with
      | some G => kitOne (mK P) (.ref D) (.ref G) == some (Nat.beq g d)
      | none => false)))))
  | none => false
noncomputable def isiAll (P : Params) : Bool := specialIn (mK P) (.builtin "object.__class__") "__get__" == some (some (.builtin "getset_descriptor.__get__")) && (takesIn (mK P) (.builtin "object.__class__") == some true && ((List.range 65).all fun d => !(isC d) || isi1 P d))
theorem isiAll_ (P : Params) : isiAll P = true := by kernel_rfl
noncomputable def sstrOk : Bool := tab.sstr.all fun q => Nat.blt q.1 1000 && (Nat.blt q.2 nsz && (Str.ofString (toString (Int.ofNat q.1)) == sN q.2))
theorem sstrOk_ : sstrOk = true := by kernel_rfl
section
variable {w : World} {A : Around} {E : Value → Shared → Prop} {g : Array GenState} {d : Drawn} {tk : Nat} {os : OsState} {h₀ h : Heap} {L : Addr} {m : Str → Option Value} {fz : Fz} {hm : Hm} {σ : Sg} {Q : Value → Shared → Prop} {mg mb : Str → Option Value} {k : Nat}
structure IsiF (P : Params) (d : Nat) (D : Addr) : Prop where
  a : plainGet (mK P) D "__class__" = true
  b : hasDictIn (mK P) D = true
  c : findIn (mK P) (.ref D) "__class__" = some (some (.builtin "object.__class__"))
  e : mroIn (mK P) D (.type "object") = some true
  f : ∀ g G, isT g = true → gA[g]? = some G → kitOne (mK P) (.ref D) (.ref G) = some (Nat.beq g d)
theorem isT_lt {g : Nat} (h : isT g = true) : g < 72 := by
  unfold isT at h
  simp only [Bool.and_eq_true] at h
  have := Nat.le_of_ble_eq_true h.2.1
  lia
theorem isC_lt {g : Nat} (h : isC g = true) : g < 65 := by
  unfold isC at h
  simp only [Bool.and_eq_true] at h
  have := Nat.le_of_ble_eq_true h.2
  lia
theorem isi_of (P : Params) {d : Nat} {D : Addr} (hd : isC d = true) (hD : gA[d]? = some D) : IsiF P d D := by
  have := isiAll_ P
  unfold isiAll at this
  simp only [Bool.and_eq_true] at this
  have := List.all_eq_true.mp this.2.2 d (List.mem_range.mpr (isC_lt hd))
  rw [hd] at this
  unfold isi1 at this
  rw [hD] at this
  simp only [Bool.not_true, Bool.false_or, Bool.and_eq_true, beq_iff_eq] at this
  obtain ⟨a, b, c, e, f⟩ := this
  refine ⟨a, b, c, e, fun g G hg hG => ?_⟩
  have := List.all_eq_true.mp f g (List.mem_range.mpr (isT_lt hg))
  rw [hg, hG] at this
  simpa only [Bool.not_true, Bool.false_or, beq_iff_eq] using this
theorem isi_kit (P : Params) {d : Nat} {D x : Addr} {ox od : Obj} (hd : isC d = true) (hD : gA[d]? = some D) : KitX (mK P) (.ref x) (.ref D) (fun h => InstAt h x ox D (some od)) := by
  have f := isi_of P hd hD
  have := isiAll_ P
  unfold isiAll at this
  simp only [Bool.and_eq_true, beq_iff_eq] at this
  exact kitx_own f.a f.b f.c this.1 this.2.1 f.e
theorem clsIs_cons {c : Nat} {t : T} {r : List T} {b : Bool} (e : clsIs c (t :: r) = some b) : ∃ g, t = .glob g ∧ isT g = true ∧ (Nat.beq g c = true ∧ b = true ∨ Nat.beq g c = false ∧ clsIs c r = some b) := by
  cases t with
  | glob g =>
    have e : (match isT g, Nat.beq g c with
      | true, true => some true
      | true, false => clsIs c r
      | false, _ => Option.none) = some b := e
    cases q : isT g with
    | false => rw [q] at e; exact nS e
    | true =>
      rw [q] at e
      cases q' : Nat.beq g c with
      | true => rw [q'] at e; exact ⟨g, rfl, q, .inl ⟨q', (Option.some.inj e).symm⟩⟩
      | false => rw [q'] at e; exact ⟨g, rfl, q, .inr ⟨q', e⟩⟩
  | _ => exact nS e
theorem isi_any {P : Params} {d : Nat} {D : Addr} (f : IsiF P d D) : ∀ {l : List T} {vs : List Value} {b : Bool}, RepL w fz hm l vs → clsIs d l = some b → kitAny (mK P) (.ref D) vs = some b := by
  intro l
  induction l with
  | nil => intro vs b r e; exact r.nil_e e
  | cons t l ih =>
    intro vs b r e
    obtain ⟨g, rfl, h1, h2⟩ := clsIs_cons e
    refine r.cons_e fun v vs r rs => r.glob_e fun G hg => ?_
    unfold kitAny
    rw [f.f g _ h1 hg]
    rcases h2 with ⟨q, rfl⟩ | ⟨q, e⟩
    · rw [q]
    · rw [q]; exact ih rs e
theorem isi_ii (P : Params) : kitOne (mK P) (.type "int") (.type "int") = some true := by kernel_rfl
theorem isi_ti (P : Params) : kitOne (mK P) (.type "tuple") (.type "int") = some false := by kernel_rfl
theorem bi_isi {v c : T} {vv cv : Value} {K : Bool → Prop} (X : W w h₀ L h fz hm σ) (F : Fr h₀ L h m) (X₀ : (mK w.params).In h₀) (rv : Rep w fz hm v vv) (rc : Rep w fz hm c cv) (he : isiP v c σ K)
    (hQ : ∀ b tk, K b → Q (.bool b) ⟨h, g, d, tk, os⟩) : wpAny (model pw w) A (PySem.call (.builtin "isinstance") [vv, cv]) Q E ⟨h, g, d, tk, os⟩ := by
  have XK : (mK w.params).In h := X₀.keeps F.keep
  cases v with
  | inst dd fs =>
    obtain ⟨x, C, es, n, kvs, dx, rfl, h0, hC, I, -, -, -⟩ := inst_at X rv (.inl rfl)
    have f := isi_of w.params h0 hC
    cases c with
    | glob g' => exact rc.glob_e fun a hg => kia_one (isi_kit w.params h0 hC) XK I (f.f g' _ he.1 hg) (fun q => nomatch q) fun tk => hQ _ _ he.2
    | tup l =>
      refine oP_e he fun b hb he => rc.tup_e fun tp o its n h1 h2 h3 h4 => ?_
      obtain ⟨oc, od, odat, osl⟩ := o
      cases h2; cases h3
      exact kia_tup (its := its.toList) (isi_kit w.params h0 hC) XK I (X.fzo _ _ h1) (isi_any f h4 hb) (fun q => nomatch q) fun tk => hQ _ _ he
    | _ => exact he.elim
  | own i =>
    revert rc
    refine tGlob_e he fun g' he rc => cI_e he fun dd fs hcell he => ?_
    obtain ⟨x, C, es, n, kvs, dx, rfl, h0, hC, I, -, -, -⟩ := inst_at X rv (.inr ⟨_, rfl, hcell⟩)
    have f := isi_of w.params h0 hC
    exact rc.glob_e fun a hg => kia_one (isi_kit w.params h0 hC) XK I (f.f g' _ he.1 hg) (fun q => nomatch q) fun tk => hQ _ _ he.2
  | int a =>
    refine is7_e he fun q hk => rv.int_e fun t => ?_
    cases q
    cases rc.bi_i
    exact kia_one kitx_int XK trivial (isi_ii w.params) (fun q => nomatch q) fun tk => hQ _ _ hk
  | tup l =>
    refine is7_e he fun q hk => rv.tup_e fun a o vs n h1 h2 h3 h4 => ?_
    cases q
    cases rc.bi_i
    exact kia_one kitx_tuple XK ⟨_, X.fzo _ _ h1, h2⟩ (isi_ti w.params) (fun q => nomatch q) fun tk => hQ _ _ hk
  | _ => exact he.elim
theorem bools_cons {t : T} {r : List T} {bs : List Bool} (e : boolsOf (t :: r) = some bs) : ∃ b l, t = .bool b ∧ boolsOf r = some l ∧ bs = b :: l := by
  cases t with
  | bool b =>
    have e : (match boolsOf r with
      | some l => some (b :: l)
      | none => none) = some bs := e
    cases q : boolsOf r with
    | none => rw [q] at e; exact nS e
    | some l => rw [q] at e; exact ⟨b, l, rfl, rfl, (Option.some.inj e).symm⟩
  | _ => exact nS e
theorem bools_of : ∀ {l : List T} {vs : List Value} {bs : List Bool}, RepL w fz hm l vs → boolsOf l = some bs → LSm.BoolsAre vs bs := by
  intro l
  induction l with
  | nil => intro vs bs r e; exact r.nil_e (by cases e; exact .nil)
  | cons t l ih =>
    intro vs bs r e
    obtain ⟨b, l', rfl, q, rfl⟩ := bools_cons e
    exact r.cons_e fun v vs r rs => r.bool_e (.cons _ (ih rs q))
theorem ints_cons {t : T} {r : List T} {bs : List Int} (e : intsOf (t :: r) = some bs) : ∃ b l, t = .int b ∧ intsOf r = some l ∧ bs = b :: l := by
  cases t with
  | int b =>
    have e : (match intsOf r with
      | some l => some (b :: l)
      | none => none) = some bs := e
    cases q : intsOf r with
    | none => rw [q] at e; exact nS e
    | some l => rw [q] at e; exact ⟨b, l, rfl, rfl, (Option.some.inj e).symm⟩
  | _ => exact nS e
theorem ints_of : ∀ {l : List T} {vs : List Value} {bs : List Int}, RepL w fz hm l vs → intsOf l = some bs → IntsAre vs bs := by
  intro l
  induction l with
  | nil => intro vs bs r e; exact r.nil_e (by cases e; exact .nil)
  | cons t l ih =>
    intro vs bs r e
    obtain ⟨b, l', rfl, q, rfl⟩ := ints_cons e
    exact r.cons_e fun v vs r rs => r.int_e fun t => .cons _ _ (ih rs q)
theorem RepL.size {l : List T} {vs : Array Value} (h : RepL w fz hm l vs.toList) : vs.size = l.length := by
  have := h.length
  simpa using this.symm
theorem to63 {n : Nat} (h : n < 1000000) : (n : Int) < 2 ^ 63 := by lia
theorem bi_len {v : T} {vv : Value} {K : Nat → Prop} (X : W w h₀ L h fz hm σ) (rv : Rep w fz hm v vv) (he : lenP v σ K) (hQ : ∀ n tk t, K n → Q (.int n t) ⟨h, g, d, tk, os⟩) :
    wpAny (model pw w) A (PySem.call (.builtin "len") [vv]) Q E ⟨h, g, d, tk, os⟩ := by
  have go : ∀ {x : Addr} {l : List T} {its : Array Value}, h.IsList x its → RepL w fz hm l its.toList → l.length < 1000000 ∧ K l.length → wpAny (model pw w) A (PySem.call (.builtin "len") [.ref x]) Q E ⟨h, g, d, tk, os⟩ := fun {x l its} hl r he => by
    have e := r.size
    refine PyProof.Rows.len_list hl (by rw [e]; exact to63 he.1) ?_
    show Q (.int ((_ : Array Value).size : Nat) _) _; rw [e]; exact hQ _ _ _ he.2
  cases v with
  | lst l => exact rv.lst_e fun a o vs n h1 h2 h3 h4 => go (fz_lst (X.fzo _ _ h1) h2 h3) h4 he
  | tup l =>
    refine rv.tup_e fun a o vs n h1 h2 h3 h4 => ?_
    have e := h4.size
    refine PyProof.Rows.len_tuple (fz_tup (X.fzo _ _ h1) h2 h3) (by rw [e]; exact to63 he.1) ?_
    show Q (.int ((_ : Array Value).size : Nat) _) _; rw [e]; exact hQ _ _ _ he.2
  | own i =>
    refine cL_e he fun l hl he => rv.own_e fun p hi => ?_
    obtain ⟨o, ho, hpp, hc, vs, n, hd, hr, -⟩ := X.cell _ _ _ hl hi
    rw [hpp]
    exact go (fz_lst ho hc hd) hr he
  | _ => exact he.elim
theorem res_keeps {K : T → Sg → Prop} {h' : Heap} (hQ : Res w h₀ L g d os h fz hm Q K) (X : W w h₀ L h fz hm σ) (hk : ∀ b o, h.get? b = some o → h'.get? b = some o) {t : T} {v : Value} {tk : Nat} (e : K t σ) (r : Rep w fz hm t v) : Q v ⟨h', g, d, tk, os⟩ :=
  hQ _ _ _ _ _ _ _ e r (X.keeps hk) (Ext.keeps fz hm hk)
theorem biV_cases {n : Nat} {v : Value} (e : biV n = some v) : (n = 0 ∧ v = .builtin "isinstance") ∨ (n = 1 ∧ v = .builtin "len") ∨ (n = 2 ∧ v = .builtin "min") ∨ (n = 3 ∧ v = .type "list") ∨ (n = 4 ∧ v = .builtin "sum") ∨ (n = 5 ∧ v = .builtin "all") ∨ (n = 6 ∧ v = .type "str") ∨ n = 7 ∨ (n = 8 ∧ v = .builtin "any") :=
  match n, e with
  | 0, e => .inl ⟨rfl, (Option.some.inj e).symm⟩
  | 1, e => .inr (.inl ⟨rfl, (Option.some.inj e).symm⟩)
  | 2, e => .inr (.inr (.inl ⟨rfl, (Option.some.inj e).symm⟩))
  | 3, e => .inr (.inr (.inr (.inl ⟨rfl, (Option.some.inj e).symm⟩)))
  | 4, e => .inr (.inr (.inr (.inr (.inl ⟨rfl, (Option.some.inj e).symm⟩))))
  | 5, e => .inr (.inr (.inr (.inr (.inr (.inl ⟨rfl, (Option.some.inj e).symm⟩)))))
  | 6, e => .inr (.inr (.inr (.inr (.inr (.inr (.inl ⟨rfl, (Option.some.inj e).symm⟩))))))
  | 7, _ => .inr (.inr (.inr (.inr (.inr (.inr (.inr (.inl rfl)))))))
  | 8, e => .inr (.inr (.inr (.inr (.inr (.inr (.inr (.inr ⟨rfl, (Option.some.inj e).symm⟩)))))))
  | _ + 9, e => nS e
theorem bi_ok {n : Nat} {v : Value} {args : List T} {vs : List Value} {K : T → Prop} (hv : biV n = some v) (Z : Act w mg mb k A h₀ L) (X : W w h₀ L h fz hm σ) (F : Fr h₀ L h m) (r : RepL w fz hm args vs) (he : biP tab n args σ K)
    (hQ : Res w h₀ L g d os h fz hm Q fun t σ' => K t ∧ σ' = σ) : wpAny (model pw w) A (PySem.call v vs []) Q E ⟨h, g, d, tk, os⟩ := by
  revert r
  rcases biV_cases hv with ⟨rfl, rfl⟩ | ⟨rfl, rfl⟩ | ⟨rfl, rfl⟩ | ⟨rfl, rfl⟩ | ⟨rfl, rfl⟩ | ⟨rfl, rfl⟩ | ⟨rfl, rfl⟩ | rfl | ⟨rfl, rfl⟩
  · exact l2_e he fun a b he r => r.e2 fun v x r1 r2 => bi_isi X F Z.X r1 r2 he fun b tk kb => hQ.val X ⟨kb, rfl⟩ (.bool b)
  · exact l1_e he fun a he r => r.e1 fun v r1 => bi_len X r1 he fun n tk t kn => hQ.val X ⟨kn, rfl⟩ (.int _ _)
  · refine l2_e he fun x y he r => r.e2 fun v x r1 r2 => ?_
    revert r1 r2
    refine tInt_e he fun a he => tInt_e he fun b he r1 r2 => r1.int_e fun t => r2.int_e fun u => ?_
    refine min_two_ints Z.hh fun h' tk' hk => ?_
    by_cases c : b < a
    · rw [if_pos c] at he ⊢; exact res_keeps hQ X hk ⟨he, rfl⟩ (.int _ _)
    · rw [if_neg c] at he ⊢; exact res_keeps hQ X hk ⟨he, rfl⟩ (.int _ _)
  · refine l1_e he fun x he r => r.e1 fun v r1 => ?_
    revert r1
    refine tLst_e he fun l he r1 => r1.lst_e fun it o ws n h1 h2 h3 h4 => ?_
    have e := h4.size
    refine call_list_seq it (.inl rfl) (X.fzo _ _ h1) h2 h3 (fun h' c' hk ho => ?_) (by rw [e, sizeLine_eq]; have := he.1; lia)
    have hn : ¬ Mt hm h.objs.size := X.fresh_mt (get_none_size h)
    refine hQ _ _ _ _ _ _ _ ⟨he.2, rfl⟩ (.lst (.inr ⟨rfl, rfl⟩) rfl rfl (h4.mono (fun _ _ => .inl) fun _ _ e => e)) ((X.keeps hk).freeze ho hn) ((Ext.keeps fz hm hk).freeze (get_none_size h))
  · refine l1_e he fun x he r => r.e1 fun v r1 => ?_
    revert r1
    refine tLst_e he fun l he r1 => oP_e he fun ns hns he => r1.lst_e fun it o ws n h1 h2 h3 h4 => ?_
    have hi := ints_of h4 hns
    obtain ⟨xs, hx⟩ := (show AllInts _ from by simpa using hi.allInts).items
    have hl' := fz_lst (X.fzo _ _ h1) h2 h3
    rw [hx] at hl'
    refine sum_intListG Z.hh hl' fun h' tk' t' hk => ?_
    have e1 : ns = xs.toList.map (·.1) := by
      rw [← nums_intItems, ← hx]
      exact (hi.numsOf).symm
    have e2 : preSum (numAt xs) xs.size = ns.sum := by
      rw [preSum_eq, List.take_of_length_le (by simp), e1]
    rw [e2]
    exact res_keeps hQ X hk ⟨he, rfl⟩ (.int _ _)
  · refine l1_e he fun x he r => r.e1 fun v r1 => ?_
    revert r1
    refine tLst_e he fun l he r1 => oP_e he fun bs hbs he => r1.lst_e fun it o ws n h1 h2 h3 h4 => ?_
    have hb := bools_of h4 hbs
    have hl := fz_lst (X.fzo _ _ h1) h2 h3
    have hlt : it < h.objs.size := by obtain ⟨_, e, _⟩ := hl; exact Heap.lt_size e
    refine call_all_walk (wpAny_pyIter_list hl ?_)
    refine ⟨h.objs.size, [h.objs.size, it], [h.objs.size], ws.size, _, _, fun i => (bs[i]?).getD true, rfl, Walks.list (A := A.in1) Z.hh _ it (Nat.ne_of_lt hlt) ws,
      ⟨⟨_, Heap.get?_push_size _ rfl, rfl, rfl⟩, hl.push _⟩, fun i v s' Q' E' hP hQ => ?_, fun h' tk' hk => ?_⟩
    · obtain ⟨b, e, rfl⟩ := hb.get i v (by simpa using hP)
      simp only [e, Option.getD_some] at hQ
      exact wpAny_truthy_bool hQ
    · have e : ((List.range ws.size).all fun i => (bs[i]?).getD true) = bs.all id := by
        rw [← Array.length_toList, hb.length]; exact LSm.range_all bs
      rw [e]
      exact res_keeps hQ X (LSm.kept_iter (s := ⟨h, g, d, tk, os⟩) hk) ⟨he, rfl⟩ (.bool _)
  · refine l1_e he fun x he r => r.e1 fun v r1 => ?_
    revert r1
    refine tInt_e he fun i he => nP_e he fun kk he r1 => oP_e he fun s hs he => r1.int_e fun t => ?_
    have this := List.all_eq_true.mp sstrOk_ _ (lk_mem hs)
    have h1 : kk < 1000 := Nat.le_of_ble_eq_true (a1 this)
    refine P.str_of_int ?_ ?_
    · have : (Int.ofNat kk).natAbs.log2 ≤ (Int.ofNat kk).natAbs := Nat.log2_le_self _
      have : (Int.ofNat kk).natAbs = kk := rfl
      lia
    · show Q (.str (Str.ofString (toString (Int.ofNat kk))) tk) _
      rw [show Str.ofString (toString (Int.ofNat kk)) = sN s from eq_of_beq (a2 (a2 this))]
      exact hQ.val X ⟨he, rfl⟩ (.sym _ _ (Nat.le_of_ble_eq_true (a1 (a2 this))))
  · exact he.elim
  · refine l1_e he fun x he r => r.e1 fun v r1 => ?_
    revert r1
    refine tLst_e he fun l he r1 => oP_e he fun bs hbs he => r1.lst_e fun it o ws n h1 h2 h3 h4 => ?_
    have hb := bools_of h4 hbs
    have hl := fz_lst (X.fzo _ _ h1) h2 h3
    have hlt : it < h.objs.size := by obtain ⟨_, e, _⟩ := hl; exact Heap.lt_size e
    refine call_any_walk (wpAny_pyIter_list hl ?_)
    refine ⟨h.objs.size, [h.objs.size, it], [h.objs.size], ws.size, _, _, fun i => (bs[i]?).getD false, rfl, Walks.list (A := A.in1) Z.hh _ it (Nat.ne_of_lt hlt) ws,
      ⟨⟨_, Heap.get?_push_size _ rfl, rfl, rfl⟩, hl.push _⟩, fun i v s' Q' E' hP hQ => ?_, fun h' tk' hk => ?_⟩
    · obtain ⟨b, e, rfl⟩ := hb.get i v (by simpa using hP)
      simp only [e, Option.getD_some] at hQ
      exact wpAny_truthy_bool hQ
    · have e : ((List.range ws.size).any fun i => (bs[i]?).getD false) = bs.any id := by
        rw [← Array.length_toList, hb.length]; exact LSm.range_any bs
      rw [e]
      exact res_keeps hQ X (LSm.kept_iter (s := ⟨h, g, d, tk, os⟩) hk) ⟨he, rfl⟩ (.bool _)
end
noncomputable def calls : T → Bool
  | .glob g => !(Nat.beq g 84) && Nat.blt g 88
  | .lam _ _ => true
  | _ => false
noncomputable def CpOk (w : World) (mg mb : Str → Option Value) (n : Nat) (cp : CP) : Prop :=
  (∀ f args σ K, cp f args σ K → calls f = true) ∧
  ∀ (A : Around) (h₀ : Heap) (L : Addr) (g : Array GenState) (d : Drawn) (os : OsState), Act w mg mb n A h₀ L → ∀ (m : Str → Option Value) (h : Heap) (fz : Fz) (hm : Hm) (σ : Sg) (tk : Nat) (Q E : Value → Shared → Prop) (K : T → Sg → Prop) (f : T) (args : List T) (vf : Value) (vs : List Value),
    Fr h₀ L h m → W w h₀ L h fz hm σ → Rep w fz hm f vf → RepL w fz hm args vs → cp f args σ K → Res w h₀ L g d os h fz hm Q K → wpAny (model pw w) A (PySem.call vf vs []) Q E ⟨h, g, d, tk, os⟩
noncomputable def keepAll (P : Params) : Bool := (List.range 88).all fun g => Nat.beq g 84 || (match gA[g]? with
  | some a => keepIn (mK P) (.ref a)
  | none => false)
theorem keepAll_ (P : Params) : keepAll P = true := by kernel_rfl
noncomputable def meth1 (P : Params) (c a g : Nat) : Bool := onS gA[c]? fun C => onS gA[g]? fun f => isFn (mK P) (.ref f) && (if isC c then plainGet (mK P) C (sN a) && findIn (mK P) (.ref C) (sN a) == some (some (.ref f)) else true) &&
      (specialIn (mK P) (.ref C) "__getattribute__" == some (some (.builtin "type.__getattribute__")) && (typeIn (mK P) (.ref C) == some (.type "type") && (readsIn (mK P) C (.type "type") && onS (findCls (mK P) (.ref C) (.type "type") (sN a)) fun r => match r with
        | .val v => v == .ref f
        | _ => false)))
noncomputable def methAll (P : Params) : Bool := tab.meth.all fun p => p.2.all fun q => isC p.1 && (Nat.blt q.2 88 && meth1 P p.1 q.1 q.2)
theorem methAll_ (P : Params) : methAll P = true := by kernel_rfl
noncomputable def rfindOk : Bool := tab.srfind.all fun p => p.2.all fun q => (Txt.rfind (sN p.1) (sN q.1) : Int) == q.2
theorem rfindOk_ : rfindOk = true := by kernel_rfl
abbrev Kept (M : Model) (h : Heap) (f : Value) : Prop := ∃ k, (k = Keeper.frame ∨ k = Keeper.machine ∨ k = Keeper.boundFrame) ∧ Looks M h (keeperOf f) k
section
variable {w : World} {h₀ h : Heap} {L : Addr} {fz : Fz} {hm : Hm} {σ : Sg} {m : Str → Option Value}
theorem kept_rep {f : T} {v : Value} {M : Model} (X : W w h₀ L h fz hm σ) (XK : (mK w.params).In h) (hf : calls f = true) (r : Rep w fz hm f v) : Kept M h v := by
  cases f with
  | glob g =>
    have q := Bool.and_eq_true_iff.mp hf
    refine r.glob_e fun a hg => ?_
    have this := List.all_eq_true.mp (keepAll_ w.params) g (List.mem_range.mpr (Nat.le_of_ble_eq_true q.2))
    rw [not_t q.1, Bool.false_or, hg] at this
    exact keeps_K this h XK
  | lam k cl => exact r.lam_e fun _ _ _ _ _ _ _ _ _ _ _ _ _ _ _ _ _ h3 _ _ _ _ _ => keeps_F h ⟨_, _, _, _, X.fzo _ _ h3⟩
  | _ => exact nT hf
theorem kept_bi {n : Nat} {v : Value} {M : Model} (e : biV n = some v) (h : Heap) : Kept M h v := by
  have k : ∀ s, Kept M h (.builtin s) := fun s => ⟨.machine, .inr (.inl rfl), Looks.of_pure rfl⟩
  have k' : ∀ s, Kept M h (.type s) := fun s => ⟨.machine, .inr (.inl rfl), Looks.of_pure rfl⟩
  match n, e with
  | 0, e | 1, e | 2, e | 4, e | 5, e | 8, e => cases e; exact k _
  | 3, e | 6, e | 7, e => cases e; exact k' _
  | _ + 9, e => exact nS e
end
section
variable {M : Model} {A : Around} {E : Value → Shared → Prop} {s : Shared} {env : Env}
theorem evalArgs_any {f : Value} {args : List (Bool × Sem Value)} {Q : Args → Shared → Prop} (hp : args.any (·.1) = false) (h : wpAny M A (spliced args) (fun vs s' => Q ⟨vs, []⟩ s') E s) : wpAny M A (evalArgs f true args []) Q E s := by
  cases args with
  | nil =>
    unfold evalArgs
    show wpAny M A (spliced [] >>= _) Q E s
    refine wpAny_bind (wpAny_mono h (fun vs s' h' => ?_) fun _ _ x => x)
    refine wpAny_holding ?_
    exact wpAny_bind (wpAny_pure (wpAny_bind (wpAny_pure (wpAny_pure h'))))
  | cons a r =>
    obtain ⟨b, x⟩ := a
    cases b with
    | false => exact evalArgs_plain h
    | true => cases hp
theorem noStar (env : Env) {f : X → PySem.Expr → Bool} (p : Pos) : ∀ {l : List X} {es : List PySem.Expr}, allX f l es = true → (backTo p (starEach es env)).any (·.1) = false ∧ (backTo p (starEach es env)).all (!·.1) = true
  | [], [], _ => ⟨rfl, rfl⟩
  | [], _ :: _, h => nT h
  | _ :: _, [], h => nT h
  | x :: l, e :: es, h => by
    have q := noStar env p (a2 (a2 h))
    rw [starEach_cons (not_t (a1 h))]
    exact ⟨by show (false || _) = false; rw [Bool.false_or]; exact q.1, by show (true && _) = true; rw [Bool.true_and]; exact q.2⟩
theorem callW {pos : Pos} {f : Value} {first : List Value} {es : List PySem.Expr} {Q : Value → Shared → Prop} (hp : (backTo pos (starEach es env)).any (·.1) = false)
    (h : wpAny M A (spliced (backTo pos (starEach es env))) (fun vs s₁ => Kept M s₁.heap f ∧ wpAny M A (PySem.call f (first ++ vs)) Q E s₁) E s) : wpAny M A (callWith pos f first (backTo pos (starEach es env)) []) Q E s :=
  callWith_of (P := fun h => Kept M h f) (by rw [hp]; rfl) (fun _ k => k) (evalArgs_any hp h)
theorem meth_call {o : PySem.Expr} {s' : Str} {apos pos : Pos} {es : List PySem.Expr} {Q : Value → Shared → Prop} (hl : (apos.endLine == pos.line) = true) (hb : plainBase o = true) (hn : es.length < 30) (hp : (backTo pos (starEach es env)).all (!·.1) = true)
    (h : wpAny M A (eval o env) (fun ov s₁ => ∀ pl, wpAny M A (getMethod ov s' pl) (fun fx s₂ => wpAny M A (callWith pos fx.1 fx.2 (backTo pos (starEach es env)) []) Q E s₂) E s₁) E s) :
    wpAny M A (eval (.Call (.Attribute o s' apos) es [] pos) env) Q E s := by
  have e1 : methodCallForm (es.length + 0) (backTo pos (starEach es env)) [] = true := by
    unfold methodCallForm
    rw [hp]
    simpa using hn
  show wpAny M A (do
    let ov ← attributeBase o s' env (eval o env)
    standAt apos.atName
    methodCall o s' apos pos env ov (es.length + 0) (backTo pos (starEach es env)) (backToKw pos (keywordEach [] env))) Q E s
  rw [base_plain hb]
  refine wpAny_bind (wpAny_mono h (fun ov s₁ h₁ => wpAny_bind (wpAny_standAt ?_)) fun _ _ x => x)
  unfold methodCall
  rw [show backToKw pos (keywordEach [] env) = [] from rfl, e1]
  refine wpAny_bind (wpAny_holding ?_)
  show wpAny M A (getMethod ov s' _) _ E s₁
  refine wpAny_mono (h₁ _) (fun fx s₂ h₂ => ?_) fun _ _ x => x
  unfold methodCallPos
  rw [hl]
  exact wpAny_bind (wpAny_pure h₂)
end
section
variable {w : World} {A : Around} {E : Value → Shared → Prop} {g : Array GenState} {d : Drawn} {tk : Nat} {os : OsState} {h₀ h : Heap} {L : Addr} {m : Str → Option Value} {fz : Fz} {hm : Hm} {σ : Sg} {mg mb : Str → Option Value} {n : Nat} {cp : CP}
theorem callT_ok {f : T} {args : List T} {vf : Value} {vs : List Value} {K : T → Sg → Prop} {Q : Value → Shared → Prop} (Z : Act w mg mb n A h₀ L) (hcp : CpOk w mg mb n cp) (F : Fr h₀ L h m) (X : W w h₀ L h fz hm σ) (rf : Rep w fz hm f vf) (rl : RepL w fz hm args vs)
    (he : callT tab cp f args σ K) (hQ : Res w h₀ L g d os h fz hm Q K) : Kept (model pw w) h vf ∧ wpAny (model pw w) A (PySem.call vf vs []) Q E ⟨h, g, d, tk, os⟩ := by
  have other : cp f args σ K → Kept (model pw w) h vf ∧ wpAny (model pw w) A (PySem.call vf vs []) Q E ⟨h, g, d, tk, os⟩ := fun he =>
    ⟨kept_rep X (Z.X.keeps F.keep) (hcp.1 _ _ _ _ he) rf, hcp.2 A h₀ L g d os Z m h fz hm σ tk Q E K f args vf vs F X rf rl he hQ⟩
  cases f with
  | bi k =>
    have hv := rf.bi_i
    exact ⟨kept_bi hv h, bi_ok hv Z X F rl (show biP tab k args σ (fun t => K t σ) from he) (hQ.mono fun t s q => by rw [q.2]; exact q.1)⟩
  | _ => exact other he
structure MethF (P : Params) (c a g : Nat) (C f : Addr) : Prop where
  fn : isFn (mK P) (.ref f) = true
  get : plainGet (mK P) C (sN a) = true
  find : findIn (mK P) (.ref C) (sN a) = some (some (.ref f))
  tg : specialIn (mK P) (.ref C) "__getattribute__" = some (some (.builtin "type.__getattribute__"))
  ty : typeIn (mK P) (.ref C) = some (.type "type")
  rd : readsIn (mK P) C (.type "type") = true
  fc : findCls (mK P) (.ref C) (.type "type") (sN a) = some (.val (.ref f))
theorem meth_of (P : Params) {c a g : Nat} {C : Addr} (e : lk2 tab.meth c a = some g) (hC : gA[c]? = some C) : g < 88 ∧ ∃ f, gA[g]? = some f ∧ MethF P c a g C f := by
  obtain ⟨r, h1, h2⟩ := lk2_mem e
  have := List.all_eq_true.mp (List.all_eq_true.mp (methAll_ P) _ h1) _ h2
  have hc := a1 this
  have hg : g < 88 := Nat.le_of_ble_eq_true (a1 (a2 this))
  replace this := a2 (a2 this)
  unfold meth1 at this
  rw [hC] at this
  obtain ⟨f, q, this⟩ := onS_t (o := gA[g]?) this
  rw [hc, if_pos rfl] at this
  have x := a2 this
  have y := a1 this
  refine ⟨hg, f, q, a1 y, a1 (a2 y), eq_of_beq (a2 (a2 y)), eq_of_beq (a1 x), eq_of_beq (a1 (a2 x)), a1 (a2 (a2 x)), ?_⟩
  obtain ⟨r, hv, z⟩ := onS_t (a2 (a2 (a2 x)))
  cases r with
  | val v => rw [eq_of_beq z] at hv; exact hv
  | get => exact nT z
noncomputable def RepM (w : World) (fz : Fz) (hm : Hm) : MC → Value × List Value → Prop
  | .val f, p => p.2 = [] ∧ Rep w fz hm f p.1
  | .bound g v, p => ∃ f u, gA[g]? = some f ∧ p = (.ref f, [u]) ∧ Rep w fz hm v u
  | .getD i, p => ∃ q, hm[i]? = some q ∧ p = (.builtin "dict.get", [.ref q.1])
  | .rfind s, p => ∃ t, s < nsz ∧ p = (.builtin "str.rfind", [.str (sN s) t])
theorem RepM.ext {h' : Heap} {fz' : Fz} {hm' : Hm} {mc : MC} {p : Value × List Value} (x : Ext h fz hm h' fz' hm') (r : RepM w fz hm mc p) : RepM w fz' hm' mc p := by
  cases mc with
  | val f => exact ⟨r.1, x.rep r.2⟩
  | bound g v => obtain ⟨f, u, a, b, c⟩ := r; exact ⟨f, u, a, b, x.rep c⟩
  | getD i => obtain ⟨q, a, b⟩ := r; exact ⟨q, x.hmi _ _ a, b⟩
  | rfind s => exact r
theorem sn0 : sN 0 = Str.ofString "get" := by kernel_rfl
theorem sn1 : sN 1 = Str.ofString "rfind" := by kernel_rfl
theorem methI_ok {v : T} {vv : Value} {c a : Nat} {fs : List (Nat × T)} {K : MC → Prop} {Q : Value × List Value → Shared → Prop} {pl : Sem Bool} (X : W w h₀ L h fz hm σ) (F : Fr h₀ L h m) (X₀ : (mK w.params).In h₀) (r : Rep w fz hm v vv) (ha : a < nsz)
    (hi : v = .inst c fs ∨ ∃ i, v = .own i ∧ σ[i]? = some (.inst c fs)) (he : methI tab v c a fs K) (hQ : ∀ mc p tk, K mc → RepM w fz hm mc p → Q p ⟨h, g, d, tk, os⟩) : wpAny (model pw w) A (getMethod vv (sN a) pl) Q E ⟨h, g, d, tk, os⟩ := by
  obtain ⟨x, C, es, n, kvs, dx, rfl, h0, hC, I, hp, hn, hr⟩ := inst_at X r hi
  cases hf : lk fs a with
  | some f =>
    have he : okA tab c a = true ∧ K (.val f) := by unfold methI at he; rw [hf] at he; exact he
    obtain ⟨f1, f2, f3⟩ := attr_of he.1 w.params hC
    obtain ⟨u', hu, ru⟩ := hr.some ha hf
    refine method_usual (r := none) (X₀.keeps F.keep) I (plainGet_of f1).1 (plainGet_of f1).2 f3 rfl ?_
    exact get_own (s := ⟨h, g, d, tk, os⟩) F X₀ I f1 f2 f3 rfl (by rw [getL_pairs _ hp, hu]) (rep_handed ru) (hQ _ _ _ he.2 ⟨rfl, ru⟩)
  | none =>
    have he : oP (lk2 tab.meth c a) fun g => K (.bound g v) := by unfold methI at he; rw [hf] at he; exact he
    refine oP_e he fun g' hg' he => ?_
    obtain ⟨_, f, hgf, M⟩ := meth_of w.params hg' hC
    exact method_inst (s := ⟨h, g, d, tk, os⟩) F X₀ I M.get M.find M.fn (by rw [getL_pairs _ hp, hr.none ha hf]) (hQ _ _ _ he ⟨f, _, hgf, rfl, r⟩)
theorem methR_ok {v : T} {vv : Value} {a : Nat} {K : MC → Prop} {Q : Value × List Value → Shared → Prop} {pl : Sem Bool} (X : W w h₀ L h fz hm σ) (F : Fr h₀ L h m) (X₀ : (mK w.params).In h₀) (r : Rep w fz hm v vv) (ha : a < nsz)
    (he : methR tab v a σ K) (hQ : ∀ mc p tk, K mc → RepM w fz hm mc p → Q p ⟨h, g, d, tk, os⟩) : wpAny (model pw w) A (getMethod vv (sN a) pl) Q E ⟨h, g, d, tk, os⟩ := by
  cases v with
  | inst c fs => exact methI_ok X F X₀ r ha (.inl rfl) he hQ
  | own i =>
    have he : (match σ[i]? with
      | some (.inst c fs) => methI tab (.own i) c a fs K
      | some (.dct _) => a = 0 ∧ K (.getD i)
      | _ => False) := he
    cases hc : σ[i]? with
    | none => rw [hc] at he; exact he.elim
    | some c =>
      rw [hc] at he
      cases c with
      | inst c fs => exact methI_ok X F X₀ r ha (.inr ⟨_, rfl, hc⟩) he hQ
      | lst l => exact he.elim
      | dct es =>
        refine r.own_e fun q hi => ?_
        obtain ⟨o, ho, hpp, hsy, kvs, hd, hr⟩ := X.cell _ _ _ hc hi
        have hD := Heap.dictOf_iff.mpr ⟨o, ho, hd⟩
        rw [hpp, he.1, sn0]
        refine getMethod_builtin (hD.typeIs (s := ⟨h, g, d, tk, os⟩)) PySem.F.plainAttrs_dict PySem.F.slot_dict_get PySem.F.type_dict_get hD.mapOf.noDict ?_
        exact hQ _ _ _ he.2 ⟨_, hi, by rw [hpp]⟩
  | glob c =>
    refine oP_e he fun g' hg' he => r.glob_e fun C hC => ?_
    obtain ⟨_, f, hgf, M⟩ := meth_of w.params hg' hC
    refine method_of_cls (s := ⟨h, g, d, tk, os⟩) F X₀ M.tg ?_
    exact cls_value (X₀.keeps F.keep) M.rd M.fc rfl (hQ _ _ _ he ⟨rfl, .glob hgf⟩)
  | sym s =>
    refine r.sym_e fun t hs => ?_
    rw [he.1, sn1]
    exact GM.rfind (hQ _ _ _ he.2 ⟨t, hs, rfl⟩)
  | _ => exact he.elim
theorem methC_ok {mc : MC} {p : Value × List Value} {args : List T} {vs : List Value} {K : T → Sg → Prop} {Q : Value → Shared → Prop} (Z : Act w mg mb n A h₀ L) (hcp : CpOk w mg mb n cp) (F : Fr h₀ L h m) (X : W w h₀ L h fz hm σ) (rf : RepM w fz hm mc p) (rl : RepL w fz hm args vs)
    (he : methC tab cp mc args σ K) (hQ : Res w h₀ L g d os h fz hm Q K) : Kept (model pw w) h p.1 ∧ wpAny (model pw w) A (PySem.call p.1 (p.2 ++ vs) []) Q E ⟨h, g, d, tk, os⟩ := by
  cases mc with
  | val f =>
    obtain ⟨a, b⟩ := rf
    rw [a]
    exact callT_ok Z hcp F X b rl he hQ
  | bound g' v =>
    obtain ⟨f, u, a, rfl, b⟩ := rf
    exact callT_ok Z hcp F X (.glob a) (.cons b rl) he hQ
  | getD i =>
    obtain ⟨q, a, rfl⟩ := rf
    refine ⟨⟨.machine, .inr (.inl rfl), Looks.of_pure rfl⟩, ?_⟩
    refine cD_e he fun es hcell he => ?_
    revert rl
    refine l2_e he fun k dd he rl => rl.e2 fun v x r1 rd => ?_
    revert r1
    refine tSym_e he fun s he r1 => r1.sym_e fun t hs => ?_
    obtain ⟨o, ho, hpp, hsy, kvs, hd, hr⟩ := X.cell _ _ _ hcell a
    have hD := Heap.dictOf_iff.mpr ⟨o, ho, hd⟩
    rw [hpp]
    rw [hpp] at hsy
    refine call_meetsIn PySem.F.slot_dict_get (hD.typeIs (s := ⟨h, g, d, tk, os⟩)) PySem.F.entry_dict_get (PySem.F.args_dict_get_3 _ _ _) (meets_dict_get_default (SK w) q.2 (strKind_is _ _ _ _) hsy _) ⟨_, hD.mapOf, ?_⟩
    cases ht : lk es s with
    | some t' =>
      rw [ht] at he
      obtain ⟨u, hu, ru⟩ := hr.some hs ht
      rw [hu]; exact hQ.val X he ru
    | none =>
      rw [ht] at he
      rw [hr.none hs ht]; exact hQ.val X he rd
  | rfind s =>
    obtain ⟨t, hs, rfl⟩ := rf
    refine ⟨⟨.machine, .inr (.inl rfl), Looks.of_pure rfl⟩, ?_⟩
    revert rl
    refine l1_e he fun c he rl => rl.e1 fun v r1 => ?_
    revert r1
    refine tSym_e he fun cc he r1 => oP_e he fun k hk he => r1.sym_e fun t' hc => ?_
    obtain ⟨r, h1, h2⟩ := lk2_mem hk
    have := List.all_eq_true.mp (List.all_eq_true.mp rfindOk_ _ h1) _ h2
    refine SC.rfind ?_
    rw [beq_iff_eq.mp this]
    exact hQ.val X he (.int _ _)
end
section
variable {c : Fx} {n : Nat} {mg mb : Str → Option Value} {f : Sg → (T → Sg → Prop) → Prop} {p apos : Pos} {o : PySem.Expr} {cp : CP} {G : X → Sg → (T → Sg → Prop) → Prop} {chk : X → PySem.Expr → Bool} {l : List X} {es : List PySem.Expr}
theorem SX.call (Z : Act c.w mg mb n c.A c.h₀ c.L) (hcp : CpOk c.w mg mb n cp) (ho : isAttr o = false) (x : SX c f (eval o c.env)) (IH : ∀ x e, chk x e = true → SX c (G x) (eval e c.env)) (hc : allX chk l es = true) :
    SX c (fun σ K => f σ fun g σ => evs G l σ fun vs σ => callT tab cp g vs σ K) (eval (.Call o es [] p) c.env) := by
  intro m h fz hm σ tk Q E K F X N e hQ
  refine Call_ (x.then F X N e fun t v h' tk' fz' hm' σ' a rv F' X' N' x' => ?_) (by cases o <;> first | rfl | cases ho)
  refine callW (noStar c.env p hc).1 (evs_ok IH l es hc m h' fz' hm' σ' tk' _ E _ F' X' N' a fun ts vs h'' tk'' fz'' hm'' σ'' a' hn rl F'' X'' N'' x'' => ?_)
  exact callT_ok Z hcp F'' X'' (x''.rep rv) rl a' (hQ.ext (x'.trans x''))
theorem SX.meth {s : Str} {a : Nat} (Z : Act c.w mg mb n c.A c.h₀ c.L) (hcp : CpOk c.w mg mb n cp) (hn : nmOk s a = true) (hl : (apos.endLine == p.line) = true) (hlen : Nat.blt es.length 30 = true) (hb : plainBase o = true) (x : SX c f (eval o c.env))
    (IH : ∀ x e, chk x e = true → SX c (G x) (eval e c.env)) (hc : allX chk l es = true) :
    SX c (fun σ K => f σ fun v σ => methR tab v a σ fun mc => evs G l σ fun vs σ => methC tab cp mc vs σ K) (eval (.Call (.Attribute o s apos) es [] p) c.env) := by
  intro m h fz hm σ tk Q E K F X N e hQ
  obtain ⟨hi, rfl, _, _⟩ := nm_of hn
  refine meth_call hl hb (Nat.le_of_ble_eq_true hlen) (noStar c.env p hc).2 (x.then F X N e fun t v h' tk' fz' hm' σ' a rv F' X' N' x' pl => ?_)
  refine methR_ok X' F' Z.X rv hi a fun mc q tk2 a2 rm => ?_
  refine callW (noStar c.env p hc).1 (evs_ok IH l es hc m h' fz' hm' σ' tk2 _ E _ F' X' N' a2 fun ts vs h'' tk'' fz'' hm'' σ'' a' hn rl F'' X'' N'' x'' => ?_)
  exact methC_ok Z hcp F'' X'' (rm.ext x'') rl a' (hQ.ext (x'.trans x''))
end
section
variable {w : World} {h₀ h h' h'' : Heap} {L a : Addr} {fz fz' : Fz} {hm hm' : Hm} {σ : Sg} {m : Str → Option Value} {o : Obj}
theorem W.but (X : W w h₀ L h fz hm σ) (hk : ∀ b o, b ≠ a → h.get? b = some o → h'.get? b = some o) (hn : ¬ Mt hm a) (hf : ∀ o, ¬ fz a o) : W w h₀ L h' fz hm σ := by
  refine ⟨X.len, fun b p e => ?_, X.fzm, X.nd, fun i c p e1 e2 => ?_, X.mt, fun k b e => ?_⟩
  · exact hk _ _ (fun q => hf p (q ▸ e)) (X.fzo _ _ e)
  · obtain ⟨o, g, r⟩ := X.cell i c p e1 e2
    exact ⟨o, hk _ _ (fun q => hn (q ▸ X.cell_mt e2)) g, r⟩
  · obtain ⟨o, g, r⟩ := X.tab k b e
    exact ⟨o, hk _ _ (fun q => hn (q ▸ .inr (List.mem_of_getElem? e))) g, r⟩
theorem Ext.but (x : Ext h fz hm h' fz' hm') (hk : ∀ b o, b ≠ a → h'.get? b = some o → h''.get? b = some o) (hn : h.get? a = none) : Ext h fz hm h'' fz' hm' := by
  refine ⟨fun b o e q => hk _ _ (fun z => by rw [z, hn] at e; cases e) (x.keep b o e q), x.sub, x.new, x.hmx, fun b e => ?_⟩
  by_cases q : b = a
  · rw [q]; exact hn
  · refine x.dom b ?_
    cases z : h'.get? b with
    | none => rfl
    | some o => rw [hk _ _ q z] at e; cases e
structure Priv (h : Heap) (fz : Fz) (hm : Hm) (a : Addr) : Prop where
  live : h.get? a ≠ none
  mt : ¬ Mt hm a
  fz : ∀ o, ¬ fz a o
theorem Priv.obj (x : Ext h fz hm h' fz' hm') (p : Priv h fz hm a) (e : h.get? a = some o) : h'.get? a = some o := x.keep _ _ e p.mt
theorem Priv.ext (x : Ext h fz hm h' fz' hm') (p : Priv h fz hm a) : Priv h' fz' hm' a := by
  cases e : h.get? a with
  | none => exact absurd e p.live
  | some o => exact ⟨by rw [p.obj x e]; exact (fun z => nomatch z), x.mt p.live p.mt, fun o q => (x.new _ _ q).elim (p.fz o) p.live⟩
theorem Priv.at (p : Priv h fz hm a) (e : h'.get? a ≠ none) : Priv h' fz hm a := ⟨e, p.mt, p.fz⟩
theorem Priv.ns {m : Str → Option Value} (x : Ext h fz hm h' fz' hm') (p : Priv h fz hm a) (e : h.Ns a m) : h'.Ns a m := e.at' fun _ q => p.obj x q
theorem Priv.iter {l : Addr} {i : Nat} (x : Ext h fz hm h' fz' hm') (p : Priv h fz hm a) (e : h.IsListIter a l i) : h'.IsListIter a l i := let ⟨o, q, r⟩ := e; ⟨o, p.obj x q, r⟩
theorem sb_keep (hs : Heap.SameBut a h h') : ∀ b o, b ≠ a → h.get? b = some o → h'.get? b = some o := fun b o q e => (hs.2 b q).trans e
theorem ns_live {m : Str → Option Value} (e : h.Ns a m) : h.get? a ≠ none := by obtain ⟨o, _, _, q, _⟩ := e; rw [q]; exact fun z => nomatch z
end
noncomputable def closL (cells : List (Str × Addr)) : List (Str × NameKind) → List (Str × Addr) → List (Str × Addr)
  | [], acc => acc
  | (n, k) :: r, acc => closL cells r (if k == .free then (n, (cells.lookup n).getD 0) :: acc else acc)
theorem closL_sound {cells : List (Str × Addr)} : ∀ {names : List (Str × NameKind)} {acc : List (Str × Addr)}, (∀ n k, (n, k) ∈ names → (k == NameKind.free) = true → (cells.lookup n).isSome = true) → (∀ s a, acc.lookup s = some a → cells.lookup s = some a) →
    ∀ s a, (closL cells names acc).lookup s = some a → cells.lookup s = some a
  | [], _, _, h => h
  | (n, k) :: r, acc, hn, h => by
    refine closL_sound (names := r) (fun n' k' hm => hn n' k' (List.mem_cons_of_mem _ hm)) fun s a e => ?_
    by_cases hk : (k == NameKind.free) = true
    · rw [if_pos hk, List.lookup_cons] at e
      obtain ⟨b, hb⟩ := Option.isSome_iff_exists.mp (hn n k List.mem_cons_self hk)
      cases q : s == n with
      | true => rw [q] at e; rw [beq_iff_eq.mp q, hb]; rw [hb] at e; exact e
      | false => rw [q] at e; exact h _ _ e
    · rw [if_neg hk] at e; exact h _ _ e
theorem closL_has {cells : List (Str × Addr)} : ∀ {names : List (Str × NameKind)} {acc : List (Str × Addr)} {s : Str}, ((s, NameKind.free) ∈ names ∨ (acc.lookup s).isSome = true) → ((closL cells names acc).lookup s).isSome = true
  | [], _, _, h => h.elim (fun q => nomatch q) id
  | (n, k) :: r, acc, s, h => by
    refine closL_has (names := r) ?_
    by_cases hk : (k == NameKind.free) = true
    · rw [if_pos hk, List.lookup_cons]
      cases q : s == n with
      | true => exact .inr rfl
      | false =>
        rcases h with h | h
        · rcases List.mem_cons.mp h with h | h
          · cases h; rw [beq_self_eq_true] at q; cases q
          · exact .inl h
        · exact .inr h
    · rw [if_neg hk]
      rcases h with h | h
      · rcases List.mem_cons.mp h with h | h
        · cases h; exact absurd rfl hk
        · exact .inl h
      · exact .inr h
theorem closFor (scope : Scope) (env : Env) (hn : ∀ n k, (n, k) ∈ scope.names → (k == NameKind.free) = true → (env.cells.lookup n).isSome = true) : closureFor scope env = pure (closL env.cells scope.names []) := by
  have key : ∀ (names : List (Str × NameKind)) (acc : List (Str × Addr)), (∀ n k, (n, k) ∈ names → (k == NameKind.free) = true → (env.cells.lookup n).isSome = true) →
      (forIn names acc fun (x : Str × NameKind) (r : List (Str × Addr)) => (match x with
        | (name, kind) => if (kind == .free) = true then do let a ← cellOf env name; pure (ForInStep.yield ((name, a) :: r)) else pure (ForInStep.yield r) : Sem (ForInStep (List (Str × Addr))))) = (pure (closL env.cells names acc) : Sem _) := by
    intro names
    induction names with
    | nil => intro acc _; rfl
    | cons p r ih =>
      intro acc hn
      obtain ⟨n, k⟩ := p
      rw [List.forIn_cons]
      have ih := ih (if k == .free then (n, (env.cells.lookup n).getD 0) :: acc else acc) fun n' k' hm => hn n' k' (List.mem_cons_of_mem _ hm)
      refine Eq.trans ?_ ih
      show ((if (k == .free) = true then do let a ← cellOf env n; pure (ForInStep.yield ((n, a) :: acc)) else pure (ForInStep.yield acc)) >>= _ : Sem _) = _
      by_cases hk : (k == NameKind.free) = true
      · obtain ⟨b, hb⟩ := Option.isSome_iff_exists.mp (hn n k List.mem_cons_self hk)
        have hc : cellOf env n = pure b := by unfold cellOf; rw [hb]
        rw [if_pos hk, if_pos hk, hc, hb]
        rfl
      · rw [if_neg hk, if_neg hk]
        rfl
  unfold closureFor
  exact (congrArg (· >>= pure) (key scope.names [] hn)).trans rfl
theorem lookup_compSc (sc scope : Scope) (s : Str) : (compSc sc scope).names.lookup s = (scope.names.lookup s).map fun k => if (k == .free && sc.kind == .function && sc.names.lookup s == some .cell) = true then .cell else k := by
  show (scope.names.map _).lookup s = _
  generalize scope.names = names
  induction names with
  | nil => rfl
  | cons p r ih =>
    obtain ⟨n, k⟩ := p
    rw [List.map_cons]
    show List.lookup s ((if (k == .free && sc.kind == .function && sc.names.lookup n == some .cell) = true then (n, .cell) else (n, k)) :: _) = _
    cases q : s == n with
    | true =>
      cases beq_iff_eq.mp q
      by_cases hc : (k == .free && sc.kind == .function && sc.names.lookup s == some .cell) = true
      · rw [if_pos hc, List.lookup_cons, List.lookup_cons, q]
        show some _ = some (if _ then _ else _)
        rw [if_pos hc]
      · rw [if_neg hc, List.lookup_cons, List.lookup_cons, q]
        show some _ = some (if _ then _ else _)
        rw [if_neg hc]
    | false =>
      by_cases hc : (k == .free && sc.kind == .function && sc.names.lookup n == some .cell) = true
      · rw [if_pos hc, List.lookup_cons, List.lookup_cons, q]; exact ih
      · rw [if_neg hc, List.lookup_cons, List.lookup_cons, q]; exact ih
section
variable {c : Fx} {h h' : Heap} {fz fz' : Fz} {hm hm' : Hm} {scope : Scope}
theorem relabel_eq (N : En c h fz hm) : relabel scope c.env = compSc c.sc scope := by
  unfold relabel compSc Env.kindOf
  rw [N.hsc]
structure CompF (sc scope : Scope) : Prop where
  fn : scope.kind = .function
  names : ∀ p ∈ scope.names, (p.2 = .local ∨ p.2 = .free ∨ p.2 = .globalImplicit) ∧ scope.names.lookup p.1 = some p.2 ∧ (p.2 = .free → kindIs sc p.1 .cell = true)
theorem comp_of {sc scope : Scope} (e : compOk sc scope = true) : CompF sc scope := by
  unfold compOk at e
  refine ⟨eq_of_beq (a1 e), fun p hp => ?_⟩
  have f := List.all_eq_true.mp (a2 (a2 (a2 e))) p hp
  refine ⟨?_, eq_of_beq (a1 (a2 f)), fun q => ?_⟩
  · rcases Bool.or_eq_true_iff.mp (a1 f) with a | a
    · rcases Bool.or_eq_true_iff.mp a with a | a
      · exact .inl (eq_of_beq a)
      · exact .inr (.inl (eq_of_beq a))
    · exact .inr (.inr (eq_of_beq a))
  · have d := a2 (a2 f)
    rw [q] at d; exact d
abbrev inC (c : Fx) (scope : Scope) (cl : List (Str × Addr)) (C : Addr) (ρ : Rho) : Fx := { c with env := compEnvC scope cl C c.env, sc := compSc c.sc scope, ρ := ρ }
theorem lookup_mem {α : Type} : ∀ {l : List (Str × α)} {s : Str} {k : α}, l.lookup s = some k → (s, k) ∈ l
  | (n, j) :: r, s, k, h => by
    rw [List.lookup_cons] at h
    cases q : s == n with
    | true => rw [q] at h; cases h; rw [beq_iff_eq.mp q]; exact .head _
    | false => rw [q] at h; exact .tail _ (lookup_mem h)
theorem free_has (N : En c h fz hm) (ok : CompF c.sc scope) : ∀ n k, (n, k) ∈ scope.names → (k == NameKind.free) = true → (c.env.cells.lookup n).isSome = true := fun n k hm hk => by
  obtain ⟨a, ha⟩ := N.has n ((ok.names _ hm).2.2 (beq_iff_eq.mp hk))
  rw [ha]; rfl
theorem comp_kind (ok : CompF c.sc scope) {s : Str} (h : (kindIs (compSc c.sc scope) s .cell || kindIs (compSc c.sc scope) s .free) = true) : (s, NameKind.free) ∈ scope.names ∧ kindIs c.sc s .cell = true := by
  have : ∃ k, scope.names.lookup s = some k ∧ k = .free := by
    unfold kindIs at h
    rw [lookup_compSc] at h
    cases q : scope.names.lookup s with
    | none => rw [q] at h; exact nT h
    | some k =>
      refine ⟨k, rfl, ?_⟩
      rw [q] at h
      rcases (ok.names _ (lookup_mem q)).1 with e | e | e
      · have e : k = .local := e
        subst e; exact nT h
      · exact e
      · have e : k = .globalImplicit := e
        subst e; exact nT h
  obtain ⟨k, hk, rfl⟩ := this
  have hm := lookup_mem hk
  exact ⟨hm, (ok.names _ hm).2.2 rfl⟩
theorem En.comp {C : Addr} {i : Nat} {t : T} {v : Value} {m' : Str → Option Value} (N : En c h fz hm) (ok : CompF c.sc scope) (hC : h.Ns C m') (hv : m' (sN i) = some v) (r : Rep c.w fz hm t v) (hmt : ¬ Mt hm C) :
    En (inC c scope (closL c.env.cells scope.names []) C [(i, .t t)]) h fz hm := by
  refine ⟨relabel_eq N, ok.fn, N.glob, N.blt, N.qual, fun j x hl hk => ?_, fun s hk => ?_, ⟨m', hC, fun j u hl _ => ?_⟩, hmt, N.code⟩
  · obtain ⟨hm', hc⟩ := comp_kind ok hk
    obtain ⟨a, o, y, p, q, z, tr⟩ := N.cells j x hl (by rw [hc]; rfl)
    have hs := closL_has (cells := c.env.cells) (acc := []) (.inl hm')
    obtain ⟨b, hb⟩ := Option.isSome_iff_exists.mp hs
    have := closL_sound (free_has N ok) (fun _ _ e => by cases e) _ _ hb
    rw [p] at this; cases this
    exact ⟨a, o, y, hb, q, z, tr⟩
  · obtain ⟨hm', _⟩ := comp_kind ok (s := s) (by rw [hk]; rfl)
    exact Option.isSome_iff_exists.mp (closL_has (cells := c.env.cells) (acc := []) (.inl hm'))
  · have e : (match Nat.beq i j with | true => some (LV.t t) | false => none) = some (LV.t u) := hl
    cases q : Nat.beq i j with
    | true => rw [q] at e; cases e; rw [← Nat.eq_of_beq_eq_true q]; exact ⟨v, hv, r⟩
    | false => rw [q] at e; cases e
end
noncomputable abbrev lstO (ys : List Value) : Obj := { cls := .type "list", data := .seq ys.toArray ys.length }
inductive CompI (c : Fx) (h : Heap) (fz : Fz) (hm : Hm) (l : List T) (I ax C D : Addr) (fe : T → Sg → (T → Sg → Prop) → Prop) (ft : T → Sg → (Bool → Sg → Prop) → Prop) (inv : Sg → Prop) (K : List T → Sg → Prop) (k : Nat) (s' : Shared) : Prop
  | mk (h' : Heap) (tk : Nat) (fz' : Fz) (hm' : Hm) (σ' : Sg) (j : Nat) (acc : List T) (ys : List Value) (m' : Str → Option Value) : s' = c.st h' tk → j ≤ l.length → k = l.length + 1 - j → W c.w c.h₀ c.L h' fz' hm' σ' → Ext h fz hm h' fz' hm' → h'.IsListIter I ax j → Priv h' fz' hm' I → h'.Ns C m' → Priv h' fz' hm' C →
    h'.get? D = some (lstO ys) → Priv h' fz' hm' D → RepL c.w fz' hm' acc ys → inv σ' → compL fe ft inv (l.drop j) acc σ' K → CompI c h fz hm l I ax C D fe ft inv K k s'
section
variable {c : Fx} {h : Heap} {fz : Fz} {hm : Hm} {σ : Sg} {m : Str → Option Value} {scope : Scope} {n : Nat} {mg mb : Str → Option Value}
theorem comp_start {CE : PySem.Expr} {E : Value → Shared → Prop} {ax : Addr} {tk : Nat} {RR : Value → Addr → Result → Shared → Prop} (X : W c.w c.h₀ c.L h fz hm σ) (ok : CompF c.sc scope) (hax : h.get? ax ≠ none)
    (k : ∀ (I D C : Addr) (h₁ : Heap) (m' : Str → Option Value), W c.w c.h₀ c.L h₁ fz hm σ → Ext h fz hm h₁ fz hm → h₁.IsListIter I ax 0 → Priv h₁ fz hm I → h₁.Ns C m' → Priv h₁ fz hm C → h₁.get? D = some (lstO []) → Priv h₁ fz hm D →
      h.get? I = none → h.get? D = none → h.get? C = none → I ≠ D → I ≠ C → D ≠ C → ax ≠ I → codeAny (model pw c.w) c.A (.compStart CE 0 (.ref I) (.ref D) (compEnvC scope (closL c.env.cells scope.names []) C c.env)) (RR (.ref D) C) (c.st h₁ (tk + ([] : List (Str × Value)).length))) :
    wpAny (model pw c.w) c.A (newList []) (fun acc s₃ => wpAny (model pw c.w) c.A (newFunctionEnv scope c.env.globals (closL c.env.cells scope.names []) [] c.env.qual none .none (some c.env)) (fun cenv s₄ =>
      codeAny (model pw c.w) c.A (.compStart CE 0 (.ref h.objs.size) acc { cenv with scope := relabel scope c.env }) (RR acc cenv.locals) s₄) E s₃) E
      (c.st (h.push { cls := .type "list_iterator", data := .fields #[.ref ax, .int 0 0] }) tk) := by
  have hcell : ∀ y ∈ scope.names, y.2 ≠ .cell := fun y hy q => by
    rcases (ok.names y hy).1 with z | z | z <;> (rw [z] at q; cases q)
  refine wpAny_newObj_type (wpAny_newFunctionEnv hcell (by intro y hy; simp at hy) (fun h₁ hns₁ hsb₁ => ?_) ok.fn)
  dsimp only at hns₁ hsb₁ ⊢
  generalize hI0 : h.push { cls := .type "list_iterator", data := .fields #[.ref ax, .int 0 0] } = H1 at hns₁ hsb₁ ⊢
  generalize hH2 : H1.push { cls := .type "list", dict := none, data := .seq ([] : List Value).toArray } = H2 at hns₁ hsb₁ ⊢
  have sz1 : H1.objs.size = h.objs.size + 1 := by rw [← hI0, Heap.size_push]
  have sz2 : H2.objs.size = h.objs.size + 2 := by rw [← hH2, Heap.size_push, sz1]
  have nn : ∀ a, h.objs.size ≤ a → h.get? a = none := fun a ha => by
    cases q : h.get? a with
    | none => rfl
    | some o => exact absurd (Heap.lt_size q) (Nat.not_lt.mpr ha)
  have oI : H1.get? h.objs.size = some { cls := .type "list_iterator", data := .fields #[.ref ax, .int 0 0] } := by rw [← hI0]; exact Heap.get?_push_size _ rfl
  have up1 : ∀ b o, h.get? b = some o → H1.get? b = some o := fun b o e => by rw [← hI0]; exact Heap.get?_push_of_some _ e
  have up2 : ∀ b o, H1.get? b = some o → H2.get? b = some o := fun b o e => by rw [← hH2]; exact Heap.get?_push_of_some _ e
  have up3 : ∀ b o, b ≠ H2.objs.size → H2.get? b = some o → h₁.get? b = some o := fun b o q e => hsb₁.extBut b o q (Heap.get?_push_of_some _ e)
  have ltne : ∀ b o, H2.get? b = some o → b ≠ H2.objs.size := fun b o e => Nat.ne_of_lt (Heap.lt_size e)
  have old : ∀ b o, h.get? b = some o → h₁.get? b = some o := fun b o e => let e2 := up2 _ _ (up1 _ _ e); up3 b o (ltne _ _ e2) e2
  have oI' : h₁.get? h.objs.size = some { cls := .type "list_iterator", data := .fields #[.ref ax, .int 0 0] } := let e2 := up2 _ _ oI; up3 _ _ (ltne _ _ e2) e2
  have oD : h₁.get? H1.objs.size = some (lstO []) := by
    have e2 : H2.get? H1.objs.size = some (lstO []) := by rw [← hH2]; exact Heap.get?_push_size _ rfl
    exact up3 _ _ (ltne _ _ e2) e2
  have X1 : W c.w c.h₀ c.L h₁ fz hm σ := X.keeps old
  have x1 : Ext h fz hm h₁ fz hm := Ext.keeps fz hm old
  have pr : ∀ a, h.objs.size ≤ a → h₁.get? a ≠ none → Priv h₁ fz hm a := fun a ha hl => ⟨hl, X.fresh_mt (nn a ha), X.fresh_fz (nn a ha)⟩
  have pI : Priv h₁ fz hm h.objs.size := pr _ (Nat.le_refl _) (by rw [oI']; exact fun z => nomatch z)
  have pD : Priv h₁ fz hm H1.objs.size := pr _ (by lia) (by rw [oD]; exact fun z => nomatch z)
  have pC : Priv h₁ fz hm H2.objs.size := pr _ (by lia) (ns_live hns₁)
  have nI := nn h.objs.size (Nat.le_refl _)
  have nD := nn H1.objs.size (by lia)
  have nC := nn H2.objs.size (by lia)
  have dID : h.objs.size ≠ H1.objs.size := by lia
  have dIC : h.objs.size ≠ H2.objs.size := by lia
  have dDC : H1.objs.size ≠ H2.objs.size := by lia
  have haxI : ax ≠ h.objs.size := fun q => hax (by rw [q]; exact nI)
  exact k _ _ _ h₁ _ X1 x1 ⟨_, oI', rfl, rfl⟩ pI hns₁ pC oD pD nI nD nC dID dIC dDC haxI
theorem comp_core {elt iter : PySem.Expr} {x : Str} {i : Nat} {px pos : Pos} {ifs : List PySem.Expr} {E : Value → Shared → Prop} {fe : T → Sg → (T → Sg → Prop) → Prop} {ft : T → Sg → (T → Sg → Prop) → Prop} {inv : Sg → Prop} {l : List T} {ax : Addr} {K : List T → Sg → Prop} {tk : Nat} {RR : Value → Addr → Result → Shared → Prop}
    (Z : Act c.w mg mb n c.A c.h₀ c.L) (F : Fr c.h₀ c.L h m) (X : W c.w c.h₀ c.L h fz hm σ) (N : En c h fz hm) (hn : nmOk x i = true) (hx : kindIs scope x .local = true) (ok : CompF c.sc scope)
    (HE : ∀ C t, SX (inC c scope (closL c.env.cells scope.names []) C [(i, .t t)]) (fe t) (eval elt (compEnvC scope (closL c.env.cells scope.names []) C c.env)))
    (HT : ∀ C t (m : Str → Option Value) (h : Heap) (fz : Fz) (hm : Hm) (σ : Sg) (tk : Nat) (Q : Bool → Shared → Prop) (E : Value → Shared → Prop) (K : Bool → Sg → Prop),
      Fr c.h₀ c.L h m → W c.w c.h₀ c.L h fz hm σ → En (inC c scope (closL c.env.cells scope.names []) C [(i, .t t)]) h fz hm → ft t σ (onB K) → RB c h fz hm Q K →
      wpAny (model pw c.w) c.A (forIn ifs true fun e r => if r = true then do let ok ← isTrue e (compEnvC scope (closL c.env.cells scope.names []) C c.env) (eval e (compEnvC scope (closL c.env.cells scope.names []) C c.env)); pure (ForInStep.yield ok) else pure (ForInStep.yield r)) Q E (c.st h tk))
    (SRC : ∀ h' fz' hm' σ', W c.w c.h₀ c.L h' fz' hm' σ' → Ext h fz hm h' fz' hm' → inv σ' → ∃ its : Array Value, h'.IsList ax its ∧ RepL c.w fz' hm' l its.toList) (hax : h.get? ax ≠ none) (hI : inv σ)
    (e : compL fe (fun t σ K => ft t σ (onB K)) inv l [] σ K)
    (hRR : ∀ D C h' tk' fz' hm' σ' acc ys m', K acc σ' → RepL c.w fz' hm' acc ys → W c.w c.h₀ c.L h' fz' hm' σ' → Ext h fz hm h' fz' hm' → h.get? D = none → h'.get? D = some (lstO ys) → Priv h' fz' hm' D → h.get? C = none → h'.Ns C m' → Priv h' fz' hm' C → D ≠ C → RR (.ref D) C (.ok .next) (c.st h' tk')) :
    wpAny (model pw c.w) c.A (newList []) (fun acc s₃ => wpAny (model pw c.w) c.A (newFunctionEnv scope c.env.globals (closL c.env.cells scope.names []) [] c.env.qual none .none (some c.env)) (fun cenv s₄ =>
      codeAny (model pw c.w) c.A (.compStart (.ListComp elt [⟨.Name x px, iter, ifs, 0⟩] scope pos) 0 (.ref h.objs.size) acc { cenv with scope := relabel scope c.env }) (RR acc cenv.locals) s₄) E s₃) E
      (c.st (h.push { cls := .type "list_iterator", data := .fields #[.ref ax, .int 0 0] }) tk) := by
  obtain ⟨hi, rfl, hd1, hd2⟩ := nm_of hn
  have hx' : scope.names.lookup (sN i) = some .local := beq_iff_eq.mp hx
  refine comp_start X ok hax fun I D C h₁ m₁ X1 x1 itI pI hns₁ pC oD pD nI nD nC dID dIC dDC haxI => ?_
  have loop : ∀ s₃ : Shared, s₃ = c.st h₁ (tk + ([] : List (Str × Value)).length) →
      codeAny (model pw c.w) c.A (.compLoop (.ListComp elt [⟨.Name (sN i) px, iter, ifs, 0⟩] scope pos) 0 (.ref I) (.ref D) (compEnvC scope (closL c.env.cells scope.names []) C c.env)) (RR (.ref D) C) s₃ := by
    rintro s₃ rfl
    refine codeAny_compLoop_tests
      (CompI c h fz hm l I ax C D fe (fun t σ K => ft t σ (onB K)) inv K) ?_ (l.length + 1)
      ⟨h₁, _, fz, hm, σ, 0, [], [], _, rfl, Nat.zero_le _, rfl, X1, x1, itI, pI, hns₁, pC, oD, pD, .nil, hI, by simpa using e⟩
    rintro k s' ⟨h', tk, fz', hm', σ', j, acc, ys, m', rfl, hj, rfl, X', x', it', pI', ns', pC', oD', pD', rl, hI', e'⟩
    obtain ⟨its, hl, hr⟩ := SRC _ _ _ _ X' x' hI'
    have hsz := hr.size
    have WL := Walks.list (A := c.A) Z.hh I ax haxI its (prog := pw) (w := c.w)
    by_cases hlt : j < l.length
    · refine WL.item j _ _ _ (by rw [hsz]; exact hlt) ⟨it', hl⟩ fun v h₂ tk₂ hPv hst₂ hk₂ => ?_
      have hk₂' : ∀ b o, b ≠ I → h'.get? b = some o → h₂.get? b = some o := fun b o q e => hk₂ b o (by simpa using q) e
      have ht : l[j]? = some l[j] := List.getElem?_eq_getElem hlt
      obtain ⟨v', hv', rv⟩ := hr.get ht
      have : v' = v := by
        have z : its[j]? = some v' := by simpa using hv'
        rw [hPv] at z; exact (Option.some.inj z).symm
      subst this
      rw [List.drop_eq_getElem_cons hlt] at e'
      obtain ⟨hlen, e'⟩ := e'
      have X2 := X'.but hk₂' pI'.mt pI'.fz
      have x2 := x'.but hk₂' nI
      have ns2 : h₂.Ns C m' := ns'.at' fun o q => hk₂' _ _ (Ne.symm dIC) q
      have oD2 := hk₂' _ _ (Ne.symm dID) oD'
      have lI2 : h₂.get? I ≠ none := by obtain ⟨o, q, _⟩ := hst₂.1; rw [q]; exact fun z => nomatch z
      have pI2 := pI'.at lI2
      have pC2 := pC'.at (ns_live ns2)
      have pD2 := pD'.at (h' := h₂) (by rw [oD2]; exact fun z => nomatch z)
      refine wpAny_assign_Name (wpAny_storeName_local (lookup_relabel_local hx') ns2 (fun h₃ hn₃ hs₃ => ?_) (by simp [compEnvC, relabel, ok.fn]))
      have hk₃ := sb_keep hs₃
      have X3 := X2.but hk₃ pC2.mt pC2.fz
      have x3 := x2.but hk₃ nC
      have oD3 := hk₃ _ _ dDC oD2
      have it3 : h₃.IsListIter I ax (j + 1) := let ⟨o, q, r⟩ := hst₂.1; ⟨o, hk₃ _ _ dIC q, r⟩
      have pI3 := pI2.at (h' := h₃) (by obtain ⟨o, q, _⟩ := it3; rw [q]; exact fun z => nomatch z)
      have pC3 := pC2.at (ns_live hn₃)
      have pD3 := pD2.at (h' := h₃) (by rw [oD3]; exact fun z => nomatch z)
      have F3 : Fr c.h₀ c.L h₃ m := X.fr F x3
      have N3 : En (inC c scope (closL c.env.cells scope.names []) C [(i, .t l[j])]) h₃ fz' hm' := (N.ext x3).comp ok hn₃ (by simp) rv pC3.mt
      refine HT C l[j] m h₃ fz' hm' σ' _ _ _ _ F3 X3 N3 e' fun b h₄ tk₄ fz₄ hm₄ σ₄ eb X4 x4 => ?_
      have x04 := x3.trans x4
      cases b with
      | false =>
        rw [if_neg (by decide)]
        obtain ⟨inv4, e4⟩ := eb
        refine ⟨l.length + 1 - (j + 1), by lia, h₄, tk₄, fz₄, hm₄, σ₄, j + 1, acc, ys, _, rfl, hlt, rfl, X4, x04, pI3.iter x4 it3, pI3.ext x4, pC3.ns x4 hn₃, pC3.ext x4, pD3.obj x4 oD3, pD3.ext x4, rl.mono x4.sub x4.hmi, inv4, e4⟩
      | true =>
        rw [if_pos rfl]
        refine (HE C l[j]).then (X.fr F x04) X4 (N3.ext x4) eb fun y vy h₅ tk₅ fz₅ hm₅ σ₅ ey ry F5 X5 N5 x5 => ?_
        have x35 := x4.trans x5
        have x05 := x3.trans x35
        obtain ⟨inv5, e5⟩ := ey
        have oD5 := pD3.obj x35 oD3
        have rl5 := rl.mono x35.sub x35.hmi
        refine append_at oD5 (fun h₆ hs₆ hD₆ => ?_) (by rw [List.size_toArray, ← rl5.length, sizeLine_eq]; lia)
        have hk₆ := sb_keep hs₆
        have pD5 := pD3.ext x35
        have pC5 := pC3.ext x35
        have pI5 := pI3.ext x35
        have X6 := X5.but hk₆ pD5.mt pD5.fz
        have x6 := x05.but hk₆ nD
        have it5 := pI3.iter x35 it3
        have ns5 := pC3.ns x35 hn₃
        have it6 : h₆.IsListIter I ax (j + 1) := let ⟨o, q, r⟩ := it5; ⟨o, hk₆ _ _ dID q, r⟩
        have ns6 : h₆.Ns C _ := ns5.at' fun o q => hk₆ _ _ (Ne.symm dDC) q
        refine ⟨l.length + 1 - (j + 1), by lia, h₆, tk₅, fz₅, hm₅, σ₅, j + 1, acc ++ [y], ys ++ [vy], _, rfl, hlt, rfl, X6, x6, it6, pI5.at ?_, ns6, pC5.at (ns_live ns6), ?_, pD5.at ?_, rl5.append (.cons ry .nil), inv5, e5⟩
        · obtain ⟨o, q, _⟩ := it6; rw [q]; exact fun z => nomatch z
        · rw [hD₆]
          show some ({ cls := .type "list", data := .seq (ys.toArray.push vy) (ys.length + 1) } : Obj) = some (lstO (ys ++ [vy]))
          exact congrArg some (LCg.lst_snoc ys vy)
        · rw [hD₆]; exact fun z => nomatch z
    · obtain rfl : j = l.length := Nat.le_antisymm hj (Nat.not_lt.mp hlt)
      rw [List.drop_length] at e'
      refine WL.done _ _ _ (by rw [hsz]; exact ⟨it', hl⟩) fun h₂ tk₂ hk₂ => ?_
      have hk₂' : ∀ b o, b ≠ I → h'.get? b = some o → h₂.get? b = some o := fun b o q e => hk₂ b o (by simpa using q) e
      have ns2 : h₂.Ns C m' := ns'.at' fun o q => hk₂' _ _ (Ne.symm dIC) q
      have oD2 := hk₂' _ _ (Ne.symm dID) oD'
      exact hRR D C h₂ tk₂ fz' hm' σ' acc ys m' e' rl (X'.but hk₂' pI'.mt pI'.fz) (x'.but hk₂' nI) nD oD2 (pD'.at (by rw [oD2]; exact fun z => nomatch z)) nC ns2 (pC'.at (ns_live ns2)) dDC
  obtain ⟨its, hl, _⟩ := SRC _ _ _ _ X1 x1 hI
  exact codeAny_compStart_list (loop _ rfl) ((Walks.list (A := c.A) Z.hh I ax haxI its (prog := pw) (w := c.w)).self 0 _ _ _ ⟨itI, hl⟩ (loop _ rfl))
theorem notSet {e : PySem.Expr} (h : inMarks e = true) (env : Env) (x : Value) : foldedSetIterable e env x = pure x := by cases e <;> first | rfl | cases h
noncomputable def goP (fe : T → Sg → (T → Sg → Prop) → Prop) (ft : T → Sg → (T → Sg → Prop) → Prop) (K : List T → Sg → Prop) : T → Sg → Prop := fun v σ => match v with
  | .lst l => compL fe (fun t σ K => ft t σ (onB K)) (fun _ => True) l [] σ K
  | .own j => (match σ[j]? with
    | some (.lst l) => compL fe (fun t σ K => ft t σ (onB K)) (fun σ => σ[j]? = some (.lst l)) l [] σ K
    | _ => False)
  | _ => False
theorem comp_any {elt iter : PySem.Expr} {x : Str} {i : Nat} {px pos ipos : Pos} {ifs : List PySem.Expr} {E : Value → Shared → Prop} {fi : Sg → (T → Sg → Prop) → Prop} {fe : T → Sg → (T → Sg → Prop) → Prop} {ft : T → Sg → (T → Sg → Prop) → Prop} {K : List T → Sg → Prop} {tk : Nat} {Q : Value → Shared → Prop} {use : Option (Value → Sem Unit)}
    (Z : Act c.w mg mb n c.A c.h₀ c.L) (F : Fr c.h₀ c.L h m) (X : W c.w c.h₀ c.L h fz hm σ) (N : En c h fz hm) (hn : nmOk x i = true) (hx : kindIs scope x .local = true) (ok : CompF c.sc scope) (hs : inMarks iter = true)
    (HI : SX c fi (eval iter c.env))
    (HE : ∀ C t, SX (inC c scope (closL c.env.cells scope.names []) C [(i, .t t)]) (fe t) (eval elt (compEnvC scope (closL c.env.cells scope.names []) C c.env)))
    (HT : ∀ C t (m : Str → Option Value) (h : Heap) (fz : Fz) (hm : Hm) (σ : Sg) (tk : Nat) (Q : Bool → Shared → Prop) (E : Value → Shared → Prop) (K : Bool → Sg → Prop),
      Fr c.h₀ c.L h m → W c.w c.h₀ c.L h fz hm σ → En (inC c scope (closL c.env.cells scope.names []) C [(i, .t t)]) h fz hm → ft t σ (onB K) → RB c h fz hm Q K →
      wpAny (model pw c.w) c.A (forIn ifs true fun e r => if r = true then do let ok ← isTrue e (compEnvC scope (closL c.env.cells scope.names []) C c.env) (eval e (compEnvC scope (closL c.env.cells scope.names []) C c.env)); pure (ForInStep.yield ok) else pure (ForInStep.yield r)) Q E (c.st h tk))
    (e : fi σ (goP fe ft K))
    (hRR : ∀ D C h' tk' fz' hm' σ' acc ys m', K acc σ' → RepL c.w fz' hm' acc ys → W c.w c.h₀ c.L h' fz' hm' σ' → Ext h fz hm h' fz' hm' → h.get? D = none → h'.get? D = some (lstO ys) → Priv h' fz' hm' D → h.get? C = none → h'.Ns C m' → Priv h' fz' hm' C → D ≠ C →
      compPost (model pw c.w) c.A E use Q (.ref D) C (.ok .next) (c.st h' tk')) :
    wpAny (model pw c.w) c.A (comprehension (.ListComp elt [⟨.Name x px, iter, ifs, 0⟩] scope pos) scope c.env ipos (newList []) false (eval iter c.env) use) Q E (c.st h tk) := by
  refine wpAny_comprehension_free rfl (fun v => notSet hs c.env v) (closFor scope c.env (free_has N ok)) ok.fn (fun p hp q => by have := (ok.names p hp).2.1; rw [q] at this; exact this) ?_
  refine HI.then F X N e fun t v h1 tk1 fz1 hm1 σ1 e1 r1 F1 X1 N1 x1 => ?_
  have fin : ∀ (l : List T) (ax : Addr) (inv : Sg → Prop) (its : Array Value), h1.IsList ax its → compL fe (fun t σ K => ft t σ (onB K)) inv l [] σ1 K → inv σ1 →
      (∀ h' fz' hm' σ', W c.w c.h₀ c.L h' fz' hm' σ' → Ext h1 fz1 hm1 h' fz' hm' → inv σ' → ∃ its : Array Value, h'.IsList ax its ∧ RepL c.w fz' hm' l its.toList) → v = .ref ax →
      wpAny (model pw c.w) c.A (pyIter v) (fun it s₂ => wpAny (model pw c.w) c.A (newList []) (fun acc s₃ => wpAny (model pw c.w) c.A (newFunctionEnv scope c.env.globals (closL c.env.cells scope.names []) [] c.env.qual none .none (some c.env)) (fun cenv s₄ =>
        codeAny (model pw c.w) c.A (.compStart (.ListComp elt [⟨.Name x px, iter, ifs, 0⟩] scope pos) 0 it acc { cenv with scope := relabel scope c.env }) (compPost (model pw c.w) c.A E use Q acc cenv.locals) s₄) E s₃) E s₂) E (c.st h1 tk1) := by
    rintro l ax inv its hl el hinv src rfl
    refine wpAny_pyIter_list hl ?_
    refine comp_core (RR := fun acc C r s => compPost (model pw c.w) c.A E use Q acc C r s) Z F1 X1 N1 hn hx ok HE HT src (by obtain ⟨o, q, _⟩ := hl; rw [q]; exact fun z => nomatch z) hinv el
      fun D C h' tk' fz' hm' σ' acc ys m' a1 a2 a3 a4 a5 a6 a7 a8 a9 a10 a11 => hRR D C h' tk' fz' hm' σ' acc ys m' a1 a2 a3 (x1.trans a4) (x1.dom _ a5) a6 a7 (x1.dom _ a8) a9 a10 a11
  cases t with
  | lst l =>
    cases r1 with
    | lst b1 b2 b3 b4 => exact fin l _ (fun _ => True) _ (fz_lst (X1.fzo _ _ b1) b2 b3) e1 trivial (fun h' fz' hm' σ' X' x' _ => ⟨_, fz_lst (X'.fzo _ _ (x'.sub _ _ b1)) b2 b3, b4.mono x'.sub x'.hmi⟩) rfl
  | own j =>
    cases r1 with
    | @own _ p hj =>
      refine cL_m (c := σ1[j]?) (K := fun l => compL fe (fun t σ K => ft t σ (onB K)) (fun σ => σ[j]? = some (.lst l)) l [] σ1 K) e1 fun l hl e1 => ?_
      obtain ⟨o, ho, hpp, hc, vs, k, hd, hr, -⟩ := X1.cell _ _ _ hl hj
      refine fin l p.2 (fun σ => σ[j]? = some (.lst l)) _ (fz_lst ho hc hd) e1 hl (fun h' fz' hm' σ' X' x' hi' => ?_) (by rw [hpp])
      obtain ⟨o', ho', hpp', hc', vs', k', hd', hr', -⟩ := X'.cell _ _ _ hi' (x'.hmi _ _ hj)
      exact ⟨vs', fz_lst ho' hc' hd', hr'⟩
  | _ => exact e1.elim
theorem tests_nil {cl : List (Str × Addr)} : ∀ C (t : T) (m : Str → Option Value) (h : Heap) (fz : Fz) (hm : Hm) (σ : Sg) (tk : Nat) (Q : Bool → Shared → Prop) (E : Value → Shared → Prop) (K : Bool → Sg → Prop),
      Fr c.h₀ c.L h m → W c.w c.h₀ c.L h fz hm σ → En (inC c scope cl C [(i, .t t)]) h fz hm → (fun (_ : T) (σ : Sg) (K : T → Sg → Prop) => K (.bool true) σ) t σ (onB K) → RB c h fz hm Q K →
      wpAny (model pw c.w) c.A (forIn ([] : List PySem.Expr) true fun e r => if r = true then do let ok ← isTrue e (compEnvC scope cl C c.env) (eval e (compEnvC scope cl C c.env)); pure (ForInStep.yield ok) else pure (ForInStep.yield r)) Q E (c.st h tk) :=
  fun _ _ _ _ _ _ _ _ _ _ _ _ X _ e hQ => wpAny_tests_nil (hQ _ _ _ _ _ _ e X (Ext.refl ..))
theorem tests_one {cl : List (Str × Addr)} {i : Nat} {cnd : PySem.Expr} {ft : T → Sg → (T → Sg → Prop) → Prop} (H : ∀ C t, SB (inC c scope cl C [(i, .t t)]) (ft t) (isTrue cnd (compEnvC scope cl C c.env) (eval cnd (compEnvC scope cl C c.env)))) :
    ∀ C (t : T) (m : Str → Option Value) (h : Heap) (fz : Fz) (hm : Hm) (σ : Sg) (tk : Nat) (Q : Bool → Shared → Prop) (E : Value → Shared → Prop) (K : Bool → Sg → Prop),
      Fr c.h₀ c.L h m → W c.w c.h₀ c.L h fz hm σ → En (inC c scope cl C [(i, .t t)]) h fz hm → ft t σ (onB K) → RB c h fz hm Q K →
      wpAny (model pw c.w) c.A (forIn [cnd] true fun e r => if r = true then do let ok ← isTrue e (compEnvC scope cl C c.env) (eval e (compEnvC scope cl C c.env)); pure (ForInStep.yield ok) else pure (ForInStep.yield r)) Q E (c.st h tk) :=
  fun C t m h fz hm σ tk Q E K F X N e hQ => wpAny_tests_one (H C t m h fz hm σ tk Q E K F X N e hQ)
theorem SX.comp {elt iter : PySem.Expr} {x : Str} {i : Nat} {px pos : Pos} {ifs : List PySem.Expr} {fi : Sg → (T → Sg → Prop) → Prop} {fe : T → Sg → (T → Sg → Prop) → Prop} {ft : T → Sg → (T → Sg → Prop) → Prop}
    (Z : Act c.w mg mb n c.A c.h₀ c.L) (hn : nmOk x i = true) (hx : kindIs scope x .local = true) (ok : CompF c.sc scope) (hs : inMarks iter = true)
    (HI : SX c fi (eval iter c.env))
    (HE : ∀ C t, SX (inC c scope (closL c.env.cells scope.names []) C [(i, .t t)]) (fe t) (eval elt (compEnvC scope (closL c.env.cells scope.names []) C c.env)))
    (HT : ∀ C t (m : Str → Option Value) (h : Heap) (fz : Fz) (hm : Hm) (σ : Sg) (tk : Nat) (Q : Bool → Shared → Prop) (E : Value → Shared → Prop) (K : Bool → Sg → Prop),
      Fr c.h₀ c.L h m → W c.w c.h₀ c.L h fz hm σ → En (inC c scope (closL c.env.cells scope.names []) C [(i, .t t)]) h fz hm → ft t σ (onB K) → RB c h fz hm Q K →
      wpAny (model pw c.w) c.A (forIn ifs true fun e r => if r = true then do let ok ← isTrue e (compEnvC scope (closL c.env.cells scope.names []) C c.env) (eval e (compEnvC scope (closL c.env.cells scope.names []) C c.env)); pure (ForInStep.yield ok) else pure (ForInStep.yield r)) Q E (c.st h tk)) :
    SX c (fun σ K => fi σ (goP fe ft fun vs σ => K (.lst vs) σ)) (eval (.ListComp elt [⟨.Name x px, iter, ifs, 0⟩] scope pos) c.env) := by
  intro m h fz hm σ tk Q E K F X N e hQ
  rw [eval_ListComp]
  refine comp_any (use := none) Z F X N hn hx ok hs HI HE HT e fun D C h' tk' fz' hm' σ' acc ys m' ka rl X' x' nD oD pD nC nsC pC dDC => ?_
  refine ⟨m', nsC, fun h'' hs'' => ?_⟩
  have hk := sb_keep hs''
  have oD'' := hk _ _ dDC oD
  have X2 := (X'.but hk pC.mt pC.fz).freeze oD'' pD.mt
  have x2 := (x'.but hk nC).freeze (o := lstO ys) nD
  exact hQ _ _ _ _ _ _ _ ka (.lst (.inr ⟨rfl, rfl⟩) rfl rfl (rl.mono (fun _ _ => .inl) fun _ _ e => e)) X2 x2
end
section
variable {c : Fx} {h : Heap} {fz : Fz} {hm : Hm} {σ : Sg} {m : Str → Option Value} {scope : Scope} {n : Nat} {mg mb : Str → Option Value}
theorem En.compR {C : Addr} {ρ : Rho} {m' : Str → Option Value} (N : En c h fz hm) (ok : CompF c.sc scope) (hC : h.Ns C m') (V : VarsT c.w fz hm ρ m') (hmt : ¬ Mt hm C) : En (inC c scope (closL c.env.cells scope.names []) C ρ) h fz hm := by
  refine ⟨relabel_eq N, ok.fn, N.glob, N.blt, N.qual, fun j x hl hk => ?_, fun s hk => ?_, ⟨m', hC, V⟩, hmt, N.code⟩
  · obtain ⟨hm', hc⟩ := comp_kind ok hk
    obtain ⟨a, o, y, p, q, z, tr⟩ := N.cells j x hl (by rw [hc]; rfl)
    obtain ⟨b, hb⟩ := Option.isSome_iff_exists.mp (closL_has (cells := c.env.cells) (acc := []) (.inl hm'))
    have := closL_sound (free_has N ok) (fun _ _ e => by cases e) _ _ hb
    rw [p] at this; cases this
    exact ⟨a, o, y, hb, q, z, tr⟩
  · obtain ⟨hm', _⟩ := comp_kind ok (s := s) (by rw [hk]; rfl)
    exact Option.isSome_iff_exists.mp (closL_has (cells := c.env.cells) (acc := []) (.inl hm'))
theorem VarsT.put {w : World} {ρ : Rho} {m' : Str → Option Value} {i : Nat} {t : T} {v : Value} (V : VarsT w fz hm ρ m') (hi : i < nsz) (r : Rep w fz hm t v) : VarsT w fz hm (pt ρ i (.t t)) fun x => if x = sN i then some v else m' x := by
  intro j u hl hj
  have key : ∀ (l : Rho), lk (pt l i (.t t)) j = if i = j then some (.t t) else lk l j := by
    intro l
    induction l with
    | nil =>
      show (match Nat.beq i j with | true => some (LV.t t) | false => none) = _
      by_cases e : i = j
      · subst e; rw [Nat.beq_refl, if_pos rfl]
      · rw [if_neg e]
        cases q : Nat.beq i j with
        | true => exact absurd (Nat.eq_of_beq_eq_true q) e
        | false => rfl
    | cons p r ih =>
      obtain ⟨k, u⟩ := p
      show lk (match Nat.beq k i with | true => (k, LV.t t) :: r | false => (k, u) :: pt r i (.t t)) j = if i = j then some (.t t) else (match Nat.beq k j with | true => some u | false => lk r j)
      cases q : Nat.beq k i with
      | true =>
        have := Nat.eq_of_beq_eq_true q
        subst this
        show (match Nat.beq k j with | true => some (LV.t t) | false => lk r j) = _
        by_cases e : k = j
        · subst e; rw [Nat.beq_refl, if_pos rfl]
        · rw [if_neg e]
          cases q : Nat.beq k j with
          | true => exact absurd (Nat.eq_of_beq_eq_true q) e
          | false => rfl
      | false =>
        show (match Nat.beq k j with | true => some u | false => lk (pt r i (.t t)) j) = _
        rw [ih]
        cases q' : Nat.beq k j with
        | true =>
          have := Nat.eq_of_beq_eq_true q'
          subst this
          have ne : ¬ i = k := fun e => by subst e; rw [Nat.beq_refl] at q; cases q
          simp only [if_neg ne]
        | false => rfl
  rw [key] at hl
  by_cases e : i = j
  · subst e
    rw [if_pos rfl] at hl; cases hl
    exact ⟨v, if_pos rfl, r⟩
  · rw [if_neg e] at hl
    obtain ⟨u', h1, h2⟩ := V j u hl hj
    exact ⟨u', by show (if sN j = sN i then some v else m' (sN j)) = _; rw [if_neg fun z => e (sN_inj hj hi z).symm]; exact h1, h2⟩
theorem nameIs_of {i : Nat} {e : PySem.Expr} {sc : Scope} (h : nameIs sc i e = true) : ∃ p, e = .Name (sN i) p ∧ i < nsz ∧ kindIs sc (sN i) .local = true ∧ (sN i == ("__debug__" : Str)) = false := by
  obtain ⟨s, p, rfl, h⟩ := onName_t h
  obtain ⟨a, rfl, b, _⟩ := nm_of (a1 h)
  exact ⟨p, rfl, a, a2 h, b⟩
theorem allNm_cons {sc : Scope} {i : Nat} {r : List Nat} {x : PySem.Expr} {es : List PySem.Expr} (h : allNm sc (i :: r) (x :: es) = true) : ∃ p, x = .Name (sN i) p ∧ i < nsz ∧ kindIs sc (sN i) .local = true ∧ allNm sc r es = true :=
  let ⟨p, e, a, b, _⟩ := nameIs_of (a1 h)
  ⟨p, e, a, b, a2 h⟩
theorem bindC_ok {cenv : Env} {Q : Unit → Shared → Prop} {E : Value → Shared → Prop} (hp : (cenv.scope.kind == .class || (cenv.scope.kind == .module && cenv.locals != cenv.globals)) = false) (hkk : ∀ s, kindIs scope s .local = true → cenv.kindOf s = some .local) (is : List Nat) :
    ∀ (es : List PySem.Expr) (ts : List T) (vs : List Value) (ρ ρ' : Rho) (m' : Str → Option Value) (h : Heap) (tk : Nat), allNm scope is es = true → RepL c.w fz hm ts vs → bindAll is ts ρ = some ρ' → h.Ns cenv.locals m' → VarsT c.w fz hm ρ m' →
    (∀ m2 h2 tk2, h2.Ns cenv.locals m2 → VarsT c.w fz hm ρ' m2 → (∀ b o, b ≠ cenv.locals → h.get? b = some o → h2.get? b = some o) → Q () (c.st h2 tk2)) →
    wpAny (model pw c.w) c.A (assignInOrder ((assignEach es cenv).map (·.2)) vs) Q E (c.st h tk) := by
  induction is with
  | nil =>
    intro es ts vs ρ ρ' m' h tk hc rs e hn V k
    cases es with
    | cons x es => exact absurd (show false = true from hc) Bool.false_ne_true
    | nil =>
      cases ts with
      | cons _ _ => cases e
      | nil => cases e; cases rs; exact wpAny_pure (k _ _ _ hn V fun _ _ _ e => e)
  | cons i r ih =>
    intro es ts vs ρ ρ' m' h tk hc rs e hn V k
    cases es with
    | nil => exact absurd (show false = true from hc) Bool.false_ne_true
    | cons x es =>
      obtain ⟨p, rfl, hi, h2, h3⟩ := allNm_cons hc
      cases ts with
      | nil => cases e
      | cons t ts =>
        cases rs with
        | cons rv rs =>
          refine wpAny_bind (wpAny_holding (PyProof.Rows.assign_Name (wpAny_storeName_local (hkk _ h2) hn (fun h' hn' hs' => ?_) hp)))
          exact ih es ts _ (pt ρ i (.t t)) ρ' _ h' _ h3 rs e hn' (V.put hi rv) fun m2 h2 tk2 hn2 V2 hk2 => k m2 h2 tk2 hn2 V2 fun b o q e => hk2 b o q (sb_keep hs' _ _ q e)
theorem allNm_len (is : List Nat) : ∀ {es : List PySem.Expr} {sc : Scope} (env : Env), allNm sc is es = true → (assignEach es env).length = is.length ∧ (assignEach es env).findIdx? (·.1) = none := by
  induction is with
  | nil =>
    intro es sc env h
    cases es with
    | nil => exact ⟨rfl, rfl⟩
    | cons x es => exact absurd (show false = true from h) Bool.false_ne_true
  | cons i r ih =>
    intro es sc env h
    cases es with
    | nil => exact absurd (show false = true from h) Bool.false_ne_true
    | cons x es =>
      obtain ⟨p, rfl, hi, h2, h3⟩ := allNm_cons h
      obtain ⟨a, b⟩ := ih env h3
      refine ⟨by show (assignEach es env).length + 1 = r.length + 1; rw [a], ?_⟩
      show List.findIdx? _ ((false, _) :: assignEach es env) = none
      rw [List.findIdx?_cons, b]; rfl
theorem bindAll_len {is : List Nat} {ts : List T} {ρ ρ' : Rho} (e : bindAll is ts ρ = some ρ') : is.length = ts.length := by
  induction is generalizing ts ρ with
  | nil => cases ts with
    | nil => rfl
    | cons => exact nS e
  | cons i r ih => cases ts with
    | nil => exact nS e
    | cons t ts => exact congrArg (· + 1) (ih e)
noncomputable def pairP (is : List Nat) (fe : Rho → Sg → (T → Sg → Prop) → Prop) : T → Sg → (T → Sg → Prop) → Prop := fun t σ K => (match t with
  | .tup ts => (match bindAll is ts [] with
    | some ρ => fe ρ σ K
    | none => False)
  | _ => False)
theorem pairP_t {is : List Nat} {fe : Rho → Sg → (T → Sg → Prop) → Prop} {t : T} {σ : Sg} {K : T → Sg → Prop} (h : pairP is fe t σ K) : ∃ ts ρ, t = .tup ts ∧ bindAll is ts [] = some ρ ∧ fe ρ σ K := by
  cases t with
  | tup ts =>
    have h : (match bindAll is ts [] with
      | some ρ => fe ρ σ K
      | none => False) := h
    cases q : bindAll is ts [] with
    | none => rw [q] at h; exact h.elim
    | some ρ => rw [q] at h; exact ⟨ts, ρ, rfl, q, h⟩
  | _ => exact h.elim
theorem comp_coreT {elt iter : PySem.Expr} {es : List PySem.Expr} {is : List Nat} {kk : Nat} {tp pos : Pos} {E : Value → Shared → Prop} {fe : Rho → Sg → (T → Sg → Prop) → Prop} {l : List T} {ax : Addr} {K : List T → Sg → Prop} {tk : Nat} {RR : Value → Addr → Result → Shared → Prop}
    (Z : Act c.w mg mb n c.A c.h₀ c.L) (F : Fr c.h₀ c.L h m) (X : W c.w c.h₀ c.L h fz hm σ) (N : En c h fz hm) (hx : allNm scope is es = true) (ok : CompF c.sc scope)
    (HE : ∀ C ρ, SX (inC c scope (closL c.env.cells scope.names []) C ρ) (fe ρ) (eval elt (compEnvC scope (closL c.env.cells scope.names []) C c.env)))
    {its : Array Value} (SRC0 : h.IsList ax its) (SRC : ∀ h' fz' hm' σ', W c.w c.h₀ c.L h' fz' hm' σ' → Ext h fz hm h' fz' hm' → h'.IsList ax its ∧ RepL c.w fz' hm' l its.toList)
    (e : compL (pairP is fe) (fun _ σ K => K true σ) (fun _ => True) l [] σ K)
    (hRR : ∀ D C h' tk' fz' hm' σ' acc ys m', K acc σ' → RepL c.w fz' hm' acc ys → W c.w c.h₀ c.L h' fz' hm' σ' → Ext h fz hm h' fz' hm' → h.get? D = none → h'.get? D = some (lstO ys) → Priv h' fz' hm' D → h.get? C = none → h'.Ns C m' → Priv h' fz' hm' C → D ≠ C → RR (.ref D) C (.ok .next) (c.st h' tk')) :
    wpAny (model pw c.w) c.A (newList []) (fun acc s₃ => wpAny (model pw c.w) c.A (newFunctionEnv scope c.env.globals (closL c.env.cells scope.names []) [] c.env.qual none .none (some c.env)) (fun cenv s₄ =>
      codeAny (model pw c.w) c.A (.compStart (.ListComp elt [⟨.Tuple es kk tp, iter, [], 0⟩] scope pos) 0 (.ref h.objs.size) acc { cenv with scope := relabel scope c.env }) (RR acc cenv.locals) s₄) E s₃) E
      (c.st (h.push { cls := .type "list_iterator", data := .fields #[.ref ax, .int 0 0] }) tk) := by
  have hax : h.get? ax ≠ none := by obtain ⟨o, q, _⟩ := SRC0; rw [q]; exact fun z => nomatch z
  refine comp_start X ok hax fun I D C h₁ m₁ X1 x1 itI pI hns₁ pC oD pD nI nD nC dID dIC dDC haxI => ?_
  have WL := Walks.list (A := c.A) Z.hh I ax haxI its (prog := pw) (w := c.w)
  have loop : ∀ s₃ : Shared, s₃ = c.st h₁ (tk + ([] : List (Str × Value)).length) →
      codeAny (model pw c.w) c.A (.compLoop (.ListComp elt [⟨.Tuple es kk tp, iter, [], 0⟩] scope pos) 0 (.ref I) (.ref D) (compEnvC scope (closL c.env.cells scope.names []) C c.env)) (RR (.ref D) C) s₃ := by
    rintro s₃ rfl
    refine LCp.codeAny_compLoop_pair
      (CompI c h fz hm l I ax C D (pairP is fe) (fun _ σ K => K true σ) (fun _ => True) K) ?_ (l.length + 1)
      ⟨h₁, _, fz, hm, σ, 0, [], [], _, rfl, Nat.zero_le _, rfl, X1, x1, itI, pI, hns₁, pC, oD, pD, .nil, trivial, by simpa using e⟩
    rintro k s' ⟨h', tk, fz', hm', σ', j, acc, ys, m', rfl, hj, rfl, X', x', it', pI', ns', pC', oD', pD', rl, -, e'⟩
    obtain ⟨hl, hr⟩ := SRC _ _ _ _ X' x'
    have hsz := hr.size
    by_cases hlt : j < l.length
    · refine WL.item j _ _ _ (by rw [hsz]; exact hlt) ⟨it', hl⟩ fun v h₂ tk₂ hPv hst₂ hk₂ => ?_
      have hk₂' : ∀ b o, b ≠ I → h'.get? b = some o → h₂.get? b = some o := fun b o q e => hk₂ b o (by simpa using q) e
      have ht : l[j]? = some l[j] := List.getElem?_eq_getElem hlt
      obtain ⟨v', hv', rv⟩ := hr.get ht
      have : v' = v := by
        have z : its[j]? = some v' := by simpa using hv'
        rw [hPv] at z; exact (Option.some.inj z).symm
      subst this
      rw [List.drop_eq_getElem_cons hlt] at e'
      obtain ⟨hlen, e'⟩ := e'
      have e' : pairP is fe l[j] σ' (fun y σ => True ∧ compL (pairP is fe) (fun _ σ K => K true σ) (fun _ => True) (l.drop (j + 1)) (acc ++ [y]) σ K) := e'
      generalize hlj : l[j] = tj at rv e'
      · obtain ⟨ts, ρ, rfl, hb, ef⟩ := pairP_t e'
        · refine rv.tup_e fun aT oT itT nT b1 b2 b3 b4 => ?_
          have X2 := X'.but hk₂' pI'.mt pI'.fz
          have x2 := x'.but hk₂' nI
          have ns2 : h₂.Ns C m' := ns'.at' fun o q => hk₂' _ _ (Ne.symm dIC) q
          have oD2 := hk₂' _ _ (Ne.symm dID) oD'
          have lI2 : h₂.get? I ≠ none := by obtain ⟨o, q, _⟩ := hst₂.1; rw [q]; exact fun z => nomatch z
          have pI2 := pI'.at lI2
          have pC2 := pC'.at (ns_live ns2)
          have pD2 := pD'.at (h' := h₂) (by rw [oD2]; exact fun z => nomatch z)
          obtain ⟨l1, l2⟩ := allNm_len is (compEnvC scope (closL c.env.cells scope.names []) C c.env) hx
          refine wpAny_letOwnedTupleGo_listiter hst₂.1 ?_
          refine assign_Tuple_tuple Z.hh (fz_tup (X2.fzo _ _ b1) b2 b3) (by rw [l1, bindAll_len hb, ← b4.size]) l2 fun h₃ hx₃ => ?_
          have k₃ : ∀ b o, h₂.get? b = some o → h₃.get? b = some o := fun b o e => hx₃ b o (Nat.ne_of_lt (Heap.lt_size e)) e
          refine bindC_ok (cenv := compEnvC scope (closL c.env.cells scope.names []) C c.env) (c := c) (fz := fz') (hm := hm') (scope := scope) (by simp [compEnvC, relabel, ok.fn]) (fun s hs => lookup_relabel_local (beq_iff_eq.mp hs)) is es ts _ [] ρ m' h₃ _ hx b4 hb (ns2.at' fun o q => k₃ _ _ q) (fun _ _ q => nomatch q) fun m₄ h₄ tk₄ hn₄ V₄ hk₄ => ?_
          have hk24 : ∀ b o, b ≠ C → h₂.get? b = some o → h₄.get? b = some o := fun b o q e => hk₄ b o q (k₃ b o e)
          have X4 := X2.but hk24 pC2.mt pC2.fz
          have x4 := x2.but hk24 nC
          have oD4 := hk24 _ _ dDC oD2
          have it4 : h₄.IsListIter I ax (j + 1) := let ⟨o, q, r⟩ := hst₂.1; ⟨o, hk24 _ _ dIC q, r⟩
          have pI4 := pI2.at (h' := h₄) (by obtain ⟨o, q, _⟩ := it4; rw [q]; exact fun z => nomatch z)
          have pC4 := pC2.at (ns_live hn₄)
          have pD4 := pD2.at (h' := h₄) (by rw [oD4]; exact fun z => nomatch z)
          have F4 : Fr c.h₀ c.L h₄ m := X.fr F x4
          have N4 : En (inC c scope (closL c.env.cells scope.names []) C ρ) h₄ fz' hm' := (N.ext x4).compR ok hn₄ V₄ pC4.mt
          refine (HE C ρ).then F4 X4 N4 ef fun y vy h₅ tk₅ fz₅ hm₅ σ₅ ey ry F5 X5 N5 x5 => ?_
          have x05 := x4.trans x5
          have oD5 := pD4.obj x5 oD4
          have rl5 := rl.mono x5.sub x5.hmi
          refine append_at oD5 (fun h₆ hs₆ hD₆ => ?_) (by rw [List.size_toArray, ← rl5.length, sizeLine_eq]; lia)
          have hk₆ := sb_keep hs₆
          have pD5 := pD4.ext x5
          have pC5 := pC4.ext x5
          have pI5 := pI4.ext x5
          have X6 := X5.but hk₆ pD5.mt pD5.fz
          have x6 := x05.but hk₆ nD
          have it5 := pI4.iter x5 it4
          have ns5 := pC4.ns x5 hn₄
          have it6 : h₆.IsListIter I ax (j + 1) := let ⟨o, q, r⟩ := it5; ⟨o, hk₆ _ _ dID q, r⟩
          have ns6 : h₆.Ns C _ := ns5.at' fun o q => hk₆ _ _ (Ne.symm dDC) q
          refine ⟨l.length + 1 - (j + 1), by lia, h₆, tk₅, fz₅, hm₅, σ₅, j + 1, acc ++ [y], ys ++ [vy], _, rfl, hlt, rfl, X6, x6, it6, pI5.at ?_, ns6, pC5.at (ns_live ns6), ?_, pD5.at ?_, rl5.append (.cons ry .nil), trivial, ey.2⟩
          · obtain ⟨o, q, _⟩ := it6; rw [q]; exact fun z => nomatch z
          · rw [hD₆]
            show some ({ cls := .type "list", data := .seq (ys.toArray.push vy) (ys.length + 1) } : Obj) = some (lstO (ys ++ [vy]))
            exact congrArg some (LCg.lst_snoc ys vy)
          · rw [hD₆]; exact fun z => nomatch z
    · obtain rfl : j = l.length := Nat.le_antisymm hj (Nat.not_lt.mp hlt)
      rw [List.drop_length] at e'
      refine WL.done _ _ _ (by rw [hsz]; exact ⟨it', hl⟩) fun h₂ tk₂ hk₂ => ?_
      have hk₂' : ∀ b o, b ≠ I → h'.get? b = some o → h₂.get? b = some o := fun b o q e => hk₂ b o (by simpa using q) e
      have ns2 : h₂.Ns C m' := ns'.at' fun o q => hk₂' _ _ (Ne.symm dIC) q
      have oD2 := hk₂' _ _ (Ne.symm dID) oD'
      exact hRR D C h₂ tk₂ fz' hm' σ' acc ys m' e' rl (X'.but hk₂' pI'.mt pI'.fz) (x'.but hk₂' nI) nD oD2 (pD'.at (by rw [oD2]; exact fun z => nomatch z)) nC ns2 (pC'.at (ns_live ns2)) dDC
  obtain ⟨hl, _⟩ := SRC _ _ _ _ X1 x1
  exact codeAny_compStart_list (loop _ rfl) ((Walks.list (A := c.A) Z.hh I ax haxI its (prog := pw) (w := c.w)).self 0 _ _ _ ⟨itI, hl⟩ (loop _ rfl))
theorem SX.compT {elt iter : PySem.Expr} {es : List PySem.Expr} {is : List Nat} {kk : Nat} {tp pos : Pos} {fi : Sg → (T → Sg → Prop) → Prop} {fe : Rho → Sg → (T → Sg → Prop) → Prop}
    (Z : Act c.w mg mb n c.A c.h₀ c.L) (hx : allNm scope is es = true) (ok : CompF c.sc scope) (hs : inMarks iter = true) (HI : SX c fi (eval iter c.env))
    (HE : ∀ C ρ, SX (inC c scope (closL c.env.cells scope.names []) C ρ) (fe ρ) (eval elt (compEnvC scope (closL c.env.cells scope.names []) C c.env))) :
    SX c (fun σ K => fi σ fun v σ => (match v with
      | .lst l => compL (pairP is fe) (fun _ σ K => K true σ) (fun _ => True) l [] σ fun vs σ => K (.lst vs) σ
      | _ => False)) (eval (.ListComp elt [⟨.Tuple es kk tp, iter, [], 0⟩] scope pos) c.env) := by
  intro m h fz hm σ tk Q E K F X N e hQ
  rw [eval_ListComp]
  refine wpAny_comprehension_free (use := none) rfl (fun v => notSet hs c.env v) (closFor scope c.env (free_has N ok)) ok.fn (fun p hp q => by have := (ok.names p hp).2.1; rw [q] at this; exact this) ?_
  refine HI.then F X N e fun t v h1 tk1 fz1 hm1 σ1 e1 r1 F1 X1 N1 x1 => ?_
  cases r1 with
  | @lst l ax o its nn b1 b2 b3 b4 =>
    have hl := fz_lst (X1.fzo _ _ b1) b2 b3
    refine wpAny_pyIter_list hl ?_
    refine comp_coreT (RR := fun acc C r s => compPost (model pw c.w) c.A E none Q acc C r s) Z F1 X1 N1 hx ok HE hl (fun h' fz' hm' σ' X' x' => ⟨fz_lst (X'.fzo _ _ (x'.sub _ _ b1)) b2 b3, b4.mono x'.sub x'.hmi⟩) e1 fun D C h' tk' fz' hm' σ' acc ys m' ka rl X' x' nD oD pD nC nsC pC dDC => ?_
    refine ⟨m', nsC, fun h'' hs'' => ?_⟩
    have hk := sb_keep hs''
    have oD'' := hk _ _ dDC oD
    have X2 := (X'.but hk pC.mt pC.fz).freeze oD'' pD.mt
    have x2 := (x'.but hk nC).freeze (o := lstO ys) nD
    exact (hQ.ext x1) _ _ _ _ _ _ _ ka (.lst (.inr ⟨rfl, rfl⟩) rfl rfl (rl.mono (fun _ _ => .inl) fun _ _ e => e)) X2 x2
  | _ => exact e1.elim
end
theorem bi4_ (P : Params) : nsIn (mK P) mainGlobals (Str.ofString "sorted") = some none := by kernel_rfl
theorem bi4b : bootBuiltins (Str.ofString "sorted") = some (.builtin "sorted") := by kernel_rfl
theorem slice_from (items : Array Value) (k : Nat) : slicePick items (some (Int.ofNat k)) none none = (items.toList.drop k).toArray := by
  rw [show Int.ofNat k = (k : Int) from rfl, slicePick_from' items k]
section
variable {w : World} {A : Around} {E : Value → Shared → Prop} {g : Array GenState} {d : Drawn} {tk : Nat} {os : OsState} {h : Heap}
theorem sorted_nil {D : Addr} {Q : Value → Shared → Prop} (hh : A.handled = none) (hD : h.DictOf (SK w) D []) (hS : (D == sysModules) = false)
    (hQ : ∀ h' tk' a e, (∀ b o, h.get? b = some o → h'.get? b = some o) → h.get? a = none → h'.get? a = some (seqObj "list" #[] e) → Q (.ref a) ⟨h', g, d, tk', os⟩) :
    wpAny (model pw w) A (PySem.call (.builtin "sorted") [.ref D]) Q E ⟨h, g, d, tk, os⟩ := by
  obtain ⟨o, ho, hdo⟩ := Heap.dictOf_iff.mp hD
  obtain ⟨ep, ha⟩ := KdkAt.of hdo
  have hat : h.DictAt (SK w) D [] ep := ha.dictAt ho
  refine call_function_entry kind_sorted plain_sorted entry_sorted (args_sorted1 _) ?_
  unfold Builtin.«sorted»
  refine wpAny_bind (m := checkCount "sorted" 1 1 _) (wpAny_pure ?_)
  refine wpAny_bind (kdu_collect (A := A.in1) (kdl_dict (knd := SK w) (kvs := []) (ep := ep) hS) hh hat (by show (0 : Nat) ≤ sizeLine; exact Nat.zero_le _) fun h' tk1 acc hk hacc => ?_)
  have hac : acc.toList = [] := List.length_eq_zero_iff.mp (by rw [Array.length_toList]; exact hacc.1)
  rw [hac]
  refine wpAny_bind (wpAny_newList ?_ (by show (0 : Nat) ≤ sizeLine; exact Nat.zero_le _))
  have hL : (h'.push { cls := .type "list", data := .seq ([] : List Value).toArray }).get? h'.objs.size = some (seqObj "list" ([] : List Value).toArray 0) := Heap.get?_push_size _ rfl
  refine wpAny_bind (wpAny_holding (wpAny_call_entry PySem.F.slot_list_sort ⟨_, hL, rfl⟩ PyProof.Rows.entry_list_sort (list_sort_tree (ns := []) hL .nil (by decide) fun out ns' i1 i2 _ => ⟨.none, rfl, ?_⟩) (args_list_sort _)))
  have : ns' = [] := List.Perm.eq_nil i2
  subst this
  have ho' : out = #[] := by
    have := i1.length
    have h0 : out.toList.length = 0 := by rw [this]; rfl
    have := List.length_eq_zero_iff.mp h0
    apply Array.toList_inj.mp
    rw [this]
  subst ho'
  obtain ⟨e, he⟩ := sortedHeap_at (vs := []) (out := #[]) hL
  refine wpAny_pure ⟨_, rfl, hQ _ _ _ e (fun b o eb => ?_) ?_ he⟩
  · have e1 := hk b o eb
    have lt := Heap.lt_size e1
    rw [sortedHeap_old (Nat.ne_of_lt lt) (by rw [Heap.size_push]; exact Nat.lt_succ_of_lt lt)]
    exact Heap.get?_push_of_some _ e1
  · cases q : h.get? h'.objs.size with
    | none => rfl
    | some z => exact absurd (Heap.lt_size (hk _ _ q)) (Nat.lt_irrefl _)
end
section
theorem lt_of_get' {α : Type} {l : List α} {i : Nat} {a : α} (e : l[i]? = some a) : i < l.length := (List.getElem?_eq_some_iff.mp e).1
theorem RepL.dropLast {w : World} {fz : Fz} {hm : Hm} {l : List T} {vs : List Value} (h : RepL w fz hm l vs) : RepL w fz hm l.dropLast vs.dropLast := by
  induction l generalizing vs with
  | nil => cases h; exact .nil
  | cons t l ih =>
    cases h with
    | cons x r =>
      cases l with
      | nil => cases r; exact .nil
      | cons u l =>
        cases r with
        | cons y r => exact .cons x (ih (.cons y r))
variable {c : Fx} {n : Nat} {mg mb : Str → Option Value} {f f' : Sg → (T → Sg → Prop) → Prop} {p p1 apos : Pos} {o j e : PySem.Expr}
theorem SX.tail (x : SX c f (eval o c.env)) (y : SX c f' (eval j c.env)) :
    SX c (fun σ K => f σ fun v σ => f' σ fun j σ => (match v, j with
      | .lst l, .int (.ofNat k) => (l.length < 1000000 ∧ k < 1000000) ∧ K (.lst (l.drop k)) σ
      | _, _ => False)) (eval (.Subscript o (.Slice (some j) none none p1) p) c.env) := by
  intro m h fz hm σ tk Q E K F X N e hQ
  refine Subscript_ (x.then F X N e fun t v h1 tk1 fz1 hm1 σ1 a1 r1 F1 X1 N1 x1 => ?_)
  refine wpAny_Slice ?_
  refine y.then F1 X1 N1 a1 fun t2 v2 h2 tk2 fz2 hm2 σ2 a2 r2 F2 X2 N2 x2 => ?_
  refine wpAny_pure (wpAny_pure ?_)
  have r1' := x2.rep r1
  cases t with
  | lst l => cases t2 with
    | int i => cases i with
      | ofNat k =>
        refine r1'.lst_e fun ax _ ws _ b1 b2 b3 b4 => r2.int_e fun u => ?_
        obtain ⟨⟨hl, hk⟩, kk⟩ := a2
        have X3 := X2.keeps (keeps_push h2 { cls := .type "slice", data := .fields #[.int (Int.ofNat k) u, .none, .none] })
        have x3 := (x1.trans x2).trans (Ext.keeps fz2 hm2 (keeps_push h2 { cls := .type "slice", data := .fields #[.int (Int.ofNat k) u, .none, .none] }))
        refine tail_any (T := "list") ⟨_, X3.fzo _ _ b1, b2⟩ list_getitem_lookup (wpAny_getItem_list_slice (lo := some (Int.ofNat k)) (hi := none) (st := none) (fz_lst (X3.fzo _ _ b1) b2 b3) (Heap.IsSliceOf.new ..) (.int _ _) .none .none (by decide) ?_ ?_) (ops := [.ref _, .ref _]) rfl
        · refine (hQ.ext x3).push X3 rfl kk fun fz'' hf e => .lst e rfl rfl ?_
          rw [slice_from]
          exact (b4.drop k).mono hf fun _ _ e => e
        · have := b4.size
          rw [sizeLine_eq]; omega
      | negSucc _ => exact a2.elim
    | _ => exact a2.elim
  | _ => exact a2.elim
theorem SX.popC {s : Str} (hs : s = Str.ofString "pop") (hl : (apos.endLine == p.line) = true) (hb : plainBase o = true) (x : SX c f (eval o c.env)) :
    SX c (fun σ K => f σ fun v σ => (match v with
      | .own i => (match σ[i]? with
        | some (.lst l) => (match l.getLast? with
          | some x => l.length < 1000000 ∧ K x (σ.set i (.lst l.dropLast))
          | none => False)
        | _ => False)
      | _ => False)) (eval (.Call (.Attribute o s apos) [] [] p) c.env) := by
  intro m h fz hm σ tk Q E K F X N e hQ
  subst hs
  refine meth_call hl hb (by show 0 < 30; decide) (noStar c.env p (f := fun _ _ => true) (l := []) (es := []) rfl).2 (x.then F X N e fun t v h1 tk1 fz1 hm1 σ1 a1 r1 F1 X1 N1 x1 pl => ?_)
  cases t with
  | own i =>
    refine r1.own_e fun qq hi => ?_
    · refine cL_m (c := σ1[i]?) (K := fun l => match l.getLast? with
          | some x => l.length < 1000000 ∧ K x (σ1.set i (.lst l.dropLast))
          | none => False) a1 fun l hcell a1 => some_m a1 fun y hy a1 => ?_
      · obtain ⟨o', ho, hpp, hcl, vs, nn, hd, hr, hnd, hsl⟩ := X1.cell _ _ _ hcell hi
        rw [hpp]
        have hex : o' = { cls := .type "list", dict := none, data := .seq vs nn, slots := #[] } := by
          obtain ⟨_, _, _, _⟩ := o'
          cases hcl; cases hd; cases hnd; cases hsl; rfl
        subst hex
        refine getMethod_builtin ⟨_, ho, rfl⟩ PySem.F.plainAttrs_list PySem.F.slot_list_pop PySem.F.type_list_pop (fun a e => by cases e; exact ⟨_, ho, rfl⟩) ?_
        refine callW (first := [_]) (noStar c.env p (f := fun _ _ => true) (l := []) (es := []) rfl).1 (spliced_none ⟨⟨.machine, .inr (.inl rfl), Looks.of_pure rfl⟩, ?_⟩)
        have hsz := hr.size
        have hne : l ≠ [] := fun q => by rw [q] at hy; cases hy
        have hlast : l[l.length - 1]? = some y := by rw [← List.getLast?_eq_getElem?]; exact hy
        obtain ⟨yv, hyv, ry⟩ := hr.get hlast
        have hyv' : vs[vs.size - 1]? = some yv := by rw [hsz]; simpa using hyv
        refine call_meets PySem.F.slot_list_pop ⟨_, ho, rfl⟩ PySem.F.entry_list_pop (PySem.F.args_list_pop_1 _) (PySem.MeetsSeq.list_pop_last _ vs nn yv hyv' (by rw [hsz, sizeLine_eq]; have := a1.1; omega)) ⟨ho, ?_⟩
        have hu := PySem.IsL.update (n := nn) ho fun xs => xs.eraseIdxIfInBounds (vs.size - 1)
        have X2 := X1.setCell (lt_of_get' hcell) hi (Heap.SameBut.update ..) hu (c := .lst l.dropLast) ⟨hpp, rfl, _, _, rfl, ?_, rfl, rfl⟩
        · exact (hQ.ext x1) _ _ _ _ _ _ _ a1.2 ry X2 (Ext.setCell fz1 hi (Heap.SameBut.update ..) (by rw [hu]; exact fun z => nomatch z))
        · have : (vs.eraseIdxIfInBounds (vs.size - 1)).toList = vs.toList.dropLast := by
            have hpos : vs.size - 1 < vs.size := by
              rw [hsz]
              have : 0 < l.length := List.length_pos_iff.mpr hne
              omega
            unfold Array.eraseIdxIfInBounds
            rw [dif_pos hpos, Array.toList_eraseIdx, ← Array.length_toList, List.eraseIdx_length_sub_one]
          rw [this]
          exact hr.dropLast
  | _ => exact a1.elim
theorem SX.sortC {fn : Str} (Z : Act c.w mg mb n c.A c.h₀ c.L) (hf : fn = ("sorted" : Str)) (hkf : kindIs c.sc fn .globalImplicit = true) (he : isStar e = false) (x : SX c f (eval e c.env)) :
    SX c (fun σ K => f σ fun v σ => (match v with
      | .own i => (match σ[i]? with
        | some (.dct []) => K (.lst []) σ
        | _ => False)
      | _ => False)) (eval (.Call (.Name fn p1) [e] [] p) c.env) := by
  intro m h fz hm σ tk Q E K F X N ee hQ
  subst hf
  have hst := noStar c.env p (f := fun _ _ => true) (l := [.bad]) (es := [e]) (by show (!(isStar e) && (true && true)) = true; rw [he]; rfl)
  refine Call_ (Name_function_global (by rw [N.hsc]; exact N.kind) (kind_of hkf N rfl) (loadGlobal_builtin (by rw [N.glob]; exact Z.T.g.keeps F.keep) (mg_none_of (Z.X.keeps F.keep) (Z.T.g.keeps F.keep) (bi4_ c.w.params)) (by rw [N.blt]; exact Z.T.b.keeps F.keep) ((Z.T.builtins _ (by decide)).trans bi4b) ?_) (by decide)) rfl
  refine callW (first := []) hst.1 (args_cons (x.then F X N ee fun t v h1 tk1 fz1 hm1 σ1 a1 r1 F1 X1 N1 x1 => ?_) (starEach_cons he))
  refine spliced_none ⟨⟨.machine, .inr (.inl rfl), Looks.of_pure rfl⟩, ?_⟩
  cases t with
  | own i =>
    refine r1.own_e fun qq hi => ?_
    · obtain ⟨hcell, a1⟩ : σ1[i]? = some (.dct []) ∧ K (.lst []) σ1 := by
        refine cD_m (c := σ1[i]?) (K := fun es => match es with | [] => K (.lst []) σ1 | _ => False) ?_ fun es hc a1 => ?_
        · dsimp only at a1
          cases hc : σ1[i]? with
          | none => rw [hc] at a1; exact a1
          | some cc => rw [hc] at a1; cases cc with
            | dct es => cases es with
              | nil => exact a1
              | cons => exact a1
            | _ => exact a1
        · cases es with
          | nil => exact ⟨hc, a1⟩
          | cons => exact a1.elim
      obtain ⟨o', ho, hpp, h0, kvs, hd, hr⟩ := X1.cell _ _ _ hcell hi
      cases hr
      rw [hpp]
      refine sorted_nil Z.hh (Heap.dictOf_iff.mpr ⟨_, ho, hd⟩) (by rw [hpp] at h0; exact h0) fun h2 tk2 a ee hk hn ha => ?_
      have X2 := (X1.keeps hk).freeze ha (X1.fresh_mt hn)
      exact (hQ.ext x1) _ _ _ _ _ _ _ a1 (.lst (.inr ⟨rfl, rfl⟩) rfl rfl .nil) X2 ((Ext.keeps fz1 hm1 hk).freeze hn)
  | _ => exact a1.elim
end
theorem pick_cons {α : Type} {κ cl : List (Nat × α)} {j : Nat} {r : List Nat} (h : pick κ (j :: r) = some cl) : ∃ v s, lk κ j = some v ∧ pick κ r = some s ∧ cl = (j, v) :: s := by
  have h' : (match lk κ j, pick κ r with | some v, some s => some ((j, v) :: s) | _, _ => none) = some cl := h
  cases q : lk κ j with
  | none => rw [q] at h'; exact nS h'
  | some v => cases q' : pick κ r with
    | none => rw [q, q'] at h'; exact nS h'
    | some s => rw [q, q'] at h'; exact ⟨v, s, rfl, rfl, (Option.some.inj h').symm⟩
theorem pick_lk {α : Type} {κ : List (Nat × α)} {fr : List Nat} {cl : List (Nat × α)} (h : pick κ fr = some cl) : ∀ i ∈ fr, ∃ v, lk κ i = some v ∧ lk cl i = some v := by
  induction fr generalizing cl with
  | nil => exact fun i hi => nomatch hi
  | cons j r ih =>
    intro i hi
    obtain ⟨v, s, hv, hs, rfl⟩ := pick_cons h
    show ∃ u, lk κ i = some u ∧ (match Nat.beq j i with | true => some v | false => lk s i) = some u
    cases q : Nat.beq j i with
    | true => rw [← Nat.eq_of_beq_eq_true q]; exact ⟨v, hv, rfl⟩
    | false =>
      rcases List.mem_cons.mp hi with rfl | hi
      · rw [Nat.beq_refl] at q; cases q
      · exact ih hs i hi
theorem pick_congr {α : Type} {a b : List (Nat × α)} : ∀ {fr : List Nat}, (∀ i ∈ fr, lk a i = lk b i) → pick a fr = pick b fr
  | [], _ => rfl
  | j :: r, h => by
    show (match lk a j, pick a r with | some v, some s => some ((j, v) :: s) | _, _ => none) = (match lk b j, pick b r with | some v, some s => some ((j, v) :: s) | _, _ => none)
    rw [h j (.head _), pick_congr fun i hi => h i (.tail _ hi)]
theorem pick_self {α : Type} {κ cl : List (Nat × α)} {fr : List Nat} (h : pick κ fr = some cl) : pick cl fr = some cl := by
  rw [← h]
  exact pick_congr fun i hi => let ⟨v, a, b⟩ := pick_lk h i hi; b.trans a.symm
structure LamF (q : Str) (k : Nat) (l : LamI) (a : Arguments) (s : Scope) (p : Pos) : Prop where
  k3 : k < 3
  line : p.line = (laAt k).1
  col : p.col = (laAt k).2
  qual : q ++ ("<lambda>" : Str) = laQ k
  par : parOk l.ps 0 a s [] = true
  names : ∀ x ∈ s.names, x.2 = .local ∨ x.2 = .globalImplicit ∨ (x.2 = .free ∧ ∃ i ∈ l.fr, sN i = x.1)
  free : ∀ i ∈ l.fr, i < nsz ∧ kindIs s (sN i) .free = true
theorem lam_of {q : Str} {k : Nat} {l : LamI} {a : Arguments} {s : Scope} {p : Pos} (e : lamOk q k l a s p = true) : LamF q k l a s p := by
  unfold lamOk at e
  simp only [Bool.and_eq_true, beq_iff_eq, List.all_eq_true, Bool.or_eq_true, Nat.blt_eq, List.any_eq_true] at e
  obtain ⟨e1, e2, e3, e4, e5, e6, e7⟩ := e
  refine ⟨e1, e2, e3, e4, e5, fun x hx => ?_, e7⟩
  rcases e6 x hx with (z | z) | ⟨z, i, hi, hz⟩
  · exact .inl z
  · exact .inr (.inl z)
  · exact .inr (.inr ⟨z, i, hi, hz⟩)
structure ParF (ps : List Nat) (nd : Nat) (a : Arguments) (sc : Scope) (cs : List Nat) : Prop where
  pos : a.posonlyargs = []
  va : a.vararg = none
  kwo : a.kwonlyargs = []
  kwd : a.kw_defaults = []
  kwa : a.kwarg = none
  nd : a.defaults.length = nd
  names : a.args.map (·.arg) = ps.map sN
  kinds : ∀ i ∈ ps, i < nsz ∧ kindIs sc (sN i) (if isIn cs i then .cell else .local) = true
  nodup : ps.Nodup
  fn : sc.kind = .function
  co : sc.isCoroutine = false
  ge : sc.isGenerator = false
theorem par_of {ps : List Nat} {nd : Nat} {a : Arguments} {sc : Scope} {cs : List Nat} (e : parOk ps nd a sc cs = true) : ParF ps nd a sc cs := by
  unfold parOk at e
  simp only [Bool.and_eq_true, beq_iff_eq, List.all_eq_true, Nat.blt_eq, List.isEmpty_iff, Option.isNone_iff_eq_none, decide_eq_true_eq, Bool.not_eq_true'] at e
  obtain ⟨e1, e2, e3, e4, e5, e6, e7, e8, e9, e10, e11, e12⟩ := e
  exact ⟨e1, e2, e3, e4, e5, e6, e7, e8, e9, e10, e11, e12⟩
section
variable {c : Fx} {h h' : Heap} {fz fz' : Fz} {hm hm' : Hm} {σ : Sg} {n : Nat} {mg mb : Str → Option Value} {m : Str → Option Value}
theorem W.setTab {w : World} {h₀ : Heap} {L P c' : Addr} {oc : Obj} {k : Nat} {ps : Array Value} (X : W w h₀ L h fz hm σ) (hk : ∀ b o, b ≠ P → h.get? b = some o → h'.get? b = some o) (hP : tA[k]? = some P) (hc : h.get? c' = none) (hoc : h'.get? c' = some oc) (hn : h'.get? P = some (tabObj ps))
    (ht : TabO (addF fz c' oc) k (tabObj ps)) : W w h₀ L h' (addF fz c' oc) hm σ := by
  have mP : Mt hm P := .inr (List.mem_of_getElem? hP)
  refine ⟨X.len, fun b p e => ?_, fun b p e => ?_, X.nd, fun i c p e1 e2 => ?_, X.mt, fun j b e => ?_⟩
  · rcases e with e | ⟨rfl, rfl⟩
    · exact hk _ _ (fun q => X.fzm _ _ e (q ▸ mP)) (X.fzo _ _ e)
    · exact hoc
  · rcases e with e | ⟨rfl, rfl⟩
    · exact X.fzm _ _ e
    · exact X.fresh_mt hc
  · obtain ⟨o, g, r⟩ := X.cell i c p e1 e2
    exact ⟨o, hk _ _ (X.cell_tab e2 hP) g, r.mono (fun _ _ => .inl) fun _ _ e => e⟩
  · by_cases q : j = k
    · subst q
      rw [hP] at e; cases e
      exact ⟨_, hn, ht⟩
    · obtain ⟨o, g, r⟩ := X.tab j b e
      refine ⟨o, hk _ _ (fun z => q ?_) g, r.mono fun _ _ => .inl⟩
      have nd := (List.nodup_append.mp X.nd).2.1
      obtain ⟨lj, ej⟩ := List.getElem?_eq_some_iff.mp e
      obtain ⟨lk', ek⟩ := List.getElem?_eq_some_iff.mp hP
      exact (List.getElem_inj (i := j) (j := k) (h₀ := lj) (h₁ := lk') nd).mp (by rw [ej, ek]; exact z)
theorem Ext.setTab {P c' : Addr} {oc : Obj} {k : Nat} (hk : ∀ b o, b ≠ P → h.get? b = some o → h'.get? b = some o) (hP : tA[k]? = some P) (hc : h.get? c' = none) (hn : h'.get? P ≠ none) : Ext h fz hm h' (addF fz c' oc) hm :=
  ⟨fun b o e q => hk _ _ (fun z => q (z ▸ .inr (List.mem_of_getElem? hP))) e, fun _ _ e => .inl e, fun b o e => e.elim .inl fun z => .inr (by rw [z.1]; exact hc), ⟨[], by simp, fun _ e => nomatch e⟩, fun b e => by
    by_cases q : b = P
    · rw [q] at e; exact absurd e hn
    · cases z : h.get? b with
      | none => rfl
      | some o => rw [hk _ _ q z] at e; cases e⟩
theorem clos_rep (N : En c h fz hm) {s : Scope} (hs : ∀ n k, (n, k) ∈ s.names → (k == NameKind.free) = true → (c.env.cells.lookup n).isSome = true) : ∀ {fr : List Nat} {cl : List (Nat × T)}, (∀ i ∈ fr, i < nsz ∧ kindIs s (sN i) .free = true) → (∀ i ∈ fr, kindIs c.sc (sN i) .cell = true) → pick c.κ fr = some cl →
    RepC c.w fz hm cl (closL c.env.cells s.names [])
  | [], cl, _, _, h => by cases h; exact .nil
  | j :: r, cl, hf, hc, h => by
    obtain ⟨v, s', hv, hs', rfl⟩ := pick_cons h
    obtain ⟨a, o, x, p, q, d, t⟩ := N.cells j v hv (by rw [hc j (.head _)]; rfl)
    have hfr := closL_has (cells := c.env.cells) (acc := []) (s := sN j) (.inl (lookup_mem (beq_iff_eq.mp (hf j (.head _)).2)))
    obtain ⟨b, hb⟩ := Option.isSome_iff_exists.mp hfr
    have := closL_sound hs (fun _ _ e => by cases e) _ _ hb
    rw [p] at this; cases this
    exact .cons hb q d t (clos_rep N hs (fun i hi => hf i (.tail _ hi)) (fun i hi => hc i (.tail _ hi)) hs')
theorem SX.lam {k : Nat} {l : LamI} {a : Arguments} {b : PySem.Expr} {s : Scope} {p : Pos} {nn : Nat} (Z : Act c.w mg mb n c.A c.h₀ c.L) (hl : lms[k]? = some l) (hok : lamOk c.q k l a s p = true) (hcell : (l.fr.all fun i => kindIs c.sc (sN i) .cell) = true) (hb : chkX nn s (laQ k ++ (".<locals>." : Str)) l.body b = true) :
    SX c (fun σ K => (match pick c.κ l.fr with
      | some cl => K (.lam k cl) σ
      | none => False)) (eval (.Lambda a b s p) c.env) := by
  intro m h fz hm σ tk Q E K F X N e hQ
  have lf := lam_of hok
  have pf := par_of lf.par
  have hcell' : ∀ i ∈ l.fr, kindIs c.sc (sN i) .cell = true := List.all_eq_true.mp hcell
  cases hpick : pick c.κ l.fr with
  | none => rw [hpick] at e; exact e.elim
  | some cl =>
  rw [hpick] at e
  have hs : ∀ n k, (n, k) ∈ s.names → (k == NameKind.free) = true → (c.env.cells.lookup n).isSome = true := fun n k hm hk => by
    rcases lf.names _ hm with z | z | ⟨_, i, hi, z⟩
    · have z : k = .local := z
      rw [z] at hk; exact absurd hk (by decide)
    · have z : k = .globalImplicit := z
      rw [z] at hk; exact absurd hk (by decide)
    · have z : sN i = n := z
      obtain ⟨a, ha⟩ := N.has _ (hcell' i hi)
      rw [← z, ha]; rfl
  obtain ⟨cd, P, hcd, hP, HC⟩ := N.code k lf.k3 lf.qual
  obtain ⟨oP, hoP, psv, rfl, hps⟩ := X.tab k P hP
  have hgs : h.Ns mainGlobals mg := Z.T.g.keeps F.keep
  obtain ⟨bm, ob, b1, b2, b3, b4, b5, b6⟩ := Z.T.bmain
  have hb3 := F.keep _ _ b3
  have hgP : mainGlobals ≠ P := fun q => by
    obtain ⟨o, es, ep, e, hd, _⟩ := hgs
    rw [q, hoP] at e; cases e; cases hd
  have hbP : bm ≠ P := fun q => by
    rw [q, hoP] at hb3; cases hb3; cases b4
  have hbG : bm ≠ mainGlobals := fun q => by
    obtain ⟨o, es, ep, e, hd, _⟩ := hgs
    rw [q, e] at hb3; cases hb3; rw [hd] at b6; cases b6
  have hbat : h.BuiltinsAt mg P := ⟨bm, ob, b1, b2, hbG, hbP, hb3, b4, b5, b6⟩
  have hq : c.env.qual ++ ("<lambda>" : Str) = laQ k := by rw [N.qual]; exact lf.qual
  have rc := clos_rep N hs lf.free hcell' hpick
  refine kla_eval ?_ ?_
  · rw [defaultsOf_eq, pf.kwd, List.length_eq_zero_iff.mp pf.nd]; rfl
  rw [hq]
  rcases hps with rfl | ⟨c', oc, vs, t, rfl, hfc, hod, hov⟩
  · refine kla_makeFunction (mg := mg) (closFor s c.env hs) N.glob hgs hcd (HC.keeps F.keep) hoP trivial rfl hgP hbat fun c' ctv h' tk' hx hge hlt hrec htb => ?_
    obtain ⟨c₂, oc, vs, t, e2, hoc, hod, hov⟩ := hrec
    cases e2
    have hnone : h.get? c' = none := by
      cases q : h.get? c' with
      | none => rfl
      | some o => exact absurd (Heap.lt_size q) (Nat.not_lt.mpr hge)
    have htb' : h'.get? P = some (tabObj #[rawInt (laAt k).1, rawInt (laAt k).2, .ref c']) := by
      rw [htb, lf.line, lf.col]; rfl
    have X1 := X.setTab hx hP hnone hoc htb' ⟨_, rfl, .inr ⟨c', oc, vs, t, rfl, .inr ⟨rfl, rfl⟩, hod, hov⟩⟩
    have x1 : Ext h fz hm h' (addF fz c' oc) hm := Ext.setTab hx hP hnone (by rw [htb]; exact fun z => nomatch z)
    refine (hQ.ext x1).push X1 rfl e fun fz' hf hnew => ?_
    exact .lam hl hok ⟨nn, hb⟩ hnew (hf _ _ (.inr ⟨rfl, rfl⟩)) hod hov (rc.mono (fun a o q => hf _ _ (.inl q)) fun _ _ q => q) (pick_self hpick)
  · refine kla_makeFunctionHit (mg := mg) (cv := .ref c') (closFor s c.env hs) N.glob hgs hcd (HC.keeps F.keep) hoP (by exact trivial) (by show codeAmong p [rawInt (laAt k).1, rawInt (laAt k).2, .ref c'] = _; simp only [codeAmong, rawInt, lf.line, lf.col, beq_self_eq_true, Bool.and_self, if_true]) hbat fun ctv h' tk' hk hsz => ?_
    have X1 := X.keeps hk
    have x1 : Ext h fz hm h' fz hm := Ext.keeps fz hm hk
    refine (hQ.ext x1).push X1 rfl e fun fz' hf hnew => ?_
    exact .lam hl hok ⟨nn, hb⟩ hnew (hf _ _ hfc) hod hov (rc.mono (fun a o q => hf _ _ q) fun _ _ q => q) (pick_self hpick)
end
noncomputable def BothOk (c : Fx) (f : Sg → (T → Sg → Prop) → Prop) (e : PySem.Expr) : Prop := SX c f (eval e c.env) ∧ SB c f (isTrue e c.env (eval e c.env))
theorem both {c : Fx} {f : Sg → (T → Sg → Prop) → Prop} {e : PySem.Expr} (x : SX c f (eval e c.env)) (he : isTrue e c.env (eval e c.env) = (do let v ← eval e c.env; standAt e.pos; holding [v] (truthy v))) : BothOk c f e := ⟨x, SB.plain x he⟩
theorem both_no {c : Fx} {f : Sg → (T → Sg → Prop) → Prop} {e : PySem.Expr} (h : ∀ σ K, f σ K → False) : BothOk c f e :=
  ⟨fun _ _ _ _ _ _ _ _ _ _ _ _ e _ => (h _ _ e).elim, fun _ _ _ _ _ _ _ _ _ _ _ _ e _ => (h _ _ e).elim⟩
theorem ev_dct1 {cp : CP} {κ : List (Nat × T)} {k : Nat} {x y : X} {ρ : Rho} : (fun σ K => ev tab cp κ (k + 1) (.dct [(x, y)]) ρ σ K) = fun σ K => ev tab cp κ k x ρ σ (dctP (fun σ K => ev tab cp κ k y ρ σ K) K) := by
  funext σ K
  show ev tab cp κ k x ρ σ _ = ev tab cp κ k x ρ σ _
  congr 1
  funext t σ
  unfold dctP
  cases t <;> rfl
theorem ev_lam_at {cp : CP} {κ : List (Nat × T)} {k kk : Nat} {l : LamI} {ρ : Rho} (hl : lms[kk]? = some l) : (fun σ K => ev tab cp κ (k + 1) (.lam kk) ρ σ K) = fun σ K => (match pick κ l.fr with
            | some cl => K (.lam kk cl) σ
            | none => False) := by
  funext σ K
  show (match lms[kk]? with
    | some l => (match pick κ l.fr with
      | some cl => K (.lam kk cl) σ
      | none => False)
    | none => False) = _
  rw [hl]
theorem ev_ok {w : World} {mg mb : Str → Option Value} {n : Nat} {cp : CP} (hcp : CpOk w mg mb n cp) : ∀ (k' k : Nat) (c : Fx) (x : X) (e : PySem.Expr), c.w = w → Act c.w mg mb n c.A c.h₀ c.L → chkX k' c.sc c.q x e = true → BothOk c (fun σ K => ev tab cp c.κ k x c.ρ σ K) e := by
  intro k'
  induction k' with
  | zero => intro k c x e _ _ hc; cases hc
  | succ k' ih =>
    intro k c x e hw Z hc
    subst hw
    cases k with
    | zero => exact both_no fun _ _ h => h
    | succ k =>
      have IH : ∀ (c' : Fx) (x : X) (e : PySem.Expr), c'.w = c.w → Act c'.w mg mb n c'.A c'.h₀ c'.L → chkX k' c'.sc c'.q x e = true → BothOk c' (fun σ K => ev tab cp c'.κ k x c'.ρ σ K) e := fun c' x e => ih k c' x e
      have IHx : ∀ x e, chkX k' c.sc c.q x e = true → SX c (fun σ K => ev tab cp c.κ k x c.ρ σ K) (eval e c.env) := fun x e h => (IH c x e rfl Z h).1
      have IHb : ∀ x e, chkX k' c.sc c.q x e = true → SB c (fun σ K => ev tab cp c.κ k x c.ρ σ K) (isTrue e c.env (eval e c.env)) := fun x e h => (IH c x e rfl Z h).2
      cases x with
      | bad => exact both_no fun _ _ h => h
      | loc i => exact onName_e (z := e) hc fun _ _ hc => both (SX.loc (a1 hc) (a2 hc)) rfl
      | cel i => exact onName_e (z := e) hc fun _ _ hc => both (SX.cel (a1 hc) (a2 hc)) rfl
      | con t =>
        exact (Bool.or_eq_true_iff.mp hc).elim (fun hc => onName_e (z := e) hc fun _ _ hc => both (SX.glob Z (a1 hc) (not_t (a1 (a2 hc))) (a2 (a2 hc))) rfl)
          fun hc => onConst_e (z := e) hc fun _ _ _ hc => both (SX.const hc) rfl
      | attr v a => exact onAttr_e (z := e) hc fun _ _ _ hc => both (SX.attr Z (a1 hc) (a1 (a2 hc)) (IHx _ _ (a2 (a2 hc)))) rfl
      | idx v i => exact onSub_e (z := e) hc fun _ _ _ hc => both (SX.idx (a1 hc) (IHx _ _ (a1 (a2 hc))) (IHx _ _ (a2 (a2 hc)))) rfl
      | rev v => exact onSub_e (z := e) hc fun _ _ _ hc => isRev_e (a1 hc) fun _ _ _ _ => both (SX.rev (IHx _ _ (a2 hc))) rfl
      | bin op a b => exact onBin_e (z := e) hc fun _ _ _ _ hc => beq_e (a1 hc) (both (SX.bin (IHx _ _ (a1 (a2 hc))) (IHx _ _ (a2 (a2 hc)))) rfl)
      | cmp op a b =>
        refine onCmp_e (z := e) hc fun l _ _ p hc => on1_e hc fun _ hc => on1_e hc fun r hc => beq_e (a1 hc) ?_
        exact ⟨SX.cmp Z (a1 (a2 hc)) (IHx _ _ (a1 (a2 (a2 hc)))) (IHx _ _ (a2 (a2 (a2 hc)))), SB.cmp Z (a1 (a2 hc)) (IHx _ _ (a1 (a2 (a2 hc)))) (IHx _ _ (a2 (a2 (a2 hc))))⟩
      | and a b =>
        refine onBoo_e (z := e) hc fun _ _ _ hc => beq_e' (a1 hc) (on2_e (a2 hc) fun _ _ hc => ?_)
        exact ⟨SX.and (IHx _ _ (a1 hc)) (IHx _ _ (a2 hc)), SB.and (IHb _ _ (a1 hc)) (IHb _ _ (a2 hc))⟩
      | or a b =>
        refine onBoo_e (z := e) hc fun _ _ _ hc => beq_e' (a1 hc) (on2_e (a2 hc) fun _ _ hc => ?_)
        exact ⟨SX.or (IHx _ _ (a1 hc)) (IHx _ _ (a2 hc)), SB.or (IHb _ _ (a1 hc)) (IHb _ _ (a2 hc))⟩
      | not a => exact onUn_e (z := e) hc fun _ _ _ hc => beq_e' (a1 hc) ⟨SX.not (IHx _ _ (a2 hc)), SB.not (IHb _ _ (a2 hc))⟩
      | ite cx a b =>
        refine onIfe_e (z := e) hc fun _ _ _ _ hc => ?_
        exact ⟨SX.ite (IHb _ _ (a1 hc)) (IHx _ _ (a1 (a2 hc))) (IHx _ _ (a2 (a2 hc))), SB.ite (IHb _ _ (a1 hc)) (IHb _ _ (a1 (a2 hc))) (IHb _ _ (a2 (a2 hc)))⟩
      | tup l => exact onTup_e (z := e) hc fun _ _ _ hc => both (SX.tup IHx (a1 hc) (a2 hc)) rfl
      | lst l => exact onLst_e (z := e) hc fun _ _ hc => both (SX.lst IHx (a1 hc) (a2 hc)) rfl
      | cellL l => exact onLst_e (z := e) hc fun _ _ hc => both (SX.cellL IHx (a1 hc) (a2 hc)) rfl
      | dct l =>
        refine onDic_e (z := e) hc fun ks vs p hc => ?_
        cases l with
        | nil => exact nil_e (a1 hc) (nil_e (a2 hc) (both (SX.dct0 Z) rfl))
        | cons xy r =>
          obtain ⟨x, y⟩ := xy
          have h1 := a1 hc
          have h2 := a2 hc
          clear hc
          cases nil_t h1
          refine on1_e h2 fun _ hc => onS_e hc fun _ hc => on1_e hc fun _ hc => both ?_ rfl
          rw [ev_dct1]
          exact SX.dct1 Z (IHx _ _ (a1 hc)) (IHx _ _ (a2 hc))
      | cellD => exact onDic_e (z := e) hc fun ks vs p hc => nil_e (a1 hc) (nil_e (a2 hc) (both (SX.cellD Z) rfl))
      | call f l =>
        exact onCall_e (z := e) hc fun _ _ _ _ hc => nil_e (a1 hc) (both (SX.call Z hcp (not_t (a1 (a2 hc))) (IHx _ _ (a1 (a2 (a2 hc)))) IHx (a2 (a2 (a2 hc)))) rfl)
      | meth v a l =>
        exact onCall_e (z := e) hc fun _ _ _ _ hc => nil_e (a1 hc) (onAttr_e (a2 hc) fun _ _ _ hc => both (SX.meth Z hcp (a1 hc) (a1 (a2 hc)) (a1 (a2 (a2 hc))) (a1 (a2 (a2 (a2 hc)))) (IHx _ _ (a1 (a2 (a2 (a2 (a2 hc)))))) IHx (a2 (a2 (a2 (a2 (a2 hc)))))) rfl)
      | comp elt i it ifs =>
        refine onLc_e (z := e) hc fun e _ scope p hc => on1_e hc fun g hc => ?_
        obtain ⟨tg, src, cs, ia⟩ := g
        refine beq_e' (x := ia) (a1 hc) (onName_e (z := tg) (a2 hc) fun s sp hc => both ?_ rfl)
        have h1 := a1 hc
        have h2 := a1 (a2 hc)
        have h4 := a1 (a2 (a2 (a2 hc)))
        have h5 := a1 (a2 (a2 (a2 (a2 hc))))
        have h6 := a1 (a2 (a2 (a2 (a2 (a2 hc)))))
        have h7 := a2 (a2 (a2 (a2 (a2 (a2 hc)))))
        have h8 := a2 h7
        clear hc
        have HE : ∀ C t, SX (inC c scope (closL c.env.cells scope.names []) C [(i, .t t)]) (fun σ K => ev tab cp c.κ k elt [(i, .t t)] σ K) (eval e (compEnvC scope (closL c.env.cells scope.names []) C c.env)) :=
          fun C t => (IH (inC c scope (closL c.env.cells scope.names []) C [(i, .t t)]) elt e rfl Z (a1 h7)).1
        cases ifs with
        | nil => cases cs with
          | nil => exact SX.comp (ft := fun _ σ K => K (.bool true) σ) Z h1 h2 (comp_of h4) h5 (IHx _ src h6) HE (by exact tests_nil)
          | cons _ _ => exact (Bool.false_ne_true h8).elim
        | cons cx r => cases cs with
          | nil => exact (Bool.false_ne_true h8).elim
          | cons ce rs =>
            have h8 := a2 h8
            cases r with
            | cons _ _ => exact SX.comp (ft := fun _ _ _ => False) Z h1 h2 (comp_of h4) h5 (IHx _ src h6) HE (fun _ _ _ _ _ _ _ _ _ _ _ _ _ _ e _ => e.elim)
            | nil => cases rs with
              | cons _ _ => exact (Bool.false_ne_true (a2 h8)).elim
              | nil => exact SX.comp (ft := fun t σ K => ev tab cp c.κ k cx [(i, .t t)] σ K) Z h1 h2 (comp_of h4) h5 (IHx _ src h6) HE (tests_one (ft := fun t σ K => ev tab cp c.κ k cx [(i, .t t)] σ K) fun C t => (IH (inC c scope (closL c.env.cells scope.names []) C [(i, .t t)]) cx ce rfl Z (a1 h8)).2)
      | compT elt is it =>
        refine onLc_e (z := e) hc fun e _ scope p hc => on1_e hc fun g hc => ?_
        obtain ⟨tg, src, cs, ia⟩ := g
        refine beq_e' (x := ia) (a1 hc) (nil_e (l := cs) (a1 (a2 hc)) (onTup_e (z := tg) (a2 (a2 hc)) fun s _ sp hc => both ?_ rfl))
        exact SX.compT (fe := fun ρ σ K => ev tab cp c.κ k elt ρ σ K) Z (a1 hc) (comp_of (a1 (a2 (a2 (a2 hc))))) (a1 (a2 (a2 (a2 (a2 hc))))) (IHx _ src (a1 (a2 (a2 (a2 (a2 (a2 hc))))))) fun C ρ => (IH (inC c scope (closL c.env.cells scope.names []) C ρ) elt e rfl Z (a2 (a2 (a2 (a2 (a2 (a2 hc))))))).1
      | tail v i =>
        exact onSub_e (z := e) hc fun _ _ _ hc => onSl_e hc fun _ _ _ _ hc => non_e (a1 hc) (non_e (a1 (a2 hc)) (onS_e (a2 (a2 hc)) fun _ hc => both (SX.tail (IHx _ _ (a1 hc)) (IHx _ _ (a2 hc))) rfl))
      | popC v =>
        exact onCall_e (z := e) hc fun _ _ _ _ hc => nil_e (a1 hc) (nil_e (a1 (a2 hc)) (onAttr_e (a2 (a2 hc)) fun _ _ _ hc => both (SX.popC (eq_of_beq (a1 hc)) (a1 (a2 hc)) (a1 (a2 (a2 hc))) (IHx _ _ (a2 (a2 (a2 hc))))) rfl))
      | sortC v =>
        exact onCall_e (z := e) hc fun _ _ _ _ hc => nil_e (a1 hc) (on1_e (a2 hc) fun _ hc => onName_e hc fun _ _ hc => both (SX.sortC Z (eq_of_beq (a1 (a2 hc))) (a1 hc) (not_t (a1 (a2 (a2 hc)))) (IHx _ _ (a2 (a2 (a2 hc))))) rfl)
      | lam kk =>
        refine onLam_e (z := e) hc fun a b sc' p hc => ?_
        obtain ⟨l, hl, hc⟩ := onS_t hc
        refine both ?_ rfl
        rw [ev_lam_at hl]
        exact SX.lam Z hl (a1 hc) (a1 (a2 hc)) (a2 (a2 hc))
noncomputable def LvO (w : World) (fz : Fz) (hm : Hm) (h : Heap) (v : Value) : LV → List Addr → Prop
  | .t t, ps => ps = [] ∧ Rep w fz hm t v
  | .l xs, ps => ∃ D ys n, v = .ref D ∧ ps = [D] ∧ h.get? D = some { cls := .type "list", data := .seq ys n } ∧ RepL w fz hm xs ys.toList
  | .d es, ps => ∃ D o kvs, v = .ref D ∧ ps = [D] ∧ h.get? D = some o ∧ (D == sysModules) = false ∧ o.IsDictOf (SK w) kvs ∧ RepD w fz hm es kvs
  | .i c fs, ps => ∃ x dx C es n kvs, v = .ref x ∧ ps = [dx] ∧ isC c = true ∧ gA[c]? = some C ∧ fz x (instObj C dx) ∧ h.get? dx = some (dictOf es n) ∧ Pairs (SK w) es kvs ∧ (kvs.map (·.1)).Nodup ∧ RepD w fz hm fs kvs
structure Ec (c : Fx) (fz : Fz) (hm : Hm) : Prop where
  hsc : c.env.scope = c.sc
  kind : c.sc.kind = .function
  glob : c.env.globals = mainGlobals
  blt : c.env.builtins = builtinsNs
  qual : c.env.qual = c.q
  cells : ∀ i v, lk c.κ i = some v → (kindIs c.sc (sN i) .cell || kindIs c.sc (sN i) .free) = true → ∃ a o x, c.env.cells.lookup (sN i) = some a ∧ fz a o ∧ o.data = .cell (some x) ∧ Rep c.w fz hm v x
  has : ∀ s, kindIs c.sc s .cell = true → ∃ a, c.env.cells.lookup s = some a
  code : ∀ k, k < 3 → c.q ++ ("<lambda>" : Str) = laQ k → ∃ cd P, c.env.code = .ref cd ∧ tA[k]? = some P ∧ CodeHd c.h₀ cd P
  loc : c.env.locals = c.L
structure SSt (c : Fx) (hB : Heap) (fzB : Fz) (hmB : Hm) (ρ : Rho) (m : Str → Option Value) (h : Heap) (fz : Fz) (hm : Hm) (σ : Sg) (pv : Nat → List Addr) : Prop where
  F : Fr c.h₀ c.L h m
  X : W c.w c.h₀ c.L h fz hm σ
  x : Ext hB fzB hmB h fz hm
  C : Ec c fz hm
  V : ∀ i lv, lk ρ i = some lv → i < nsz ∧ ∃ v, m (sN i) = some v ∧ LvO c.w fz hm h v lv (pv i)
  P : ∀ i a, a ∈ pv i → Priv h fz hm a ∧ hB.get? a = none ∧ a ≠ c.L
  D : ∀ i j a, a ∈ pv i → a ∈ pv j → i = j
  L : Priv h fz hm c.L ∧ hB.get? c.L = none
  B : ∀ b, hB.get? b = none → c.h₀.get? b = none
  O : ∀ s a, kindIs c.sc s .cell = true → (∀ i v, lk c.κ i = some v → i < nsz → sN i ≠ s) → c.env.cells.lookup s = some a → a ∈ pv nsz ∧ ∃ o v, h.get? a = some o ∧ o.data = .cell v
structure Kp (c : Fx) (h : Heap) (fz : Fz) (hm : Hm) (pv : Nat → List Addr) (h' : Heap) (fz' : Fz) (hm' : Hm) (pv' : Nat → List Addr) : Prop where
  keep : ∀ b o, h.get? b = some o → Priv h fz hm b → b ≠ c.L → (∀ i, b ∉ pv i) → h'.get? b = some o ∧ Priv h' fz' hm' b ∧ ∀ i, b ∉ pv' i
  sub : ∀ a o, fz a o → fz' a o
  hmi : ∀ (i : Nat) (p : Addr × Addr), hm[i]? = some p → hm'[i]? = some p
noncomputable abbrev withR (c : Fx) (ρ : Rho) : Fx := { c with ρ := ρ }
noncomputable def RS (c : Fx) (hB : Heap) (fzB : Fz) (hmB : Hm) (h : Heap) (fz : Fz) (hm : Hm) (pv : Nat → List Addr) (Q : Flow → Shared → Prop) (K : Fl → Rho → Sg → Prop) : Prop :=
  (∀ ρ' m' h' fz' hm' σ' pv' tk', K .next ρ' σ' → SSt c hB fzB hmB ρ' m' h' fz' hm' σ' pv' → Kp c h fz hm pv h' fz' hm' pv' → Q .next (c.st h' tk')) ∧
  (∀ ρ' m' h' fz' hm' σ' pv' tk', K .cont ρ' σ' → SSt c hB fzB hmB ρ' m' h' fz' hm' σ' pv' → Kp c h fz hm pv h' fz' hm' pv' → Q .cont (c.st h' tk')) ∧
  (∀ t v ρ' h' fz' hm' σ' tk', K (.ret t) ρ' σ' → Rep c.w fz' hm' t v → W c.w c.h₀ c.L h' fz' hm' σ' → Ext hB fzB hmB h' fz' hm' → Q (.ret v) (c.st h' tk'))
noncomputable def XS (c : Fx) (f : Rho → Sg → (Fl → Rho → Sg → Prop) → Prop) (t : Sem Flow) : Prop :=
  ∀ (hB : Heap) (fzB : Fz) (hmB : Hm) (ρ : Rho) (m : Str → Option Value) (h : Heap) (fz : Fz) (hm : Hm) (σ : Sg) (pv : Nat → List Addr) (tk : Nat) (Q : Flow → Shared → Prop) (E : Value → Shared → Prop) (K : Fl → Rho → Sg → Prop),
    SSt c hB fzB hmB ρ m h fz hm σ pv → f ρ σ K → RS c hB fzB hmB h fz hm pv Q K → wpAny (model pw c.w) c.A t Q E (c.st h tk)
theorem lk_pt {α : Type} (l : List (Nat × α)) (i j : Nat) (v : α) : lk (pt l i v) j = if i = j then some v else lk l j := by
  induction l with
  | nil =>
    show (match Nat.beq i j with | true => some v | false => none) = _
    by_cases e : i = j
    · subst e; rw [Nat.beq_refl, if_pos rfl]
    · rw [if_neg e]
      cases q : Nat.beq i j with
      | true => exact absurd (Nat.eq_of_beq_eq_true q) e
      | false => rfl
  | cons p r ih =>
    obtain ⟨k, u⟩ := p
    show lk (match Nat.beq k i with | true => (k, v) :: r | false => (k, u) :: pt r i v) j = if i = j then some v else (match Nat.beq k j with | true => some u | false => lk r j)
    cases q : Nat.beq k i with
    | true =>
      have := Nat.eq_of_beq_eq_true q
      subst this
      show (match Nat.beq k j with | true => some v | false => lk r j) = _
      by_cases e : k = j
      · subst e; rw [Nat.beq_refl, if_pos rfl]
      · rw [if_neg e]
        cases q : Nat.beq k j with
        | true => exact absurd (Nat.eq_of_beq_eq_true q) e
        | false => rfl
    | false =>
      show (match Nat.beq k j with | true => some u | false => lk (pt r i v) j) = _
      rw [ih]
      cases q' : Nat.beq k j with
      | true =>
        have := Nat.eq_of_beq_eq_true q'
        subst this
        have ne : ¬ i = k := fun e => by subst e; rw [Nat.beq_refl] at q; cases q
        simp only [if_neg ne]
      | false => rfl
section
variable {w : World} {fz fz' : Fz} {hm hm' : Hm} {h h' : Heap} {v : Value} {lv : LV} {ps : List Addr}
theorem LvO.move (hk : ∀ a o, a ∈ ps → h.get? a = some o → h'.get? a = some o) (hf : ∀ a o, fz a o → fz' a o) (hh : ∀ (i : Nat) (p : Addr × Addr), hm[i]? = some p → hm'[i]? = some p) (e : LvO w fz hm h v lv ps) : LvO w fz' hm' h' v lv ps := by
  cases lv with
  | t t => exact ⟨e.1, e.2.mono hf hh⟩
  | l xs => obtain ⟨D, ys, n, a, rfl, b, r⟩ := e; exact ⟨D, ys, n, a, rfl, hk _ _ (.head _) b, r.mono hf hh⟩
  | d es => obtain ⟨D, o, kvs, a, rfl, b, s, r, q⟩ := e; exact ⟨D, o, kvs, a, rfl, hk _ _ (.head _) b, s, r, q.mono hf hh⟩
  | i c fs => obtain ⟨x, dx, C, es, n, kvs, a, rfl, d, e, f, g, j, k, r⟩ := e; exact ⟨x, dx, C, es, n, kvs, a, rfl, d, e, hf _ _ f, hk _ _ (.head _) g, j, k, r.mono hf hh⟩
theorem LvO.frz {P : Addr → Prop} (hP : ∀ a, a ∈ ps → P a) (e : LvO w fz hm h v lv ps) : ∃ t, lv.frz = .t t ∧ Rep w (fun a o => fz a o ∨ (P a ∧ h.get? a = some o)) hm t v := by
  have hf : ∀ a o, fz a o → (fun a o => fz a o ∨ (P a ∧ h.get? a = some o)) a o := fun _ _ => .inl
  cases lv with
  | t t => exact ⟨t, rfl, e.2.mono hf fun _ _ e => e⟩
  | l xs => obtain ⟨D, ys, n, rfl, rfl, b, r⟩ := e; exact ⟨_, rfl, .lst (.inr ⟨hP _ (.head _), b⟩) rfl rfl (r.mono hf fun _ _ e => e)⟩
  | d es => obtain ⟨D, o, kvs, rfl, rfl, b, s, r, q⟩ := e; exact ⟨_, rfl, .dct (.inr ⟨hP _ (.head _), b⟩) s r (q.mono hf fun _ _ e => e)⟩
  | i c fs => obtain ⟨x, dx, C, es, n, kvs, rfl, rfl, d, e, f, g, j, k, r⟩ := e; exact ⟨_, rfl, .inst d e (.inl f) (.inr ⟨hP _ (.head _), g⟩) j k (r.mono hf fun _ _ e => e)⟩
theorem lk_frzR (ρ : Rho) (i : Nat) : lk (frzR ρ) i = (lk ρ i).map LV.frz := by
  induction ρ with
  | nil => rfl
  | cons p r ih =>
    obtain ⟨j, u⟩ := p
    show (match Nat.beq j i with | true => some u.frz | false => lk (frzR r) i) = (match Nat.beq j i with | true => some u | false => lk r i).map LV.frz
    cases Nat.beq j i with
    | true => rfl
    | false => exact ih
end
section
variable {c : Fx} {hB : Heap} {fzB : Fz} {hmB : Hm} {ρ : Rho} {m : Str → Option Value} {h h' : Heap} {fz fz' : Fz} {hm hm' : Hm} {σ σ' : Sg} {pv : Nat → List Addr}
theorem Ec.mono (C : Ec c fz hm) (hf : ∀ a o, fz a o → fz' a o) (hh : ∀ (i : Nat) (p : Addr × Addr), hm[i]? = some p → hm'[i]? = some p) : Ec c fz' hm' :=
  ⟨C.hsc, C.kind, C.glob, C.blt, C.qual, fun i v h1 h2 => let ⟨a, o, y, p, q, r, t⟩ := C.cells i v h1 h2; ⟨a, o, y, p, hf _ _ q, r, t.mono hf hh⟩, C.has, C.code, C.loc⟩
theorem Ec.en (C : Ec c fz hm) (F : Fr c.h₀ c.L h m) (V : VarsT c.w fz hm ρ m) (hL : ¬ Mt hm c.L) : En (withR c ρ) h fz hm :=
  ⟨C.hsc, C.kind, C.glob, C.blt, C.qual, C.cells, C.has, ⟨m, by show h.Ns c.env.locals m; rw [C.loc]; exact F.ns, V⟩, by show ¬ Mt hm c.env.locals; rw [C.loc]; exact hL, C.code⟩
theorem SSt.en (S : SSt c hB fzB hmB ρ m h fz hm σ pv) : En (withR c ρ) h fz hm :=
  S.C.en S.F (fun i t e _ => let ⟨_, v, a, b⟩ := S.V i _ e; ⟨v, a, b.2⟩) S.L.1.mt
theorem SSt.step (S : SSt c hB fzB hmB ρ m h fz hm σ pv) (X' : W c.w c.h₀ c.L h' fz' hm' σ') (x' : Ext h fz hm h' fz' hm') : SSt c hB fzB hmB ρ m h' fz' hm' σ' pv :=
  ⟨S.X.fr S.F x', X', S.x.trans x', S.C.mono x'.sub x'.hmi, fun i lv e => let ⟨a, v, b, d⟩ := S.V i lv e; ⟨a, v, b, d.move (fun a o hp e => (S.P i a hp).1.obj x' e) x'.sub x'.hmi⟩, fun i a hp => let ⟨p, q⟩ := S.P i a hp; ⟨p.ext x', q⟩, S.D, ⟨S.L.1.ext x', S.L.2⟩, S.B, fun s a h1 h2 h3 => let ⟨p, o, v, e1, e2⟩ := S.O s a h1 h2 h3; ⟨p, o, v, (S.P nsz a p).1.obj x' e1, e2⟩⟩
theorem Kp.refl (c : Fx) (h : Heap) (fz : Fz) (hm : Hm) (pv : Nat → List Addr) : Kp c h fz hm pv h fz hm pv := ⟨fun _ _ e p _ q => ⟨e, p, q⟩, fun _ _ e => e, fun _ _ e => e⟩
theorem Kp.of (x : Ext h fz hm h' fz' hm') (pv : Nat → List Addr) : Kp c h fz hm pv h' fz' hm' pv := ⟨fun _ _ e p _ q => ⟨p.obj x e, p.ext x, q⟩, x.sub, x.hmi⟩
theorem Kp.trans {h'' : Heap} {fz'' : Fz} {hm'' : Hm} {pv' pv'' : Nat → List Addr} (a : Kp c h fz hm pv h' fz' hm' pv') (b : Kp c h' fz' hm' pv' h'' fz'' hm'' pv'') : Kp c h fz hm pv h'' fz'' hm'' pv'' :=
  ⟨fun x o e p hL q => let ⟨e', p', q'⟩ := a.keep x o e p hL q; b.keep x o e' p' hL q', fun _ _ e => b.sub _ _ (a.sub _ _ e), fun _ _ e => b.hmi _ _ (a.hmi _ _ e)⟩
noncomputable def upd (pv : Nat → List Addr) (i : Nat) (ps : List Addr) : Nat → List Addr := fun j => if j = i then ps else pv j
theorem upd_self (pv : Nat → List Addr) (i : Nat) (ps : List Addr) : upd pv i ps i = ps := if_pos rfl
theorem upd_ne {pv : Nat → List Addr} {i j : Nat} {ps : List Addr} (e : j ≠ i) : upd pv i ps j = pv j := if_neg e
theorem SSt.store {i : Nat} {lv : LV} {v : Value} {ps : List Addr} (S : SSt c hB fzB hmB ρ m h fz hm σ pv) (hi : i < nsz) (r : LvO c.w fz hm h v lv ps)
    (hps : ∀ a ∈ ps, Priv h fz hm a ∧ hB.get? a = none ∧ a ≠ c.L ∧ ∀ j, j ≠ i → a ∉ pv j) (hs : Heap.SameBut c.L h h') (hns : h'.Ns c.L fun x => if x = sN i then some v else m x) :
    SSt c hB fzB hmB (pt ρ i lv) (fun x => if x = sN i then some v else m x) h' fz hm σ (upd pv i ps) := by
  have hk := sb_keep hs
  have L' : Priv h' fz hm c.L := S.L.1.at (ns_live hns)
  have mv : ∀ {a : Addr}, Priv h fz hm a → a ≠ c.L → Priv h' fz hm a := fun {a} p q => p.at (by
    cases e : h.get? a with
    | none => exact absurd e p.live
    | some o => rw [hk _ _ q e]; exact fun z => nomatch z)
  refine ⟨⟨hns, fun b o e => hk _ _ (fun q => ?_) (S.F.keep _ _ e), S.F.above⟩, S.X.but hk S.L.1.mt S.L.1.fz, S.x.but hk S.L.2, S.C, fun j lv' e => ?_, fun j a ha => ?_, fun j k a hj hk' => ?_, ⟨L', S.L.2⟩, S.B, fun s a h1 h2 h3 => let ⟨p, o, v, e1, e2⟩ := S.O s a h1 h2 h3; ⟨by rw [upd_ne (Nat.ne_of_gt hi)]; exact p, o, v, hk _ _ (S.P nsz a p).2.2 e1, e2⟩⟩
  · rw [q, Heap.get?_none_of_le S.F.above] at e; cases e
  · rw [lk_pt] at e
    by_cases q : i = j
    · subst q
      rw [if_pos rfl] at e; cases e
      refine ⟨hi, v, if_pos rfl, ?_⟩
      rw [upd_self]
      exact r.move (fun a o ha e => hk _ _ (hps a ha).2.2.1 e) (fun _ _ e => e) fun _ _ e => e
    · rw [if_neg q] at e
      obtain ⟨hj, u, hu, ru⟩ := S.V j lv' e
      refine ⟨hj, u, ?_, ?_⟩
      · show (if sN j = sN i then some v else m (sN j)) = some u
        rw [if_neg fun z => q (sN_inj hj hi z).symm]; exact hu
      · rw [upd_ne (Ne.symm q)]
        exact ru.move (fun a o ha e => hk _ _ (S.P j a ha).2.2 e) (fun _ _ e => e) fun _ _ e => e
  · by_cases q : j = i
    · subst q
      rw [upd_self] at ha
      obtain ⟨p1, p2, p3, _⟩ := hps a ha
      exact ⟨mv p1 p3, p2, p3⟩
    · rw [upd_ne q] at ha
      obtain ⟨p1, p2, p3⟩ := S.P j a ha
      exact ⟨mv p1 p3, p2, p3⟩
  · by_cases q : j = i
    · subst q
      rw [upd_self] at hj
      by_cases q' : k = j
      · exact q'.symm
      · rw [upd_ne q'] at hk'; exact absurd hk' ((hps a hj).2.2.2 k q')
    · rw [upd_ne q] at hj
      by_cases q' : k = i
      · subst q'
        rw [upd_self] at hk'
        exact absurd hj ((hps a hk').2.2.2 j q)
      · rw [upd_ne q'] at hk'
        exact S.D j k a hj hk'
theorem Kp.store {h₁ : Heap} {fz₁ : Fz} {hm₁ : Hm} {i : Nat} {ps : List Addr} (k : Kp c h₁ fz₁ hm₁ pv h fz hm pv) (hd : ∀ a ∈ ps, h₁.get? a = none ∨ a ∈ pv i) (hs : Heap.SameBut c.L h h') : Kp c h₁ fz₁ hm₁ pv h' fz hm (upd pv i ps) := by
  have hk := sb_keep hs
  refine ⟨fun b o e p hL q => ?_, k.sub, k.hmi⟩
  obtain ⟨e', p', q'⟩ := k.keep b o e p hL q
  have e'' := hk _ _ hL e'
  refine ⟨e'', p'.at (by rw [e'']; exact fun z => nomatch z), fun j hj => ?_⟩
  by_cases z : j = i
  · subst z
    rw [upd_self] at hj
    rcases hd b hj with y | y
    · rw [y] at e; cases e
    · exact q _ y
  · rw [upd_ne z] at hj; exact q' j hj
theorem SSt.change {i : Nat} {lv : LV} {v : Value} {a : Addr} (S : SSt c hB fzB hmB ρ m h fz hm σ pv) (ha : a ∈ pv i) (hi : i < nsz) (hv : m (sN i) = some v) (hs : Heap.SameBut a h h') (hl : h'.get? a ≠ none) (r : LvO c.w fz hm h' v lv (pv i)) :
    SSt c hB fzB hmB (pt ρ i lv) m h' fz hm σ pv := by
  have hk := sb_keep hs
  obtain ⟨pa, nB, nL⟩ := S.P i a ha
  have mv : ∀ {b : Addr}, Priv h fz hm b → Priv h' fz hm b := fun {b} p => by
    by_cases q : b = a
    · rw [q]; exact pa.at hl
    · refine p.at ?_
      cases e : h.get? b with
      | none => exact absurd e p.live
      | some o => rw [hk _ _ q e]; exact fun z => nomatch z
  have x' : Ext hB fzB hmB h' fz hm := S.x.but hk nB
  refine ⟨⟨S.F.ns.at' fun o e => hk _ _ (Ne.symm nL) e, fun b o e => hk _ _ (fun q => ?_) (S.F.keep _ _ e), S.F.above⟩, S.X.but hk pa.mt pa.fz, x', S.C, fun j lv' e => ?_, fun j b hb => let ⟨p1, p2⟩ := S.P j b hb; ⟨mv p1, p2⟩, S.D, ⟨mv S.L.1, S.L.2⟩, S.B, fun s b h1 h2 h3 => let ⟨p, o, v, e1, e2⟩ := S.O s b h1 h2 h3; ⟨p, o, v, hk _ _ (fun z => Nat.ne_of_gt hi (S.D nsz i a (z ▸ p) ha)) e1, e2⟩⟩
  · rw [q, S.B _ nB] at e; cases e
  · rw [lk_pt] at e
    by_cases q : i = j
    · subst q
      rw [if_pos rfl] at e; cases e
      exact ⟨hi, v, hv, r⟩
    · rw [if_neg q] at e
      obtain ⟨hj, u, hu, ru⟩ := S.V j lv' e
      exact ⟨hj, u, hu, ru.move (fun b o hb e => hk _ _ (fun z => q (S.D i j a ha (z ▸ hb))) e) (fun _ _ e => e) fun _ _ e => e⟩
theorem Kp.change {h₁ : Heap} {fz₁ : Fz} {hm₁ : Hm} {i : Nat} {a : Addr} (k : Kp c h₁ fz₁ hm₁ pv h fz hm pv) (ha : a ∈ pv i) (hs : Heap.SameBut a h h') : Kp c h₁ fz₁ hm₁ pv h' fz hm pv := by
  have hk := sb_keep hs
  refine ⟨fun b o e p hL q => ?_, k.sub, k.hmi⟩
  obtain ⟨e', p', q'⟩ := k.keep b o e p hL q
  have e'' := hk b o (fun (z : b = a) => q' i (z.symm ▸ ha)) e'
  exact ⟨e'', p'.at (by rw [e'']; exact fun z => nomatch z), q'⟩
end
section
variable {c : Fx} {hB : Heap} {fzB : Fz} {hmB : Hm} {ρ ρ' : Rho} {m : Str → Option Value} {h h' : Heap} {fz fz' : Fz} {hm hm' : Hm} {σ σ' : Sg} {pv : Nat → List Addr} {tk : Nat} {E : Value → Shared → Prop} {n : Nat} {mg mb : Str → Option Value}
theorem RS.ext {Q : Flow → Shared → Prop} {K : Fl → Rho → Sg → Prop} (R : RS c hB fzB hmB h fz hm pv Q K) (x : Ext h fz hm h' fz' hm') : RS c hB fzB hmB h' fz' hm' pv Q K :=
  ⟨fun _ _ _ _ _ _ _ _ k S kp => R.1 _ _ _ _ _ _ _ _ k S ((Kp.of x pv).trans kp), fun _ _ _ _ _ _ _ _ k S kp => R.2.1 _ _ _ _ _ _ _ _ k S ((Kp.of x pv).trans kp), R.2.2⟩
theorem RS.kp {Q : Flow → Shared → Prop} {K : Fl → Rho → Sg → Prop} {pv' : Nat → List Addr} (R : RS c hB fzB hmB h fz hm pv Q K) (x : Kp c h fz hm pv h' fz' hm' pv') : RS c hB fzB hmB h' fz' hm' pv' Q K :=
  ⟨fun _ _ _ _ _ _ _ _ k S kp => R.1 _ _ _ _ _ _ _ _ k S (x.trans kp), fun _ _ _ _ _ _ _ _ k S kp => R.2.1 _ _ _ _ _ _ _ _ k S (x.trans kp), R.2.2⟩
theorem SSt.congr (S : SSt c hB fzB hmB ρ m h fz hm σ pv) (e : ∀ i, lk ρ' i = lk ρ i) : SSt c hB fzB hmB ρ' m h fz hm σ pv := ⟨S.F, S.X, S.x, S.C, fun i lv q => S.V i lv (by rw [← e]; exact q), S.P, S.D, S.L, S.B, S.O⟩
theorem SSt.eval {f : Sg → (T → Sg → Prop) → Prop} {e : PySem.Expr} {Q : Value → Shared → Prop} {K : T → Sg → Prop} (S : SSt c hB fzB hmB ρ m h fz hm σ pv) (x : SX (withR c ρ) f (eval e c.env)) (he : f σ K)
    (k : ∀ t v h' tk' fz' hm' σ', K t σ' → Rep c.w fz' hm' t v → SSt c hB fzB hmB ρ m h' fz' hm' σ' pv → Ext h fz hm h' fz' hm' → Q v (c.st h' tk')) : wpAny (model pw c.w) c.A (eval e c.env) Q E (c.st h tk) :=
  x.then (c := withR c ρ) S.F S.X S.en he fun t v h' tk' fz' hm' σ' a r _ X' _ x' => k t v h' tk' fz' hm' σ' a r (S.step X' x') x'
theorem SSt.test {f : Sg → (T → Sg → Prop) → Prop} {e : PySem.Expr} {Q : Bool → Shared → Prop} {K : Bool → Sg → Prop} (S : SSt c hB fzB hmB ρ m h fz hm σ pv) (x : SB (withR c ρ) f (isTrue e c.env (PySem.eval e c.env))) (he : f σ (onB K))
    (k : ∀ b h' tk' fz' hm' σ', K b σ' → SSt c hB fzB hmB ρ m h' fz' hm' σ' pv → Ext h fz hm h' fz' hm' → Q b (c.st h' tk')) : wpAny (model pw c.w) c.A (isTrue e c.env (PySem.eval e c.env)) Q E (c.st h tk) :=
  x.then (c := withR c ρ) S.F S.X S.en he fun b h' tk' fz' hm' σ' a _ X' _ x' => k b h' tk' fz' hm' σ' a (S.step X' x') x'
theorem kindL (C : Ec c fz hm) {s : Str} {k : NameKind} (e : kindIs c.sc s k = true) : c.env.kindOf s = some k := by
  unfold kindIs at e
  unfold Env.kindOf
  rw [C.hsc]
  exact beq_iff_eq.mp e
theorem notMod (C : Ec c fz hm) : (c.env.scope.kind == .class || (c.env.scope.kind == .module && c.env.locals != c.env.globals)) = false := by rw [C.hsc, C.kind]; rfl
theorem SSt.bindL {i : Nat} {lv : LV} {v : Value} {ps : List Addr} {Q : Unit → Shared → Prop} {h₁ : Heap} {fz₁ : Fz} {hm₁ : Hm} (S : SSt c hB fzB hmB ρ m h fz hm σ pv) (kp : Kp c h₁ fz₁ hm₁ pv h fz hm pv) (hi : i < nsz) (hk : kindIs c.sc (sN i) .local = true) (r : LvO c.w fz hm h v lv ps)
    (hps : ∀ a ∈ ps, Priv h fz hm a ∧ hB.get? a = none ∧ a ≠ c.L ∧ ∀ j, j ≠ i → a ∉ pv j) (hd : ∀ a ∈ ps, h₁.get? a = none ∨ a ∈ pv i)
    (k : ∀ m' h', SSt c hB fzB hmB (pt ρ i lv) m' h' fz hm σ (upd pv i ps) → Kp c h₁ fz₁ hm₁ pv h' fz hm (upd pv i ps) → Q () (c.st h' (tk + 1))) : wpAny (model pw c.w) c.A (storeName c.env (sN i) v) Q E (c.st h tk) := by
  refine wpAny_storeName_local (m := m) (kindL S.C hk) (by rw [S.C.loc]; exact S.F.ns) (fun h' hn hs => ?_) (notMod S.C)
  rw [S.C.loc] at hn hs
  exact k _ _ (S.store hi r hps hs hn) (kp.store hd hs)
theorem SSt.bindT {i : Nat} {t : T} {v : Value} {Q : Unit → Shared → Prop} (S : SSt c hB fzB hmB ρ m h fz hm σ pv) (hi : i < nsz) (hk : kindIs c.sc (sN i) .local = true) (r : Rep c.w fz hm t v)
    (k : ∀ m' h' pv', SSt c hB fzB hmB (pt ρ i (.t t)) m' h' fz hm σ pv' → Kp c h fz hm pv h' fz hm pv' → Q () (c.st h' (tk + 1))) : wpAny (model pw c.w) c.A (storeName c.env (sN i) v) Q E (c.st h tk) :=
  S.bindL (lv := .t t) (ps := []) (Kp.refl ..) hi hk ⟨rfl, r⟩ (fun _ h => nomatch h) (fun _ h => nomatch h) fun m' h' S' k' => k m' h' _ S' k'
theorem bindAll_ok {Q : Unit → Shared → Prop} (is : List Nat) : ∀ (es : List PySem.Expr) (ts : List T) (vs : List Value) (ρ ρ' : Rho) (m : Str → Option Value) (h : Heap) (tk : Nat) (pv : Nat → List Addr), allNm c.sc is es = true → RepL c.w fz hm ts vs → bindAll is ts ρ = some ρ' →
    SSt c hB fzB hmB ρ m h fz hm σ pv → (∀ m' h' pv' tk', SSt c hB fzB hmB ρ' m' h' fz hm σ pv' → Kp c h fz hm pv h' fz hm pv' → Q () (c.st h' tk')) →
    wpAny (model pw c.w) c.A (assignInOrder ((assignEach es c.env).map (·.2)) vs) Q E (c.st h tk) := by
  induction is with
  | nil =>
    intro es ts vs ρ ρ' m h tk pv hc rs e S k
    cases es with
    | cons _ _ => cases hc
    | nil =>
      cases ts with
      | cons _ _ => cases e
      | nil => cases e; cases rs; exact wpAny_pure (k _ _ _ _ S (Kp.refl ..))
  | cons i r ih =>
    intro es ts vs ρ ρ' m h tk pv hc rs e S k
    cases es with
    | nil => cases hc
    | cons x s =>
      cases ts with
      | nil => cases e
      | cons t ts =>
        cases rs with
        | cons rv rs =>
          obtain ⟨h1, h2⟩ := Bool.and_eq_true_iff.mp hc
          obtain ⟨p, rfl, hi, hk, hd⟩ := nameIs_of h1
          refine wpAny_bind (wpAny_holding (wpAny_assign_Name (S.bindT hi hk rv fun m' h' pv' S' k' => ?_)))
          exact ih s ts _ (pt ρ i (.t t)) ρ' m' h' _ pv' h2 rs e S' fun m2 h2 pv2 tk2 S2 k2 => k m2 h2 pv2 tk2 S2 (k'.trans k2)
theorem unpk_ok {Q : Unit → Shared → Prop} {is : List Nat} {es : List PySem.Expr} {v : T} {vv : Value} {l : List T} {kk : Nat} {pos : Pos} (Z : Act c.w mg mb n c.A c.h₀ c.L) (hc : allNm c.sc is es = true) (rv : Rep c.w fz hm v vv) (hv : v = .tup l ∨ v = .lst l) (e : bindAll is l ρ = some ρ')
    (S : SSt c hB fzB hmB ρ m h fz hm σ pv) (k : ∀ m' h' pv' tk', SSt c hB fzB hmB ρ' m' h' fz hm σ pv' → Kp c h fz hm pv h' fz hm pv' → Q () (c.st h' tk')) :
    wpAny (model pw c.w) c.A (assign (.Tuple es kk pos) c.env vv) Q E (c.st h tk) := by
  obtain ⟨l1, l2⟩ := allNm_len is c.env hc
  have go : ∀ (its : Array Value) (h' : Heap), RepL c.w fz hm l its.toList → Heap.ExtBut h.objs.size h h' → wpAny (model pw c.w) c.A (assignInOrder ((assignEach es c.env).map (·.2)) its.toList) Q E (c.st h' tk) := by
    intro its h' hr hx
    have hk : ∀ b o, h.get? b = some o → h'.get? b = some o := fun b o e => hx b o (Nat.ne_of_lt (Heap.lt_size e)) e
    exact bindAll_ok is es l _ ρ ρ' m h' tk pv hc hr e (S.step (S.X.keeps hk) (Ext.keeps fz hm hk)) fun m' h2 pv' tk' S' k' => k m' h2 pv' tk' S' ((Kp.of (Ext.keeps fz hm hk) pv).trans k')
  rcases hv with rfl | rfl
  · cases rv with
    | @tup _ a o its nn h1 h2 h3 h4 =>
      exact assign_Tuple_tuple Z.hh (fz_tup (S.X.fzo _ _ h1) h2 h3) (by rw [l1, bindAll_len e, ← h4.size]) l2 fun h' hx => go its h' h4 hx
  · cases rv with
    | @lst _ a o its nn h1 h2 h3 h4 =>
      rw [PyProof.Rows.assign_Tuple]
      refine wpAny_bind (wpAny_standAt ?_)
      unfold unpack
      rw [l1, l2, bindAll_len e, ← h4.size]
      exact wpAny_bind (wpAny_holding (kun_itemsOf Z.hh (fz_lst (S.X.fzo _ _ h1) h2 h3) fun h' hx => go its h' h4 hx))
theorem SSt.freeze (S : SSt c hB fzB hmB ρ m h fz hm σ pv) : ∃ fz', W c.w c.h₀ c.L h fz' hm σ ∧ Ext hB fzB hmB h fz' hm ∧ En (withR c (frzR ρ)) h fz' hm := by
  let P : Addr → Prop := fun a => ∃ i, a ∈ pv i
  have hP : ∀ a, P a → Priv h fz hm a ∧ hB.get? a = none := fun a ⟨i, hi⟩ => ⟨(S.P i a hi).1, (S.P i a hi).2.1⟩
  have sub : ∀ a o, fz a o → (fun a o => fz a o ∨ (P a ∧ h.get? a = some o)) a o := fun _ _ => .inl
  refine ⟨fun a o => fz a o ∨ (P a ∧ h.get? a = some o), ⟨S.X.len, fun a o e => e.elim (S.X.fzo a o) (·.2), fun a o e => e.elim (S.X.fzm a o) fun q => (hP a q.1).1.mt, S.X.nd, fun i cc p e1 e2 => ?_, S.X.mt, fun k a e => ?_⟩, ⟨S.x.keep, fun a o e => .inl (S.x.sub a o e), fun a o e => e.elim (S.x.new a o) fun q => .inr (hP a q.1).2, S.x.hmx, S.x.dom⟩, ?_⟩
  · obtain ⟨o, g, r⟩ := S.X.cell i cc p e1 e2
    exact ⟨o, g, r.mono sub fun _ _ e => e⟩
  · obtain ⟨o, g, r⟩ := S.X.tab k a e
    exact ⟨o, g, r.mono sub⟩
  · refine (S.C.mono sub fun _ _ e => e).en S.F (fun i t e hi => ?_) S.L.1.mt
    rw [lk_frzR] at e
    obtain ⟨lv, hl, e⟩ := Option.map_eq_some_iff.mp e
    obtain ⟨_, v, hv, r⟩ := S.V i lv hl
    obtain ⟨t', e', r'⟩ := r.frz (P := P) fun a ha => ⟨i, ha⟩
    rw [e'] at e; cases e
    exact ⟨v, hv, r'⟩
theorem exs_ok {G : S → Rho → Sg → (Fl → Rho → Sg → Prop) → Prop} {chk : S → Stmt → Bool} (IH : ∀ s st, chk s st = true → XS c (G s) (exec st c.env)) : ∀ (l : List S) (ss : List Stmt), allS chk l ss = true → XS c (fun ρ σ K => exs G l ρ σ K) (execs ss c.env)
  | [], [], _ => fun hB fzB hmB ρ m h fz hm σ pv tk Q E K S e R => wpAny_execs_nil (R.1 _ _ _ _ _ _ _ _ e S (Kp.refl ..))
  | x :: l, st :: ss, hc => fun hB fzB hmB ρ m h fz hm σ pv tk Q E K S e R => by
    obtain ⟨h1, h2⟩ := Bool.and_eq_true_iff.mp hc
    refine wpAny_execs_cons (IH x st h1 hB fzB hmB ρ m h fz hm σ pv tk _ E _ S e ⟨fun ρ' m' h' fz' hm' σ' pv' tk' a S' k' => ?_, fun ρ' m' h' fz' hm' σ' pv' tk' a S' k' => R.2.1 _ _ _ _ _ _ _ _ a S' k', fun t v ρ' h' fz' hm' σ' tk' a r X' x' => R.2.2 _ _ _ _ _ _ _ _ a r X' x'⟩)
    exact exs_ok IH l ss h2 hB fzB hmB ρ' m' h' fz' hm' σ' pv' tk' Q E K S' a (R.kp k')
  | [], _ :: _, hc => by cases hc
  | _ :: _, [], hc => by cases hc
theorem XS.ret {e : PySem.Expr} {p : Pos} {f : Rho → Sg → (T → Sg → Prop) → Prop} (x : ∀ ρ, SX (withR c ρ) (f ρ) (eval e c.env)) : XS c (fun ρ σ K => f (frzR ρ) σ fun v σ => K (.ret v) ρ σ) (exec (.Return (some e) p) c.env) := by
  intro hB fzB hmB ρ m h fz hm σ pv tk Q E K S a R
  obtain ⟨fz', X', x', N'⟩ := S.freeze
  refine wpAny_Return_some ((x (frzR ρ)).then (c := withR c (frzR ρ)) S.F X' N' a fun t v h2 tk2 fz2 hm2 σ2 a2 r2 F2 X2 N2 x2 => ?_)
  exact R.2.2 _ _ _ _ _ _ _ _ a2 r2 X2 (x'.trans x2)
theorem XS.ifS {t : PySem.Expr} {l r : List Stmt} {p : Pos} {f : Rho → Sg → (T → Sg → Prop) → Prop} {g g' : Rho → Sg → (Fl → Rho → Sg → Prop) → Prop} (x : ∀ ρ, SB (withR c ρ) (f ρ) (isTrue t c.env (eval t c.env))) (y : XS c g (execs l c.env)) (z : XS c g' (execs r c.env)) :
    XS c (fun ρ σ K => f ρ σ (onB fun b σ => if b = true then g ρ σ K else g' ρ σ K)) (exec (.If t l r p) c.env) := by
  intro hB fzB hmB ρ m h fz hm σ pv tk Q E K S a R
  refine wpAny_If (S.test (x ρ) a fun b h' tk' fz' hm' σ' a' S' x' => ?_)
  cases b with
  | true => rw [if_pos rfl] at a' ⊢; exact y _ _ _ _ _ _ _ _ _ _ _ _ _ _ S' a' (R.ext x')
  | false => rw [if_neg (by decide)] at a' ⊢; exact z _ _ _ _ _ _ _ _ _ _ _ _ _ _ S' a' (R.ext x')
theorem noSwap {e : PySem.Expr} (hc : isComp e = false) (t : Option PySem.Expr) (ln : Nat) (env : Env) : swapsWith e t ln env = pure false := by
  cases e <;> first | rfl | cases hc
theorem XS.asg {i : Nat} {e : PySem.Expr} {np p : Pos} {s : Str} {f : Rho → Sg → (T → Sg → Prop) → Prop} (hn : nmOk s i = true) (hk : kindIs c.sc s .local = true) (hc : isComp e = false) (x : ∀ ρ, SX (withR c ρ) (f ρ) (eval e c.env)) :
    XS c (fun ρ σ K => f ρ σ fun v σ => K .next (pt ρ i (.t v)) σ) (exec (.Assign [.Name s np] e p) c.env) := by
  intro hB fzB hmB ρ m h fz hm σ pv tk Q E K S a R
  obtain ⟨hi, rfl, _, _⟩ := nm_of hn
  refine wpAny_Assign_Name (S.eval (x ρ) a fun t v h' tk' fz' hm' σ' a' r S' x' => ?_) (noSwap hc _ _ _)
  exact S'.bindT hi hk r fun m2 h2 pv2 S2 k2 => (R.ext x').1 _ _ _ _ _ _ _ _ a' S2 k2
theorem XS.expr {e : PySem.Expr} {p : Pos} {f : Rho → Sg → (T → Sg → Prop) → Prop} (hc : isComp e = false) (x : ∀ ρ, SX (withR c ρ) (f ρ) (eval e c.env)) :
    XS c (fun ρ σ K => f ρ σ fun v σ => (match v with
      | .none => K .next ρ σ
      | _ => False)) (exec (.Expr e p) c.env) := by
  intro hB fzB hmB ρ m h fz hm σ pv tk Q E K S a R
  refine wpAny_Expr (S.eval (x ρ) a fun t v h' tk' fz' hm' σ' a' r S' x' => ?_) (by unfold interactive; rw [S.C.hsc, S.C.kind]; rfl) (noSwap hc _ _ _)
  cases r with
  | none => exact (R.ext x').1 _ _ _ _ _ _ _ _ a' S' (Kp.refl ..)
  | _ => exact a'.elim
theorem XS.cont {p : Pos} : XS c (fun ρ σ K => K .cont ρ σ) (exec (.Continue p) c.env) := by
  intro hB fzB hmB ρ m h fz hm σ pv tk Q E K S a R
  exact wpAny_Continue (R.2.1 _ _ _ _ _ _ _ _ a S (Kp.refl ..))
end
noncomputable def bi3 (P : Params) : Bool := nsIn (mK P) mainGlobals (Str.ofString "dict") == some none && (nsIn (mK P) mainGlobals (Str.ofString "range") == some none && (nsIn (mK P) mainGlobals (Str.ofString "zip") == some none &&
  (bootBuiltins (Str.ofString "dict") == some (.type "dict") && (bootBuiltins (Str.ofString "range") == some (.type "range") && bootBuiltins (Str.ofString "zip") == some (.type "zip")))))
theorem bi3_ (P : Params) : bi3 P = true := by kernel_rfl
section
variable {c : Fx} {hB : Heap} {fzB : Fz} {hmB : Hm} {ρ ρ' : Rho} {m : Str → Option Value} {h h' : Heap} {fz fz' : Fz} {hm hm' : Hm} {σ σ' : Sg} {pv : Nat → List Addr} {tk : Nat} {E : Value → Shared → Prop} {n : Nat} {mg mb : Str → Option Value}
theorem SSt.fresh (S : SSt c hB fzB hmB ρ m h fz hm σ pv) {a : Addr} (ha : h.get? a = none) : hB.get? a = none ∧ a ≠ c.L ∧ (∀ j, a ∉ pv j) ∧ ¬ Mt hm a ∧ ∀ o, ¬ fz a o :=
  ⟨S.x.dom a ha, fun q => S.L.1.live (q ▸ ha), fun j hj => (S.P j a hj).1.live ha, S.X.fresh_mt ha, S.X.fresh_fz ha⟩
theorem SSt.own (S : SSt c hB fzB hmB ρ m h fz hm σ pv) {a : Addr} (ha : h.get? a = none) (hl : h'.get? a ≠ none) {i : Nat} : Priv h' fz hm a ∧ hB.get? a = none ∧ a ≠ c.L ∧ ∀ j, j ≠ i → a ∉ pv j :=
  let ⟨p, q, r, s, t⟩ := S.fresh ha
  ⟨⟨hl, s, t⟩, p, q, fun j _ => r j⟩
theorem XS.newl {i : Nat} {np p p' : Pos} {s : Str} (hn : nmOk s i = true) (hk : kindIs c.sc s .local = true) : XS c (fun ρ σ K => K .next (pt ρ i (.l [])) σ) (exec (.Assign [.Name s np] (.List [] p') p) c.env) := by
  intro hB fzB hmB ρ m h fz hm σ pv tk Q E K S a R
  obtain ⟨hi, rfl, _, _⟩ := nm_of hn
  refine wpAny_Assign_Name (List_ (spliced_none ?_)) rfl
  refine wpAny_newObj_type ?_ (by show (0 : Nat) ≤ sizeLine; exact Nat.zero_le _)
  have x' := Ext.keeps fz hm (keeps_push h { cls := .type "list", data := .seq ([] : List Value).toArray })
  have S' := S.step (S.X.keeps (keeps_push h _)) x'
  refine S'.bindL (lv := .l []) (ps := [h.objs.size]) (Kp.of x' pv) hi hk ⟨_, #[], 0, rfl, rfl, Heap.get?_push_size _ rfl, .nil⟩ (fun b hb => ?_) (fun b hb => ?_) fun m2 h2 S2 k2 => R.1 _ _ _ _ _ _ _ _ a S2 k2
  · cases List.mem_singleton.mp hb
    exact S.own (get_none_size h) (by rw [Heap.get?_push_size _ rfl]; exact fun z => nomatch z)
  · cases List.mem_singleton.mp hb
    exact .inl (get_none_size h)
theorem bi3_eval {f : Str} {v : Value} {p : Pos} {Q : Value → Shared → Prop} (Z : Act c.w mg mb n c.A c.h₀ c.L) (C : Ec c fz hm) (F : Fr c.h₀ c.L h m) (hk : kindIs c.sc f .globalImplicit = true)
    (hf : nsIn (mK c.w.params) mainGlobals f = some none) (hb : bootBuiltins f = some v) (h1 : f ≠ "__name__") (h2 : (f == ("__debug__" : Str)) = false) (hQ : Q v (c.st h tk)) : wpAny (model pw c.w) c.A (eval (.Name f p) c.env) Q E (c.st h tk) := by
  refine Name_function_global (by rw [C.hsc]; exact C.kind) (kindL C hk) ?_ h2
  have hg : (c.st h tk).heap.Ns c.env.globals mg := by rw [C.glob]; exact Z.T.g.keeps F.keep
  exact loadGlobal_builtin hg (mg_none_of (Z.X.keeps F.keep) (Z.T.g.keeps F.keep) hf) (by rw [C.blt]; exact Z.T.b.keeps F.keep) ((Z.T.builtins f h1).trans hb) hQ
theorem XS.dcopy {i : Nat} {np p p' p2 : Pos} {s f : Str} {e : PySem.Expr} {g : Rho → Sg → (T → Sg → Prop) → Prop} (Z : Act c.w mg mb n c.A c.h₀ c.L) (hn : nmOk s i = true) (hk : kindIs c.sc s .local = true) (hf : f = ("dict" : Str)) (hkf : kindIs c.sc f .globalImplicit = true) (he : isStar e = false)
    (x : ∀ ρ, SX (withR c ρ) (g ρ) (eval e c.env)) :
    XS c (fun ρ σ K => g ρ σ fun v σ => (match v with
      | .dct es => es.length < 1000 ∧ K .next (pt ρ i (.d es)) σ
      | _ => False)) (exec (.Assign [.Name s np] (.Call (.Name f p2) [e] [] p') p) c.env) := by
  intro hB fzB hmB ρ m h fz hm σ pv tk Q E K S a R
  obtain ⟨hi, rfl, _, _⟩ := nm_of hn
  subst hf
  have b3 := bi3_ c.w.params
  refine wpAny_Assign_Name (Call_ (bi3_eval Z S.C S.F hkf (eq_of_beq (a1 b3)) (eq_of_beq (a1 (a2 (a2 (a2 b3))))) (by decide) (by decide) ?_) rfl) (by rfl)
  refine callW (first := []) (noStar c.env p' (f := fun _ _ => true) (l := [.bad]) (es := [e]) (by show (!(isStar e) && (true && true)) = true; rw [he]; rfl)).1 ?_
  refine args_cons (S.eval (x ρ) a fun t v h' tk' fz' hm' σ' a' r S' x' => ?_) (starEach_cons he)
  refine spliced_none ⟨⟨.machine, .inr (.inl rfl), Looks.of_pure rfl⟩, ?_⟩
  cases r with
  | dct h1 h0 h2 h3 =>
    obtain ⟨hl, hK⟩ := a'
    refine kt_call_dict h0 (Heap.dictOf_iff.mpr ⟨_, S'.X.fzo _ _ h1, h2⟩) (by rw [← h3.length, sizeLine_eq]; omega) fun h2' hd hs => ?_
    have up : ∀ b o, h'.get? b = some o → h2'.get? b = some o := fun b o e => (hs.2 b (Nat.ne_of_lt (Heap.lt_size e))).trans (Heap.get?_push_of_some _ e)
    have x2 := Ext.keeps fz' hm' up
    have S2 := S'.step (S'.X.keeps up) x2
    obtain ⟨o, ho, hdo⟩ := Heap.dictOf_iff.mp hd
    refine S2.bindL (lv := .d _) (ps := [h'.objs.size]) (Kp.of x2 pv) hi hk ⟨_, o, _, rfl, rfl, ho, S'.F.notModules (modules_low Z.T.nolimit), hdo, h3⟩ (fun b hb => ?_) (fun b hb => ?_) fun m2 h2 S2 k2 => (R.ext x').1 _ _ _ _ _ _ _ _ hK S2 k2
    · cases List.mem_singleton.mp hb
      exact S'.own (get_none_size h') (by show h2'.get? h'.objs.size ≠ none; rw [ho]; exact fun z => nomatch z)
    · cases List.mem_singleton.mp hb
      exact .inl (get_none_size h')
  | _ => exact a'.elim
theorem XS.unpk {is : List Nat} {es : List PySem.Expr} {e : PySem.Expr} {kk : Nat} {tp p : Pos} {f : Rho → Sg → (T → Sg → Prop) → Prop} (Z : Act c.w mg mb n c.A c.h₀ c.L) (ha : allNm c.sc is es = true) (hc : isComp e = false) (ht : notTup e = true) (x : ∀ ρ, SX (withR c ρ) (f ρ) (eval e c.env)) :
    XS c (fun ρ σ K => f ρ σ fun v σ => (match v with
      | .tup l => (match bindAll is l ρ with
        | some ρ => K .next ρ σ
        | none => False)
      | .lst l => (match bindAll is l ρ with
        | some ρ => K .next ρ σ
        | none => False)
      | _ => False)) (exec (.Assign [.Tuple es kk tp] e p) c.env) := by
  intro hB fzB hmB ρ m h fz hm σ pv tk Q E K S a R
  refine Assign_Tuple (S.eval (x ρ) a fun t v h' tk' fz' hm' σ' a' r S' x' => ?_) (hs := (noSwap hc _ _ _ : swapsWith e (some (.Tuple es kk tp)) p.line c.env = pure false)) (hw := by cases e <;> first | rfl | cases ht)
  have fin : ∀ l, (t = .tup l ∨ t = .lst l) → (match bindAll is l ρ with
        | some ρ => K .next ρ σ'
        | none => False) → wpAny (model pw c.w) c.A (assign (.Tuple es kk tp) c.env v) (fun _ => Q .next) E (c.st h' tk') := by
    intro l hl hK
    cases hb : bindAll is l ρ with
    | none => rw [hb] at hK; exact hK.elim
    | some ρ' =>
      rw [hb] at hK
      exact unpk_ok Z ha r hl hb S' fun m' h2 pv' tk2 S2 k2 => (R.ext x').1 _ _ _ _ _ _ _ _ hK S2 k2
  cases t with
  | tup l => exact fin l (.inl rfl) a'
  | lst l => exact fin l (.inr rfl) a'
  | _ => exact a'.elim
end
structure TwoF (sc : Scope) (i j : Nat) (a b : Str) (p p' : Pos) (v v' : PySem.Expr) : Prop where
  ha : nmOk a i = true
  hb : nmOk b j = true
  ka : kindIs sc a .local = true
  kb : kindIs sc b .local = true
  line : p.line = p'.line
  ne : i ≠ j
  s : isStar v = false
  s' : isStar v' = false
  f : (foldedForSure 8 v && foldedForSure 8 v') = false
  k : (constantsAlone 8 v && constantsAlone 8 v') = false
theorem two_of {sc : Scope} {i j : Nat} {a b : Str} {p p' : Pos} {v v' : PySem.Expr} (h : (nmOk a i && (nmOk b j && (kindIs sc a .local && (kindIs sc b .local && (p.line == p'.line && (!(Nat.beq i j) && (!(isStar v) && (!(isStar v') && (!(foldedForSure 8 v && foldedForSure 8 v') && !(constantsAlone 8 v && constantsAlone 8 v')))))))))) = true) : TwoF sc i j a b p p' v v' :=
  have h5 := a2 (a2 (a2 (a2 h)))
  have h8 := a2 (a2 (a2 h5))
  ⟨a1 h, a1 (a2 h), a1 (a2 (a2 h)), a1 (a2 (a2 (a2 h))), eq_of_beq (a1 h5), (fun q => by
    have h := a1 (a2 h5)
    rw [q, Nat.beq_refl] at h; cases h), not_t (a1 (a2 (a2 h5))), not_t (a1 h8), not_t (a1 (a2 h8)), not_t (a2 (a2 h8))⟩
theorem any_star {F : PySem.Expr → Bool} (hF : ∀ v, isStar v = false → F v = false) {v v' : PySem.Expr} (s : isStar v = false) (s' : isStar v' = false) (h : [v, v'].any F = true) : False := by
  have h : (F v || (F v' || false)) = true := h
  rw [hF v s, hF v' s'] at h; cases h
theorem swapped_two {sc : Scope} {i j : Nat} {a b : Str} {p p' : Pos} {v v' : PySem.Expr} {env : Env} {kk kk' : Nat} {tp vp : Pos} (T : TwoF sc i j a b p p' v v') (hk : env.blockKind = .function) (ka : env.kindOf a = some .local) (kb : env.kindOf b = some .local) :
    swappedStores [.Tuple [.Name a p, .Name b p'] kk tp] (.Tuple [v, v'] kk' vp) env = pure (some [a, b]) := by
  have hl := T.line
  have f1 := T.f
  have f2 := T.k
  have ne : ¬ b = a := fun q => by
    obtain ⟨hi, ea, _, _⟩ := nm_of T.ha
    obtain ⟨hj, eb, _, _⟩ := nm_of T.hb
    exact T.ne (sN_inj hi hj (by rw [← ea, ← eb, q]))
  delta swappedStores
  dsimp only
  generalize hN : List.filterMap _ [PySem.Expr.Name a p, PySem.Expr.Name b p'] = N
  obtain rfl : N = [a, b] := by
    have ha : (env.kindOf a == some NameKind.local && p.line == p.line) = true := by rw [ka, beq_self_eq_true, beq_self_eq_true]; rfl
    have hb : (env.kindOf b == some NameKind.local && p'.line == p.line) = true := by rw [kb, beq_self_eq_true, hl, beq_self_eq_true]; rfl
    rw [← hN]
    rw [List.filterMap_cons_some (b := a), List.filterMap_cons_some (b := b), List.filterMap_nil]
    · exact if_pos hb
    · exact if_pos ha
  have e4 : [a, b].eraseDups = [a, b] := by simp [List.eraseDups_cons, ne]
  rw [e4, hk]
  have q2 : [v, v'].all (foldedForSure 8) = false := by show (foldedForSure 8 v && (foldedForSure 8 v' && true)) = false; rw [Bool.and_true, f1]
  have q3 : [v, v'].all (constantsAlone 8) = false := by show (constantsAlone 8 v && (constantsAlone 8 v' && true)) = false; rw [Bool.and_true, f2]
  exact (if_neg Bool.false_ne_true).trans ((if_neg (any_star (fun v h => by
    cases v with
    | Starred => cases h
    | _ => rfl) T.s T.s')).trans ((if_neg Bool.false_ne_true).trans ((if_neg (fun h => Bool.false_ne_true (q2.symm.trans h))).trans (if_neg (fun h => Bool.false_ne_true (q3.symm.trans h))))))
theorem bind2 {i j : Nat} {ts : List T} {ρ ρ' : Rho} (h : bindAll [i, j] ts ρ = some ρ') : ∃ t1 t2, ts = [t1, t2] ∧ ρ' = pt (pt ρ i (.t t1)) j (.t t2) := by
  cases ts with
  | nil => exact nS h
  | cons t1 r => cases r with
    | nil => exact nS h
    | cons t2 r => cases r with
      | nil => exact ⟨t1, t2, rfl, (Option.some.inj h).symm⟩
      | cons _ _ => exact nS h
section
variable {c : Fx} {hB : Heap} {fzB : Fz} {hmB : Hm} {ρ ρ' : Rho} {m : Str → Option Value} {h h' : Heap} {fz fz' : Fz} {hm hm' : Hm} {σ σ' : Sg} {pv : Nat → List Addr} {tk : Nat} {E : Value → Shared → Prop} {n : Nat} {mg mb : Str → Option Value}
theorem XS.asgT {i j : Nat} {a b : Str} {p p' tp vp pos : Pos} {v v' : PySem.Expr} {kk kk' : Nat} {l : List X} {G : Rho → X → Sg → (T → Sg → Prop) → Prop} {chk : X → PySem.Expr → Bool} (Z : Act c.w mg mb n c.A c.h₀ c.L) (T : TwoF c.sc i j a b p p' v v')
    (IH : ∀ ρ x e, chk x e = true → SX (withR c ρ) (G ρ x) (eval e c.env)) (hl : allX chk l [v, v'] = true) :
    XS c (fun ρ σ K => evs (G ρ) l σ fun vs σ => (match bindAll [i, j] vs ρ with
      | some ρ => K .next ρ σ
      | none => False)) (exec (.Assign [.Tuple [.Name a p, .Name b p'] kk tp] (.Tuple [v, v'] kk' vp) pos) c.env) := by
  intro hB fzB hmB ρ m h fz hm σ pv tk Q E K S e R
  have bk : c.env.blockKind = .function := by unfold Env.blockKind; rw [S.C.hsc, S.C.kind]; rfl
  refine Assign_Tuple_swapped (names := [a, b]) (Tuple_ (evs_ok (c := withR c ρ) (IH ρ) l [v, v'] hl m h fz hm σ tk _ E _ S.F S.X S.en e fun ts vs h' tk' fz' hm' σ' a1 hn rl F' X' N' x' => ?_)) (by rfl) (swapped_two T bk (kindL S.C T.ka) (kindL S.C T.kb))
  obtain ⟨hi, rfl, _, _⟩ := nm_of T.ha
  obtain ⟨hj, rfl, _, _⟩ := nm_of T.hb
  cases hb : bindAll [i, j] ts ρ with
  | none => rw [hb] at a1; exact a1.elim
  | some ρ' =>
    rw [hb] at a1
    obtain ⟨t1, t2, rfl, rfl⟩ := bind2 hb
    refine rl.e2 fun v1 v2 r1 r2 => ?_
    have S' := S.step X' x'
    refine wpAny_newObj_type ?_ (by show (2 : Nat) ≤ sizeLine; rw [sizeLine_eq]; decide)
    refine unpackItems_tuple (items := #[v1, v2]) Z.hh ⟨_, Heap.get?_push_size _ rfl, rfl, _, rfl⟩ fun h2 hx2 => ?_
    have k2 : ∀ b o, h'.get? b = some o → h2.get? b = some o := fun b o e => let e' := Heap.get?_push_of_some _ e; hx2 b o (Nat.ne_of_lt (Heap.lt_size e')) e'
    have x2 := Ext.keeps fz' hm' k2
    have S2 := S'.step (S'.X.keeps k2) x2
    refine wpAny_bind (wpAny_holding (bindName_ (S2.bindT hj T.kb r2 fun m3 h3 pv3 S3 q3 => ?_)))
    refine wpAny_bind (wpAny_holding (bindName_ (S3.bindT hi T.ka r1 fun m4 h4 pv4 S4 q4 => ?_)))
    refine wpAny_pure (((R.ext x').ext x2).1 _ _ _ _ _ _ _ _ a1 (S4.congr fun k => ?_) (q3.trans q4))
    rw [lk_pt, lk_pt, lk_pt, lk_pt]
    by_cases ei : i = k
    · subst ei
      rw [if_neg (Ne.symm T.ne), if_pos rfl, if_pos rfl]
    · rw [if_neg ei, if_neg ei]
end
section
variable {w : World} {A : Around} {E : Value → Shared → Prop} {g : Array GenState} {d : Drawn} {tk : Nat} {os : OsState} {h₀ h : Heap} {L : Addr} {m : Str → Option Value} {fz : Fz} {hm : Hm} {σ : Sg}
noncomputable def set1 (P : Params) (c a : Nat) : Bool := match gA[c]? with
  | some C => findIn (mK P) (.ref C) "__setattr__" == some (some (.builtin "object.__setattr__")) && (plainOver (mK P) C && (hasDictIn (mK P) C && takerIn (mK P) C (sN a) == some none))
  | none => false
noncomputable def setAll (P : Params) : Bool := tab.attrs.all fun p => p.2.all fun a => set1 P p.1 a
theorem setAll_ (P : Params) : setAll P = true := by kernel_rfl
structure SetF (P : Params) (C : Addr) (a : Nat) : Prop where
  s : findIn (mK P) (.ref C) "__setattr__" = some (some (.builtin "object.__setattr__"))
  p : plainOver (mK P) C = true
  d : hasDictIn (mK P) C = true
  t : takerIn (mK P) C (sN a) = some none
theorem set_of {c a : Nat} (e : okA tab c a = true) (P : Params) {C : Addr} (hC : gA[c]? = some C) : SetF P C a := by
  unfold okA at e
  cases hl : lk tab.attrs c with
  | none => rw [hl] at e; exact nT e
  | some l =>
    rw [hl] at e
    have this := List.all_eq_true.mp (List.all_eq_true.mp (setAll_ P) _ (lk_mem hl)) _ (isIn_mem e)
    unfold set1 at this
    rw [hC] at this
    exact ⟨eq_of_beq (a1 this), a1 (a2 this), a1 (a2 (a2 this)), eq_of_beq (a2 (a2 (a2 this)))⟩
theorem putL_len (name : Str) (hs : Int) (k v : Value) : ∀ es : List DictEntry, (putL name hs k v es).length ≤ es.length + 1
  | [] => Nat.le_refl _
  | e :: r => by
    unfold putL
    split
    · exact Nat.le_succ _
    · exact Nat.succ_le_succ (putL_len name hs k v r)
theorem op_set {x C dx : Addr} {es : List DictEntry} {n a : Nat} {kvs : List (Str × Value)} {v : Value} {Q : Unit → Shared → Prop} (X : (mK w.params).In h) (I : InstAt h x (instObj C dx) C (some (dictOf es n))) (f : SetF w.params C a)
    (hp : Pairs (SK w) es kvs) (hn : (kvs.map (·.1)).Nodup) (hz : kvs.length < 900)
    (hQ : ∀ h' es' n' tk', Heap.SameBut dx h h' → h'.get? dx = some (dictOf es' n') → Pairs (SK w) es' (stored kvs (sN a) v) → Q () ⟨h', g, d, tk', os⟩) :
    wpAny (model pw w) A (setAttr (.ref x) (sN a) v) Q E ⟨h, g, d, tk, os⟩ := by
  have hget := getL_pairs (sN a) hp
  have hlen := pairs_len hp
  have D : h.get? dx = some (dictOf es n) := I.dict
  refine set_plain (s := ⟨h, g, d, tk, os⟩) X I f.s ?_
  refine osa_open (s := ⟨h, g, d, tk + 1, os⟩) X I f.p f.t fun b => ?_
  obtain ⟨cd, hc, hd'⟩ := any_some f.d
  refine wpAny_bind (wpAny_pure (wpAny_bind (wpAny_bind (wpAny_loadPart I.at_ (wpAny_bind ((looks_clsIn X hc).here ?_))))))
  rw [hd']
  refine wpAny_pure (a := some dx) (wpAny_bind (wpAny_pure (wpAny_bind ?_)))
  unfold nsSet
  refine wpAny_bind (wpAny_bind (wpAny_askSetting (wpAny_pure (wpAny_bind (wpAny_mkText (wpAny_bind (wpAny_loadPart D ?_)))))))
  have c : (!es.toArray.any (·.key.isStr (sN a)) && es.toArray.any (·.refKey)) = false := by
    rw [← Array.any_toList, ← Array.any_toList]
    unfold getL at hget
    split at hget
    · rename_i en he
      rw [List.any_eq_true.mpr ⟨en, List.mem_of_find?_eq_some he, List.find?_some he⟩]; rfl
    · split at hget
      · cases hget
      · rename_i z; rw [Bool.not_eq_true] at z; rw [z, Bool.and_false]
  show wpAny _ _ (if aRefKeyMayBeTheName (sN a) es.toArray = true then _ else _) _ _ _
  rw [aRefKeyMayBeTheName_at, c, if_neg Bool.false_ne_true]
  refine wpAny_updatePart D ?_
  have D' : (h.update dx (Obj.putName (sN a) (PyData.keyHash w.params (sN a)) (.str (sN a) (tk + 1)) v)).get? dx = some (dictOf (putL (sN a) (PyData.keyHash w.params (sN a)) (.str (sN a) (tk + 1)) v es) (putN (sN a) es n)) := by
    rw [Heap.get?_update_self _ D (by rw [putName_dict]; rfl), putName_dict]
  refine wpAny_bind (wpAny_lookBehind D' (by
    have := putL_len (sN a) (PyData.keyHash w.params (sN a)) (.str (sN a) (tk + 1)) v es
    exact pastItsLine_dict (by rw [List.size_toArray, sizeLine_eq]; lia)) ?_)
  refine wpAny_pure (hQ _ _ _ _ (Heap.SameBut.update ..) D' (putL_pairs _ _ _ _ hp hn))
theorem set_item {l : Addr} {o : Obj} {items : Array Value} {i : Int} {n : Nat} {t : Tok} {v : Value} {Q : Unit → Shared → Prop} (ho : h.get? l = some o) (hc : o.cls = .type "list") (hd : o.data = .seq items n) (h0 : 0 ≤ i) (hk : i < items.size) (hk' : i < 2 ^ 63)
    (hQ : ∀ h' o' n', Heap.SameBut l h h' → h'.get? l = some o' → o'.cls = .type "list" → (o'.dict = o.dict ∧ o'.slots = o.slots) → o'.data = .seq (items.setIfInBounds i.toNat v) n' → Q () ⟨h', g, d, tk, os⟩) :
    wpAny (model pw w) A (setItem (.ref l) (.int i t) v) Q E ⟨h, g, d, tk, os⟩ := by
  have hl : Heap.IsList (Shared.heap ⟨h, g, d, tk, os⟩) l items := ⟨o, ho, hc, n, hd⟩
  unfold setItem
  try with_reducible refine wpAny_holding ?_
  first | refine wpAny_bind (wpAny_pure ?_) | skip
  refine wpAny_bind (wpAny_sequenceKey hl.typeIs (by decide) ?_)
  refine wpAny_bind (wpAny_callSpecial?_slot (name := Str.ofString "__setitem__") hl.typeIs PySem.slot_list_setitem (wpAny_call_entry PySem.slot_list_setitem hl.typeIs PySem.entry_list_setitem ?_ (PySem.args_list_setitem _ _ _)))
  show wpAny _ _ (Builtin.List.listSubscript? (.int i t) >>= _) _ _ ⟨h, g, d, tk, os⟩
  refine wpAny_bind (wpAny_listSubscript_int (fitsIndex_of h0 hk') ?_)
  clear hk'
  obtain ⟨j, rfl⟩ := Int.eq_ofNat_of_zero_le h0
  have hj : j < items.size := by lia
  have hx : items[j]? = some items[j] := Array.getElem?_eq_getElem hj
  show wpAny _ _ ((seqItemAt l j >>= fun r => pure (r.map (j, ·))) >>= _) _ _ ⟨h, g, d, tk, os⟩
  refine wpAny_bind (wpAny_bind (wpAny_seqItemAt ho hd (wpAny_pure ?_)))
  rw [hx]
  show wpAny _ _ (setSeqItemAt l j v >>= _) _ _ ⟨h, g, d, tk, os⟩
  obtain ⟨n', hd'⟩ := Obj.data_mapSeq hd (·.setIfInBounds j v)
  refine wpAny_bind (wpAny_setSeqItemAt ho hd ?_)
  have fin := hQ (h.update l (Obj.mapSeq (·.setIfInBounds j v))) _ n' (Heap.SameBut.update ..) (Heap.get?_update_self _ ho (Obj.isFreed_of_seq hd')) ((Obj.cls_mapSeq ..).trans hc) (by obtain ⟨_, _, _, _⟩ := o; cases hd; exact ⟨rfl, rfl⟩) hd'
  first
    | exact wpAny_bind (wpAny_pure (wpAny_pure ⟨.none, rfl, wpAny_pure fin⟩))
    | exact wpAny_pure ⟨.none, rfl, wpAny_pure fin⟩
end
section
variable {w : World} {A : Around} {E : Value → Shared → Prop} {g : Array GenState} {d : Drawn} {tk : Nat} {os : OsState} {h : Heap}
theorem append_any {D : Addr} {o : Obj} {its : Array Value} {n : Nat} {x : Value} {Q : Value → Shared → Prop} (ho : h.get? D = some o) (hc : o.cls = .type "list") (hd : o.data = .seq its n)
    (hQ : ∀ h' o' n', Heap.SameBut D h h' → h'.get? D = some o' → o'.cls = .type "list" → (o'.dict = o.dict ∧ o'.slots = o.slots) → o'.data = .seq (its.push x) n' → Q .none ⟨h', g, d, tk, os⟩) (hsz : its.size ≤ sizeLine) :
    wpAny (model pw w) A (PySem.call (.builtin "list.append") [.ref D, x]) Q E ⟨h, g, d, tk, os⟩ := by
  refine wpAny_call_entry slot_list_append ⟨_, ho, hc⟩ entry_list_append ?_ (args_list_append _ _)
  show wpAny _ _ (updateSeq D (·.push x) >>= fun _ => ret .none) _ _ _
  obtain ⟨n', hd'⟩ := Obj.data_mapSeq hd (·.push x)
  refine wpAny_bind (wpAny_updateSeq ho hd (wpAny_pure ⟨.none, rfl, ?_⟩) hsz (by rw [Array.size_push]; lia))
  exact hQ _ _ n' (Heap.SameBut.update ..) (Heap.get?_update_self _ ho (Obj.isFreed_of_seq hd')) ((Obj.cls_mapSeq ..).trans hc) (by obtain ⟨_, _, _, _⟩ := o; cases hd; exact ⟨rfl, rfl⟩) hd'
theorem extend_any {D b : Addr} {o : Obj} {its its2 : Array Value} {n n2 : Nat} {Q : Value → Shared → Prop} (ho : h.get? D = some { cls := .type "list", data := .seq its n }) (hb : h.get? b = some o) (hc : o.cls = .type "list") (hd : o.data = .seq its2 n2)
    (hsz : its.size + its2.size ≤ sizeLine) (hQ : ∀ h' n', Heap.SameBut D h h' → h'.get? D = some { cls := .type "list", data := .seq (its ++ its2) n' } → Q .none ⟨h', g, d, tk, os⟩) :
    wpAny (model pw w) A (PySem.call (.builtin "list.extend") [.ref D, .ref b]) Q E ⟨h, g, d, tk, os⟩ := by
  refine wpAny_call_entry PySem.F.slot_list_extend ⟨_, ho, rfl⟩ PySem.F.entry_list_extend ?_ (PySem.F.args_list_extend_2 _ _)
  show wpAny _ _ (Builtin.List.listExtendWith (.ref D) (.ref b) .none) _ _ _
  unfold Builtin.List.listExtendWith
  refine wpAny_bind (wpAny_typeOf ⟨o, hb, hc⟩ ?_)
  have h1 : (Builtin.List.listSameRef (.ref D) (.ref b) || Value.type "list" == Value.type "list" || Value.type "list" == Value.type "tuple") = true := by simp
  simp only [h1, if_true]
  refine wpAny_bind ?_
  unfold Builtin.List.listItems
  refine wpAny_bind (wpAny_seqItems hb hd (wpAny_pure ?_))
  refine wpAny_bind ?_
  refine wpAny_bind (wpAny_seqItems ho rfl (wpAny_pure ?_))
  rw [if_neg (extend_door hsz)]
  show wpAny _ _ (updateSeq D (· ++ its2) >>= fun _ => ret .none) _ _ _
  refine wpAny_bind (wpAny_updateSeq ho rfl (wpAny_pure ⟨.none, rfl, ?_⟩) (by lia) (by rw [Array.size_append]; lia))
  exact hQ _ _ (Heap.SameBut.update ..) ((Heap.get?_update_self _ ho (by rw [mapSeq_app]; rfl)).trans (by rw [mapSeq_app]))
end
theorem RepD.merged {w : World} {fz : Fz} {hm : Hm} {fs es : List (Nat × T)} {kvs more : List (Str × Value)} (h : RepD w fz hm es kvs) (hn : (kvs.map (·.1)).Nodup) (r : RepD w fz hm fs more) : RepD w fz hm (fs.foldl (fun es p => pt es p.1 p.2) es) (merged kvs more) := by
  induction fs generalizing es kvs more with
  | nil => exact r.nil_e (P := fun more => RepD w fz hm es (PySem.merged kvs more)) h
  | cons p l ih => exact r.cons_e (P := fun more => RepD w fz hm (l.foldl (fun es p => pt es p.1 p.2) (pt es p.1 p.2)) (PySem.merged kvs more)) fun v more hk x r => ih (h.put hn hk x) (nodup_stored hn _ _) r
section
variable {c : Fx} {hB : Heap} {fzB : Fz} {hmB : Hm} {ρ ρ' : Rho} {m : Str → Option Value} {h h' : Heap} {fz fz' : Fz} {hm hm' : Hm} {σ σ' : Sg} {pv : Nat → List Addr} {tk : Nat} {E : Value → Shared → Prop} {n : Nat} {mg mb : Str → Option Value}
theorem SSt.cell {i : Nat} {cl : Cell} {p : Addr × Addr} {o : Obj} (S : SSt c hB fzB hmB ρ m h fz hm σ pv) (hi : i < σ.length) (hp : hm[i]? = some p) (hs : Heap.SameBut p.2 h h') (ho : h'.get? p.2 = some o) (r : CellO c.w fz hm p o cl) :
    SSt c hB fzB hmB ρ m h' fz hm (σ.set i cl) pv ∧ Ext h fz hm h' fz hm :=
  have x' := Ext.setCell fz hp hs (by rw [ho]; exact fun z => nomatch z)
  ⟨S.step (S.X.setCell hi hp hs ho r) x', x'⟩
theorem lt_of_get {α : Type} {l : List α} {i : Nat} {a : α} (e : l[i]? = some a) : i < l.length := (List.getElem?_eq_some_iff.mp e).1
theorem XS.setA {a : Nat} {s : Str} {o e : PySem.Expr} {ap p : Pos} {f g : Rho → Sg → (T → Sg → Prop) → Prop} (Z : Act c.w mg mb n c.A c.h₀ c.L) (hn : nmOk s a = true) (hc : isComp e = false) (x : ∀ ρ, SX (withR c ρ) (f ρ) (eval e c.env)) (y : ∀ ρ, SX (withR c ρ) (g ρ) (eval o c.env)) :
    XS c (fun ρ σ K => f ρ σ fun v σ => g ρ σ fun o σ => (match o with
      | .own i => (match σ[i]? with
        | some (.inst c fs) => (okA tab c a = true ∧ fs.length < 900) ∧ K .next ρ (σ.set i (.inst c (pt fs a v)))
        | _ => False)
      | _ => False)) (exec (.Assign [.Attribute o s ap] e p) c.env) := by
  intro hB fzB hmB ρ m h fz hm σ pv tk Q E K S k R
  obtain ⟨ha, rfl, _, _⟩ := nm_of hn
  refine plainObj_wpAny_Assign_Attribute (S.eval (x ρ) k fun t v h1 tk1 fz1 hm1 σ1 k1 r1 S1 x1 => ?_) (noSwap hc _ _ _)
  refine S1.eval (y ρ) k1 fun t2 v2 h2 tk2 fz2 hm2 σ2 k2 r2 S2 x2 => ?_
  revert r2
  refine own_m (t := t2) k2 fun i2 k2 r2 => r2.own_e fun p2 hi => cI_m k2 fun cl fs hcell k2 => ?_
  · · obtain ⟨o', ho, h0, C, es, nn, kvs, hC, hx, rfl, hp, hnd, hr⟩ := S2.X.cell _ _ _ hcell hi
      obtain ⟨⟨hok, hlen⟩, kk⟩ := k2
      have F2 := set_of hok c.w.params hC
      refine op_set (Z.X.keeps S2.F.keep) ⟨S2.X.fzo _ _ hx, rfl, rfl, ho⟩ F2 hp hnd (by rw [← hr.length]; exact hlen) fun h3 es' n' tk3 hs hg hp' => ?_
      obtain ⟨S3, x3⟩ := S2.cell (lt_of_get hcell) hi hs hg (cl := .inst cl (pt fs a t)) ⟨h0, C, es', n', _, hC, hx, rfl, hp', nodup_stored hnd _ _, hr.put hnd ha (x2.rep r1)⟩
      exact (((R.ext x1).ext x2).ext x3).1 _ _ _ _ _ _ _ _ kk S3 (Kp.refl ..)
theorem SSt.nameL {i : Nat} {lv : LV} {p : Pos} {Q : Value → Shared → Prop} (S : SSt c hB fzB hmB ρ m h fz hm σ pv) (hk : kindIs c.sc (sN i) .local = true) (hd : (sN i == ("__debug__" : Str)) = false) (hl : lk ρ i = some lv)
    (k : ∀ v, m (sN i) = some v → LvO c.w fz hm h v lv (pv i) → Q v (c.st h tk)) : wpAny (model pw c.w) c.A (PySem.eval (.Name (sN i) p) c.env) Q E (c.st h tk) := by
  obtain ⟨hi, v, hv, r⟩ := S.V _ _ hl
  exact wpAny_Name (wpAny_loadName_local (by rw [S.C.hsc]; exact S.C.kind) (kindL S.C hk) (by rw [S.C.loc]; exact S.F.ns) hv (k v hv r)) hd
theorem XS.setAL {i a : Nat} {s : Str} {o e : PySem.Expr} {ap p : Pos} {f : Rho → Sg → (T → Sg → Prop) → Prop} (Z : Act c.w mg mb n c.A c.h₀ c.L) (hn : nmOk s a = true) (ho : nameIs c.sc i o = true) (hc : isComp e = false) (x : ∀ ρ, SX (withR c ρ) (f ρ) (eval e c.env)) :
    XS c (fun ρ σ K => f ρ σ fun v σ => (match lk ρ i with
      | some (.i c fs) => (okA tab c a = true ∧ fs.length < 900) ∧ K .next (pt ρ i (.i c (pt fs a v))) σ
      | _ => False)) (exec (.Assign [.Attribute o s ap] e p) c.env) := by
  intro hB fzB hmB ρ m h fz hm σ pv tk Q E K S k R
  obtain ⟨ha, rfl, _, _⟩ := nm_of hn
  obtain ⟨pn, rfl, hi, hk, hd⟩ := nameIs_of ho
  refine plainObj_wpAny_Assign_Attribute (S.eval (x ρ) k fun t v h1 tk1 fz1 hm1 σ1 k1 r1 S1 x1 => ?_) (noSwap hc _ _ _)
  refine lvi_m k1 fun cl fs hl k1 => ?_
  · refine S1.nameL hk hd hl fun vv hv lv => ?_
    obtain ⟨xx, dx, C, es, nn, kvs, rfl, hpv, h0, hC, hx, hdx, hp, hnd, hr⟩ := lv
    obtain ⟨⟨hok, hlen⟩, kk⟩ := k1
    have F2 := set_of hok c.w.params hC
    have dm : dx ∈ pv i := by rw [hpv]; exact .head _
    refine op_set (Z.X.keeps S1.F.keep) ⟨S1.X.fzo _ _ hx, rfl, rfl, hdx⟩ F2 hp hnd (by rw [← hr.length]; exact hlen) fun h3 es' n' tk3 hs hg hp' => ?_
    have S3 := S1.change (lv := .i cl (pt fs a t)) dm hi hv hs (by rw [hg]; exact fun z => nomatch z) ⟨xx, dx, C, es', n', _, rfl, hpv, h0, hC, hx, hg, hp', nodup_stored hnd _ _, hr.put hnd ha r1⟩
    exact (R.ext x1).1 _ _ _ _ _ _ _ _ kk S3 ((Kp.refl ..).change dm hs)
theorem RepL.setA {w : World} {l : List T} {its : Array Value} {k : Nat} {t : T} {v : Value} (h : RepL w fz hm l its.toList) (r : Rep w fz hm t v) : RepL w fz hm (l.set k t) (its.setIfInBounds k v).toList := by
  rw [Array.toList_setIfInBounds]; exact h.set k r
theorem setS_t {o j : T} {σ : Sg} {A : Nat → Nat → List T → Prop} {B : Nat → Nat → List (Nat × T) → Prop} (h : match o, j with
      | .own i, .int (.ofNat k) => (match σ[i]? with
        | some (.lst l) => A i k l
        | _ => False)
      | .own i, .sym s => (match σ[i]? with
        | some (.dct es) => B i s es
        | _ => False)
      | _, _ => False) : (∃ i k l, o = .own i ∧ j = .int (.ofNat k) ∧ σ[i]? = some (.lst l) ∧ A i k l) ∨ ∃ i s es, o = .own i ∧ j = .sym s ∧ σ[i]? = some (.dct es) ∧ B i s es := by
  cases o with
  | own i => cases j with
    | int k => cases k with
      | ofNat k => exact cL_m h fun l e h => .inl ⟨i, k, l, rfl, rfl, e, h⟩
      | negSucc _ => exact h.elim
    | sym s => exact cD_m h fun l e h => .inr ⟨i, s, l, rfl, rfl, e, h⟩
    | _ => exact h.elim
  | _ => exact h.elim
theorem XS.setS {o j e : PySem.Expr} {ap p : Pos} {f g f' : Rho → Sg → (T → Sg → Prop) → Prop} (Z : Act c.w mg mb n c.A c.h₀ c.L) (hc : isComp e = false) (x : ∀ ρ, SX (withR c ρ) (f ρ) (eval e c.env)) (y : ∀ ρ, SX (withR c ρ) (g ρ) (eval o c.env)) (z : ∀ ρ, SX (withR c ρ) (f' ρ) (eval j c.env)) :
    XS c (fun ρ σ K => f ρ σ fun v σ => g ρ σ fun o σ => f' ρ σ fun j σ => (match o, j with
      | .own i, .int (.ofNat k) => (match σ[i]? with
        | some (.lst l) => (k < l.length ∧ k < 1000000) ∧ K .next ρ (σ.set i (.lst (l.set k v)))
        | _ => False)
      | .own i, .sym s => (match σ[i]? with
        | some (.dct es) => es.length < 1000 ∧ K .next ρ (σ.set i (.dct (pt es s v)))
        | _ => False)
      | _, _ => False)) (exec (.Assign [.Subscript o j ap] e p) c.env) := by
  intro hB fzB hmB ρ m h fz hm σ pv tk Q E K S k R
  refine wpAny_Assign_Subscript (S.eval (x ρ) k fun t v h1 tk1 fz1 hm1 σ1 k1 r1 S1 x1 => ?_) (noSwap hc _ _ _)
  refine S1.eval (y ρ) k1 fun t2 v2 h2 tk2 fz2 hm2 σ2 k2 r2 S2 x2 => ?_
  refine S2.eval (z ρ) k2 fun t3 v3 h3 tk3 fz3 hm3 σ3 k3 r3 S3 x3 => ?_
  have r1' := (x2.trans x3).rep r1
  have r2' := x3.rep r2
  rcases setS_t k3 with ⟨i, kk, l, rfl, rfl, hcell, k4⟩ | ⟨i, ss, es, rfl, rfl, hcell, k4⟩
  · refine r2'.own_e fun po hi => r3.int_e fun t4 => ?_
    ·   · obtain ⟨o', ho, hpp, hcl, vs, nn, hd, hr, hnd⟩ := S3.X.cell _ _ _ hcell hi
          have hsz := hr.size
          rw [hpp]
          · refine set_item ho hcl hd (i0 kk) (by have := k4.1.1; rw [hsz]; exact Int.ofNat_lt.mpr this) (i63 k4.1.2) fun h4 o4 n4 hs hg q1 q2 q3 => ?_
            obtain ⟨S4, x4⟩ := S3.cell (lt_of_get hcell) hi hs hg (cl := .lst (l.set kk t)) ⟨hpp, q1, _, n4, q3, hr.setA r1', q2.1.trans hnd.1, q2.2.trans hnd.2⟩
            exact ((((R.ext x1).ext x2).ext x3).ext x4).1 _ _ _ _ _ _ _ _ k4.2 S4 (Kp.refl ..)
  · refine r2'.own_e fun po hi => r3.sym_e fun t4 hs' => ?_
    ·   · obtain ⟨o', ho, hpp, h0, kvs, hd, hr⟩ := S3.X.cell _ _ _ hcell hi
          rw [hpp]
          have hD := Heap.dictOf_iff.mpr ⟨o', ho, hd⟩
          have hno : (kvs.map (·.1)).Nodup := by obtain ⟨_, _, _, _, _, _, _, _, hn⟩ := hD; exact hn
          refine wpAny_setItem_pairs (knd := SK c.w) (k := sN ss) (strKind_is _ _ _ _) hD (fun h4 hm4 hs => ?_) (by clear k k1 k2 k3; rw [← hr.length, sizeLine_eq]; have := k4.1; lia)
          obtain ⟨o4, ho4, hd4⟩ := Heap.dictOf_iff.mp hm4
          obtain ⟨S4, x4⟩ := S3.cell (lt_of_get hcell) hi hs ho4 (cl := .dct (pt es ss t)) ⟨hpp, h0, _, hd4, hr.put hno hs' r1'⟩
          exact ((((R.ext x1).ext x2).ext x3).ext x4).1 _ _ _ _ _ _ _ _ k4.2 S4 (Kp.refl ..)
end
section
variable {c : Fx} {hB : Heap} {fzB : Fz} {hmB : Hm} {ρ ρ' : Rho} {m : Str → Option Value} {h h' : Heap} {fz fz' : Fz} {hm hm' : Hm} {σ σ' : Sg} {pv : Nat → List Addr} {tk : Nat} {E : Value → Shared → Prop} {n : Nat} {mg mb : Str → Option Value}
theorem dict_nodup {w : World} {h : Heap} {a : Addr} {kvs : List (Str × Value)} (hD : h.DictOf (SK w) a kvs) : (kvs.map (·.1)).Nodup := by obtain ⟨_, _, _, _, _, _, _, _, hn⟩ := hD; exact hn
theorem XS.putD {i : Nat} {o j e : PySem.Expr} {ap p : Pos} {f f' : Rho → Sg → (T → Sg → Prop) → Prop} (ho : nameIs c.sc i o = true) (hc : isComp e = false) (x : ∀ ρ, SX (withR c ρ) (f ρ) (eval e c.env)) (z : ∀ ρ, SX (withR c ρ) (f' ρ) (eval j c.env)) :
    XS c (fun ρ σ K => f ρ σ fun v σ => (match lk ρ i with
      | some (.d es) => f' ρ σ fun k σ => (match k with
        | .sym s => es.length < 1000 ∧ K .next (pt ρ i (.d (pt es s v))) σ
        | _ => False)
      | _ => False)) (exec (.Assign [.Subscript o j ap] e p) c.env) := by
  intro hB fzB hmB ρ m h fz hm σ pv tk Q E K S k R
  obtain ⟨pn, rfl, hi, hk, hd⟩ := nameIs_of ho
  refine wpAny_Assign_Subscript (S.eval (x ρ) k fun t v h1 tk1 fz1 hm1 σ1 k1 r1 S1 x1 => ?_) (noSwap hc _ _ _)
  refine lvd_m k1 fun es hl k1 => ?_
  · refine S1.nameL hk hd hl fun vv hv lvo => ?_
    refine S1.eval (z ρ) k1 fun t3 v3 h3 tk3 fz3 hm3 σ3 k3 r3 S3 x3 => ?_
    revert r3
    refine sym_m (t := t3) k3 fun ss k3 r3 => r3.sym_e fun t4 hs' => ?_
    · obtain ⟨_, v', hv', lvo'⟩ := S3.V _ _ hl
      rw [hv] at hv'; cases hv'
      obtain ⟨D, o, kvs, rfl, hpv, hD0, hS, hdo, hr⟩ := lvo'
      have hD := Heap.dictOf_iff.mpr ⟨o, hD0, hdo⟩
      have dm : D ∈ pv i := by rw [hpv]; exact .head _
      refine wpAny_setItem_pairs (knd := SK c.w) (k := sN ss) (strKind_is _ _ _ _) hD (fun h4 hm4 hs => ?_) (by rw [← hr.length, sizeLine_eq]; have := k3.1; omega)
      obtain ⟨o4, ho4, hd4⟩ := Heap.dictOf_iff.mp hm4
      have S4 := S3.change (lv := .d (pt es ss t)) dm hi hv hs (by rw [ho4]; exact fun z => nomatch z) ⟨D, o4, _, rfl, hpv, ho4, hS, hd4, hr.put (dict_nodup hD) hs' (x3.rep r1)⟩
      exact ((R.ext x1).ext x3).1 _ _ _ _ _ _ _ _ k3.2 S4 ((Kp.refl ..).change dm hs)
structure MethN (w : String) (i : Nat) (sc : Scope) (apos pos : Pos) (o : PySem.Expr) (s : Str) : Prop where
  name : s = Str.ofString w
  line : (apos.endLine == pos.line) = true
  obj : nameIs sc i o = true
theorem meth_is {w : String} {i : Nat} {sc : Scope} {apos pos : Pos} {o : PySem.Expr} {s : Str} (e : methIs w i sc apos pos o s = true) : MethN w i sc apos pos o s := by
  exact ⟨eq_of_beq (a1 e), a1 (a2 e), a2 (a2 e)⟩
theorem noStar1 {e : PySem.Expr} (env : Env) (p : Pos) (he : isStar e = false) : (backTo p (starEach [e] env)).any (·.1) = false ∧ (backTo p (starEach [e] env)).all (!·.1) = true :=
  noStar env p (f := fun _ _ => true) (l := [.bad]) (es := [e]) (by show (!(isStar e) && (true && true)) = true; rw [he]; rfl)
theorem own_meth {i : Nat} {lv : LV} {mw bw : String} {o e : PySem.Expr} {s : Str} {apos pos p : Pos} {f : Rho → Sg → (T → Sg → Prop) → Prop} {K : T → Sg → Prop} {Q : Flow → Shared → Prop} (M : MethN mw i c.sc apos pos o s) (he : isStar e = false) (hl : lk ρ i = some lv)
    (x : ∀ ρ, SX (withR c ρ) (f ρ) (eval e c.env)) (S : SSt c hB fzB hmB ρ m h fz hm σ pv) (k : f ρ σ K) (hkb : ∀ h, Kept (model pw c.w) h (.builtin bw))
    (hg : ∀ v, LvO c.w fz hm h v lv (pv i) → ∀ (Q : Value × List Value → Shared → Prop) (pl : Sem Bool), Q (.builtin bw, [v]) (c.st h tk) → wpAny (model pw c.w) c.A (getMethod v (Str.ofString mw) pl) Q E (c.st h tk))
    (go : ∀ v t a h1 tk1 fz1 hm1 σ1, m (sN i) = some v → K t σ1 → Rep c.w fz1 hm1 t a → LvO c.w fz1 hm1 h1 v lv (pv i) → SSt c hB fzB hmB ρ m h1 fz1 hm1 σ1 pv → Ext h fz hm h1 fz1 hm1 → wpAny (model pw c.w) c.A (PySem.call (.builtin bw) [v, a]) (fun r s' => r = .none ∧ Q .next s') E (c.st h1 tk1)) :
    wpAny (model pw c.w) c.A (exec (.Expr (.Call (.Attribute o s apos) [e] [] pos) p) c.env) Q E (c.st h tk) := by
  obtain ⟨rfl, hline, ho⟩ := M
  obtain ⟨pn, rfl, hi, hk, hd⟩ := nameIs_of ho
  refine wpAny_Expr ?_ (by unfold interactive; rw [S.C.hsc, S.C.kind]; rfl) rfl
  refine meth_call hline rfl (by show 1 < 30; decide) (noStar1 c.env pos he).2 (S.nameL hk hd hl fun v hv lvo pl => ?_)
  refine hg v lvo _ pl ?_
  refine callW (first := [v]) (noStar1 c.env pos he).1 (args_cons (S.eval (x ρ) k fun t a h1 tk1 fz1 hm1 σ1 k1 r1 S1 x1 => ?_) (starEach_cons he))
  refine spliced_none ⟨hkb _, ?_⟩
  obtain ⟨_, v', hv', lvo'⟩ := S1.V _ _ hl
  rw [hv] at hv'; cases hv'
  refine wpAny_mono (go v t a h1 tk1 fz1 hm1 σ1 hv k1 r1 lvo' S1 x1) (fun r s' hr => ?_) fun _ _ e => e
  obtain ⟨rfl, hq⟩ := hr
  exact hq
theorem kept_b (M : Model) (b : String) (h : Heap) (e : keeperOf (.builtin b) = pure .machine) : Kept M h (.builtin b) := ⟨.machine, .inr (.inl rfl), Looks.of_pure e⟩
theorem XS.app {i : Nat} {o e : PySem.Expr} {s : Str} {apos pos p : Pos} {f : Rho → Sg → (T → Sg → Prop) → Prop} (M : MethN "append" i c.sc apos pos o s) (he : isStar e = false) (x : ∀ ρ, SX (withR c ρ) (f ρ) (eval e c.env)) :
    XS c (fun ρ σ K => (match lk ρ i with
      | some (.l xs) => f ρ σ fun v σ => xs.length < 1000000 ∧ K .next (pt ρ i (.l (xs ++ [v]))) σ
      | _ => False)) (exec (.Expr (.Call (.Attribute o s apos) [e] [] pos) p) c.env) := by
  intro hB fzB hmB ρ m h fz hm σ pv tk Q E K S k R
  refine lvl_m k fun xs hl k => ?_
  · obtain ⟨pn, rfl, hi, hk, hd⟩ := nameIs_of M.obj
    refine own_meth (mw := "append") (bw := "list.append") M he hl x S k (fun h => kept_b _ _ h rfl) (fun v lvo Q pl hq => ?_) fun v t a h1 tk1 fz1 hm1 σ1 hv k1 r1 lvo S1 x1 => ?_
    · obtain ⟨D, ys, nn, rfl, hpv, hD, hr⟩ := lvo
      exact Calls.getMethod_list_append hD rfl rfl hq
    · obtain ⟨D, ys, nn, rfl, hpv, hD, hr⟩ := lvo
      have dm : D ∈ pv i := by rw [hpv]; exact .head _
      have hsz := hr.size
      refine append_at hD (fun h2 hs ho => ⟨rfl, ?_⟩) (by rw [hsz, sizeLine_eq]; have := k1.1; omega)
      have S2 := S1.change (lv := .l (xs ++ [t])) dm hi hv hs (by rw [ho]; exact fun z => nomatch z) ⟨D, _, _, rfl, hpv, ho, by rw [Array.toList_push]; exact hr.append (.cons r1 .nil)⟩
      exact (R.ext x1).1 _ _ _ _ _ _ _ _ k1.2 S2 ((Kp.refl ..).change dm hs)
theorem XS.ext {i : Nat} {o e : PySem.Expr} {s : Str} {apos pos p : Pos} {f : Rho → Sg → (T → Sg → Prop) → Prop} (M : MethN "extend" i c.sc apos pos o s) (he : isStar e = false) (x : ∀ ρ, SX (withR c ρ) (f ρ) (eval e c.env)) :
    XS c (fun ρ σ K => (match lk ρ i with
      | some (.l xs) => f ρ σ fun v σ => (match v with
        | .lst l => xs.length + l.length < 1000000 ∧ K .next (pt ρ i (.l (xs ++ l))) σ
        | _ => False)
      | _ => False)) (exec (.Expr (.Call (.Attribute o s apos) [e] [] pos) p) c.env) := by
  intro hB fzB hmB ρ m h fz hm σ pv tk Q E K S k R
  refine lvl_m k fun xs hl k => ?_
  · obtain ⟨pn, rfl, hi, hk, hd⟩ := nameIs_of M.obj
    refine own_meth (mw := "extend") (bw := "list.extend") M he hl x S k (fun h => kept_b _ _ h rfl) (fun v lvo Q pl hq => ?_) fun v t a h1 tk1 fz1 hm1 σ1 hv k1 r1 lvo S1 x1 => ?_
    · obtain ⟨D, ys, nn, rfl, hpv, hD, hr⟩ := lvo
      exact getMethod_builtin ⟨_, hD, rfl⟩ PySem.F.plainAttrs_list PySem.F.slot_list_extend PySem.F.type_list_extend (fun a e => by cases e; exact ⟨_, hD, rfl⟩) hq
    · obtain ⟨D, ys, nn, rfl, hpv, hD, hr⟩ := lvo
      have dm : D ∈ pv i := by rw [hpv]; exact .head _
      have hsz := hr.size
      revert r1
      refine lst_m (t := t) k1 fun l k1 r1 => r1.lst_e fun b ob its2 n2 b1 b2 b3 b4 => ?_
      · have hsz2 := b4.size
        refine extend_any hD (S1.X.fzo _ _ b1) b2 b3 (by rw [hsz, hsz2, sizeLine_eq]; have := k1.1; omega) fun h2 n' hs ho => ⟨rfl, ?_⟩
        have S2 := S1.change (lv := .l (xs ++ l)) dm hi hv hs (by rw [ho]; exact fun z => nomatch z) ⟨D, _, _, rfl, hpv, ho, by rw [Array.toList_append]; exact hr.append b4⟩
        exact (R.ext x1).1 _ _ _ _ _ _ _ _ k1.2 S2 ((Kp.refl ..).change dm hs)
theorem XS.upd {i : Nat} {o e : PySem.Expr} {s : Str} {apos pos p : Pos} {f : Rho → Sg → (T → Sg → Prop) → Prop} (M : MethN "update" i c.sc apos pos o s) (he : isStar e = false) (x : ∀ ρ, SX (withR c ρ) (f ρ) (eval e c.env)) :
    XS c (fun ρ σ K => (match lk ρ i with
      | some (.d es) => f ρ σ fun v σ => (match v with
        | .dct fs => es.length + fs.length < 1000 ∧ K .next (pt ρ i (.d (fs.foldl (fun es p => pt es p.1 p.2) es))) σ
        | _ => False)
      | _ => False)) (exec (.Expr (.Call (.Attribute o s apos) [e] [] pos) p) c.env) := by
  intro hB fzB hmB ρ m h fz hm σ pv tk Q E K S k R
  refine lvd_m k fun es hl k => ?_
  · obtain ⟨pn, rfl, hi, hk, hd⟩ := nameIs_of M.obj
    refine own_meth (mw := "update") (bw := "dict.update") M he hl x S k (fun h => kept_b _ _ h rfl) (fun v lvo Q pl hq => ?_) fun v t a h1 tk1 fz1 hm1 σ1 hv k1 r1 lvo S1 x1 => ?_
    · obtain ⟨D, o, kvs, rfl, hpv, hD, hS, hdo, hr⟩ := lvo
      have hD' := Heap.dictOf_iff.mpr ⟨o, hD, hdo⟩
      exact getMethod_builtin (hD'.typeIs (s := c.st h tk)) PySem.F.plainAttrs_dict PySem.F.slot_dict_update PySem.F.type_dict_update hD'.mapOf.noDict hq
    · obtain ⟨D, o, kvs, rfl, hpv, hD, hS, hdo, hr⟩ := lvo
      have hD' := Heap.dictOf_iff.mpr ⟨o, hD, hdo⟩
      have dm : D ∈ pv i := by rw [hpv]; exact .head _
      revert r1
      refine dct_m (t := t) k1 fun fs k1 r1 => r1.dct_e fun b ob more b1 b0 b2 b3 => ?_
      · have hne : D ≠ b := fun q => (S1.P i D dm).1.fz ob (q ▸ b1)
        refine call_meetsIn PySem.F.slot_dict_update (hD'.typeIs (s := c.st h1 tk1)) PySem.F.entry_dict_update (PySem.F.args_dict_update_2 _ _) (meets_dict_update (SK c.w) D b hne b0)
          ⟨kvs, more, hD', Heap.dictOf_iff.mpr ⟨_, S1.X.fzo _ _ b1, b2⟩, by rw [← hr.length, ← b3.length, sizeLine_eq]; have := k1.1; omega, fun h2 hmm _ hs => ⟨rfl, ?_⟩⟩
        obtain ⟨o', ho', hd'⟩ := Heap.dictOf_iff.mp hmm
        have S2 := S1.change (lv := .d (fs.foldl (fun es p => pt es p.1 p.2) es)) dm hi hv hs (by rw [ho']; exact fun z => nomatch z) ⟨D, o', _, rfl, hpv, ho', hS, hd', hr.merged (dict_nodup hD') b3⟩
        exact (R.ext x1).1 _ _ _ _ _ _ _ _ k1.2 S2 ((Kp.refl ..).change dm hs)
theorem XS.appC {o e : PySem.Expr} {s : Str} {apos pos p : Pos} {f g : Rho → Sg → (T → Sg → Prop) → Prop} (hs : s = Str.ofString "append") (hl : (apos.endLine == pos.line) = true) (hb : plainBase o = true) (he : isStar e = false)
    (y : ∀ ρ, SX (withR c ρ) (g ρ) (eval o c.env)) (x : ∀ ρ, SX (withR c ρ) (f ρ) (eval e c.env)) :
    XS c (fun ρ σ K => g ρ σ fun o σ => (match o with
      | .own i => (match σ[i]? with
        | some (.lst _) => f ρ σ fun v σ => (match σ[i]? with
          | some (.lst l) => l.length < 1000000 ∧ K .next ρ (σ.set i (.lst (l ++ [v])))
          | _ => False)
        | _ => False)
      | _ => False)) (exec (.Expr (.Call (.Attribute o s apos) [e] [] pos) p) c.env) := by
  intro hB fzB hmB ρ m h fz hm σ pv tk Q E K S k R
  subst hs
  refine wpAny_Expr ?_ (by unfold interactive; rw [S.C.hsc, S.C.kind]; rfl) rfl
  refine meth_call hl hb (by show 1 < 30; decide) (noStar1 c.env pos he).2 (S.eval (y ρ) k fun t v h1 tk1 fz1 hm1 σ1 k1 r1 S1 x1 pl => ?_)
  revert r1
  refine own_m (t := t) k1 fun io k1 r1 => r1.own_e fun po hi => cL_m k1 fun l0 hcell k1 => ?_
  · · obtain ⟨o', ho, hpp, hcl, vs, nn, hd, hr, hnd⟩ := S1.X.cell _ _ _ hcell hi
      rw [hpp]
      refine Calls.getMethod_list_append ho hcl hnd.1 ?_
      refine callW (noStar1 c.env pos he).1 (args_cons (S1.eval (x ρ) k1 fun t2 a h2 tk2 fz2 hm2 σ2 k2 r2 S2 x2 => ?_) (starEach_cons he))
      refine spliced_none ⟨kept_b _ _ _ rfl, ?_⟩
      refine cL_m k2 fun l hcell2 k2 => ?_
      · have hi2 := x2.hmi _ _ hi
        obtain ⟨o2, ho2, hpp2, hcl2, vs2, nn2, hd2, hr2, hnd2⟩ := S2.X.cell _ _ _ hcell2 hi2
        have hsz := hr2.size
        refine append_any ho2 hcl2 hd2 (fun h3 o3 n3 hs ho3 q1 q2 q3 => ?_) (by rw [hsz, sizeLine_eq]; have := k2.1; omega)
        obtain ⟨S3, x3⟩ := S2.cell (lt_of_get hcell2) hi2 hs ho3 (cl := .lst (l ++ [t2])) ⟨hpp2, q1, _, n3, q3, by rw [Array.toList_push]; exact hr2.append (.cons r2 .nil), q2.1.trans hnd2.1, q2.2.trans hnd2.2⟩
        exact (((R.ext x1).ext x2).ext x3).1 _ _ _ _ _ _ _ _ k2.2 S3 (Kp.refl ..)
end
section
variable {w : World} {h₀ h h' : Heap} {L : Addr} {fz fz' : Fz} {hm hm' : Hm} {σ : Sg} {m : Str → Option Value} {ws : List Addr}
theorem W.side (X : W w h₀ L h fz hm σ) (hk : ∀ b o, b ∉ ws → h.get? b = some o → h'.get? b = some o) (hn : ∀ a ∈ ws, ¬ Mt hm a) (hf : ∀ a ∈ ws, ∀ o, ¬ fz a o) : W w h₀ L h' fz hm σ := by
  refine ⟨X.len, fun b p e => ?_, X.fzm, X.nd, fun i c p e1 e2 => ?_, X.mt, fun k b e => ?_⟩
  · exact hk _ _ (fun q => hf _ q p e) (X.fzo _ _ e)
  · obtain ⟨o, g, r⟩ := X.cell i c p e1 e2
    exact ⟨o, hk _ _ (fun q => hn _ q (X.cell_mt e2)) g, r⟩
  · obtain ⟨o, g, r⟩ := X.tab k b e
    exact ⟨o, hk _ _ (fun q => hn _ q (.inr (List.mem_of_getElem? e))) g, r⟩
theorem Ext.side {h'' : Heap} (x : Ext h fz hm h' fz' hm') (hk : ∀ b o, b ∉ ws → h'.get? b = some o → h''.get? b = some o) (hn : ∀ a ∈ ws, h.get? a = none) : Ext h fz hm h'' fz' hm' := by
  refine ⟨fun b o e q => hk _ _ (fun z => by rw [hn _ z] at e; cases e) (x.keep b o e q), x.sub, x.new, x.hmx, fun b e => ?_⟩
  by_cases q : b ∈ ws
  · exact hn _ q
  · refine x.dom b ?_
    cases z : h'.get? b with
    | none => rfl
    | some o => rw [hk _ _ q z] at e; cases e
end
section
variable {c : Fx} {hB hs : Heap} {fzB fzs : Fz} {hmB hms : Hm} {ρ ρ' : Rho} {m : Str → Option Value} {h h' : Heap} {fz fz' : Fz} {hm hm' : Hm} {σ σ' : Sg} {pv pvs : Nat → List Addr} {tk : Nat} {E : Value → Shared → Prop} {n : Nat} {mg mb : Str → Option Value} {ws : List Addr}
structure Aside (c : Fx) (hB hs : Heap) (h : Heap) (fz : Fz) (hm : Hm) (pv : Nat → List Addr) (a : Addr) : Prop where
  p : Priv h fz hm a
  L : a ≠ c.L
  v : ∀ i, a ∉ pv i
  s : hs.get? a = none
  b : hB.get? a = none
theorem SSt.side (S : SSt c hB fzB hmB ρ m h fz hm σ pv) (hk : ∀ b o, b ∉ ws → h.get? b = some o → h'.get? b = some o) (hw : ∀ a ∈ ws, Priv h fz hm a ∧ a ≠ c.L ∧ (∀ i, a ∉ pv i) ∧ hB.get? a = none) : SSt c hB fzB hmB ρ m h' fz hm σ pv := by
  have X' := S.X.side hk (fun a ha => (hw a ha).1.mt) fun a ha => (hw a ha).1.fz
  have mv : ∀ {a : Addr}, Priv h fz hm a → a ∉ ws → Priv h' fz hm a := fun {a} p q => p.at (by
    cases e : h.get? a with
    | none => exact absurd e p.live
    | some o => rw [hk _ _ q e]; exact fun z => nomatch z)
  have hL : c.L ∉ ws := fun q => (hw _ q).2.1 rfl
  refine ⟨⟨S.F.ns.at' fun o e => hk _ _ hL e, fun b o e => hk _ _ (fun q => ?_) (S.F.keep _ _ e), S.F.above⟩, X', S.x.side hk fun a ha => (hw a ha).2.2.2, S.C, fun i lv e => let ⟨a, v, b, d⟩ := S.V i lv e; ⟨a, v, b, d.move (fun a o ha e => hk _ _ (fun q => (hw _ q).2.2.1 i ha) e) (fun _ _ e => e) fun _ _ e => e⟩,
    fun i a ha => let ⟨p, q⟩ := S.P i a ha; ⟨mv p fun q => (hw _ q).2.2.1 i ha, q⟩, S.D, ⟨mv S.L.1 hL, S.L.2⟩, S.B, fun s a h1 h2 h3 => let ⟨p, o, v, e1, e2⟩ := S.O s a h1 h2 h3; ⟨p, o, v, hk _ _ (fun q => (hw _ q).2.2.1 nsz p) e1, e2⟩⟩
  rw [S.B _ (hw _ q).2.2.2] at e; cases e
theorem Kp.side (k : Kp c hs fzs hms pvs h fz hm pv) (hk : ∀ b o, b ∉ ws → h.get? b = some o → h'.get? b = some o) (hw : ∀ a ∈ ws, hs.get? a = none) : Kp c hs fzs hms pvs h' fz hm pv :=
  ⟨fun b o e p hL q => by
    obtain ⟨e', p', q'⟩ := k.keep b o e p hL q
    have e'' := hk b o (fun z => by rw [hw _ z] at e; cases e) e'
    exact ⟨e'', p'.at (by rw [e'']; exact fun z => nomatch z), q'⟩, k.sub, k.hmi⟩
theorem Aside.kp (a : Addr) (p : Aside c hB hs h fz hm pv a) {pv' : Nat → List Addr} (k : Kp c h fz hm pv h' fz' hm' pv') : Aside c hB hs h' fz' hm' pv' a ∧ ∀ o, h.get? a = some o → h'.get? a = some o := by
  cases e : h.get? a with
  | none => exact absurd e p.p.live
  | some o =>
    obtain ⟨e', p', q'⟩ := k.keep a o e p.p p.L p.v
    exact ⟨⟨p', p.L, q', p.s, p.b⟩, fun o' z => by cases z; exact e'⟩
theorem assign_one {Q : Unit → Shared → Prop} {is : List Nat} {one : Bool} {e : PySem.Expr} {t : T} {v : Value} (Z : Act c.w mg mb n c.A c.h₀ c.L) (ht : tgtOk c.sc is one e = true) (r : Rep c.w fz hm t v) (hb : bindOne is one t ρ = some ρ')
    (S : SSt c hB fzB hmB ρ m h fz hm σ pv) (k : ∀ m' h' pv' tk', SSt c hB fzB hmB ρ' m' h' fz hm σ pv' → Kp c h fz hm pv h' fz hm pv' → Q () (c.st h' tk')) : wpAny (model pw c.w) c.A (assign e c.env v) Q E (c.st h tk) := by
  cases one with
  | true =>
    obtain ⟨i, rfl, ht⟩ := on1_t (l := is) ht
    obtain ⟨p, rfl, hi, hk, hd⟩ := nameIs_of ht
    cases hb
    exact PyProof.Rows.assign_Name (S.bindT hi hk r fun m' h' pv' S' k' => k m' h' pv' _ S' k')
  | false =>
    obtain ⟨l, rfl, hb⟩ := bindOne_f hb
    exact onTup_e (z := e) ht fun es kk pos ht => unpk_ok Z (a1 ht) r (.inl rfl) hb S k
inductive ForI (c : Fx) (hB : Heap) (fzB : Fz) (hmB : Hm) (hs : Heap) (fzs : Fz) (hms : Hm) (pvs : Nat → List Addr) (J : Nat → Heap → Fz → Hm → (Nat → List Addr) → Prop) (l : List T) (F : T → Rho → Sg → (Fl → Rho → Sg → Prop) → Prop) (K : Fl → Rho → Sg → Prop) (k : Nat) (s' : Shared) : Prop
  | mk (ρ' : Rho) (m' : Str → Option Value) (h' : Heap) (fz' : Fz) (hm' : Hm) (σ' : Sg) (pv' : Nat → List Addr) (tk' j : Nat) : s' = c.st h' tk' → j ≤ l.length → k = l.length + 1 - j → SSt c hB fzB hmB ρ' m' h' fz' hm' σ' pv' → J j h' fz' hm' pv' → Kp c hs fzs hms pvs h' fz' hm' pv' → forL F (l.drop j) ρ' σ' K →
    ForI c hB fzB hmB hs fzs hms pvs J l F K k s'
noncomputable def loopK (N : Rho → Sg → Prop) (K : Fl → Rho → Sg → Prop) : Fl → Rho → Sg → Prop := fun fl ρ σ => match fl with
  | .next => N ρ σ
  | .cont => N ρ σ
  | .ret v => K (.ret v) ρ σ
theorem for_core {target : PySem.Expr} {body : List Stmt} {is : List Nat} {one : Bool} {it : Value} {l : List T} {g : Rho → Sg → (Fl → Rho → Sg → Prop) → Prop} {K : Fl → Rho → Sg → Prop} {Q : Flow → Shared → Prop}
    (J : Nat → Heap → Fz → Hm → (Nat → List Addr) → Prop) (Z : Act c.w mg mb n c.A c.h₀ c.L) (ht : tgtOk c.sc is one target = true) (B : XS c g (execs body c.env)) (R : RS c hB fzB hmB hs fzs hms pvs Q K)
    (stab : ∀ j h fz hm pv h' fz' hm' pv' σ σ', J j h fz hm pv → Kp c h fz hm pv h' fz' hm' pv' → W c.w c.h₀ c.L h fz hm σ → W c.w c.h₀ c.L h' fz' hm' σ' → (∀ b o, c.h₀.get? b = some o → h.get? b = some o) → (∀ b o, c.h₀.get? b = some o → h'.get? b = some o) → J j h' fz' hm' pv')
    (adv : ∀ j t ρ' m' h' fz' hm' σ' pv' tk (Q : Value → Shared → Prop) (E : Value → Shared → Prop), l[j]? = some t → SSt c hB fzB hmB ρ' m' h' fz' hm' σ' pv' → J j h' fz' hm' pv' → Kp c hs fzs hms pvs h' fz' hm' pv' →
      (∀ v h2 tk2 fz2, SSt c hB fzB hmB ρ' m' h2 fz2 hm' σ' pv' → J (j + 1) h2 fz2 hm' pv' → Kp c hs fzs hms pvs h2 fz2 hm' pv' → Rep c.w fz2 hm' t v → Q v (c.st h2 tk2)) →
      wpAny (model pw c.w) c.A (pyNext it) (fun r s₁ => match r with
        | none => False
        | some v => wpAny (model pw c.w) c.A (letOwnedTupleGo target it v) (fun _ s => Q v s) E s₁) E (c.st h' tk))
    (fin : ∀ ρ' m' h' fz' hm' σ' pv' tk (Q : Shared → Prop) (E : Value → Shared → Prop), SSt c hB fzB hmB ρ' m' h' fz' hm' σ' pv' → J l.length h' fz' hm' pv' → Kp c hs fzs hms pvs h' fz' hm' pv' →
      (∀ h2 tk2, SSt c hB fzB hmB ρ' m' h2 fz' hm' σ' pv' → Kp c hs fzs hms pvs h2 fz' hm' pv' → Q (c.st h2 tk2)) → wpAny (model pw c.w) c.A (pyNext it) (fun r s => r = none ∧ Q s) E (c.st h' tk))
    (S : SSt c hB fzB hmB ρ m h fz hm σ pv) (j0 : J 0 h fz hm pv) (kp : Kp c hs fzs hms pvs h fz hm pv)
    (e : forL (fun t ρ σ K => match bindOne is one t ρ with
          | some ρ => g ρ σ K
          | none => False) l ρ σ K) :
    codeAny (model pw c.w) c.A (.forLoop target it body [] c.env) (fun r s' => match r with | .ok f => Q f s' | .error e => cameBackBy (model pw c.w) c.A c.env E e s') (c.st h tk) := by
  refine codeAny_forLoop_any
    (ForI c hB fzB hmB hs fzs hms pvs J l (fun t ρ σ K => match bindOne is one t ρ with
          | some ρ => g ρ σ K
          | none => False) K) ?_ (l.length + 1)
    ⟨ρ, m, h, fz, hm, σ, pv, tk, 0, rfl, Nat.zero_le _, rfl, S, j0, kp, by simpa using e⟩
  rintro k s' ⟨ρ', m', h', fz', hm', σ', pv', tk', j, rfl, hj, rfl, S', J', kp', e'⟩
  by_cases hlt : j < l.length
  · rw [List.drop_eq_getElem_cons hlt] at e'
    refine wpAny_mono (adv j l[j] ρ' m' h' fz' hm' σ' pv' tk' (fun v s₁' => wpAny (model pw c.w) c.A (assign target c.env v) (fun _ s₂ => wpAny (model pw c.w) c.A (execs body c.env) (fun f s₃ => match f with
            | .next | .cont => ∃ m, m < l.length + 1 - j ∧ ForI c hB fzB hmB hs fzs hms pvs J l (fun t ρ σ K => match bindOne is one t ρ with
          | some ρ => g ρ σ K
          | none => False) K m s₃
            | .brk => Q .next s₃
            | .ret v => Q (.ret v) s₃) (notedBy (model pw c.w) c.A c.env fun e s' => cameBackBy (model pw c.w) c.A c.env E e s') s₂) (notedBy (model pw c.w) c.A c.env fun e s' => cameBackBy (model pw c.w) c.A c.env E e s') s₁') _ (List.getElem?_eq_getElem hlt) S' J' kp'
      fun v h2 tk2 fz2 S2 J2 k2 r2 => ?_) (fun r s₁ hr => ?_) fun _ _ e => e
    · have e2 : (match bindOne is one l[j] ρ' with
          | some ρ => g ρ σ' (loopK (fun ρ σ => forL (fun t ρ σ K => match bindOne is one t ρ with
          | some ρ => g ρ σ K
          | none => False) (l.drop (j + 1)) ρ σ K) K)
          | none => False) := e'
      cases hb : bindOne is one l[j] ρ' with
      | none => rw [hb] at e2; exact e2.elim
      | some ρ2 =>
        rw [hb] at e2
        refine assign_one Z ht r2 hb S2 fun m3 h3 pv3 tk3 S3 k3 => ?_
        have J3 := stab _ _ _ _ _ _ _ _ _ _ _ J2 k3 S2.X S3.X S2.F.keep S3.F.keep
        refine B hB fzB hmB ρ2 m3 h3 fz2 hm' σ' pv3 tk3 _ _ _ S3 e2 ⟨fun ρ4 m4 h4 fz4 hm4 σ4 pv4 tk4 a4 S4 k4 => ?_, fun ρ4 m4 h4 fz4 hm4 σ4 pv4 tk4 a4 S4 k4 => ?_, fun t v ρ4 h4 fz4 hm4 σ4 tk4 a4 r4 X4 x4 => R.2.2 _ _ _ _ _ _ _ _ a4 r4 X4 x4⟩
        all_goals exact ⟨l.length + 1 - (j + 1), by lia, ρ4, m4, h4, fz4, hm4, σ4, pv4, tk4, j + 1, rfl, hlt, rfl, S4, stab _ _ _ _ _ _ _ _ _ _ _ J3 k4 S3.X S4.X S3.F.keep S4.F.keep, (k2.trans k3).trans k4, a4⟩
    · cases r with
      | none => exact hr.elim
      | some v => exact hr
  · obtain rfl : j = l.length := Nat.le_antisymm hj (Nat.not_lt.mp hlt)
    rw [List.drop_length] at e'
    refine wpAny_mono (fin ρ' m' h' fz' hm' σ' pv' tk' (fun s₁ => wpAny (model pw c.w) c.A (execs [] c.env) (fun f s₃ => Q f s₃) (notedBy (model pw c.w) c.A c.env fun e s' => cameBackBy (model pw c.w) c.A c.env E e s') s₁) _ S' J' kp' fun h2 tk2 S2 k2 => ?_) (fun r s₁ hr => ?_) fun _ _ e => e
    · exact wpAny_execs_nil (R.1 _ _ _ _ _ _ _ _ e' S2 k2)
    · obtain ⟨rfl, hr⟩ := hr; exact hr
end
noncomputable def scharsOk : Bool := tab.schars.all fun q => Nat.blt q.1 nsz && ((sN q.1).cps.all (· < 128) && (q.2.all (fun i => Nat.blt i nsz) && ((sN q.1).cps.toList.map (fun k => (⟨#[k]⟩ : Str)) == q.2.map sN)))
theorem scharsOk_ : scharsOk = true := by kernel_rfl
noncomputable def unitOk (P : Params) : Bool := onS ((mK P).lookup 1292) fun o => o.cls == .type "tuple" && onSq o.data fun a n => a.toList.isEmpty && n == 0
theorem unitOk_ (P : Params) : unitOk P = true := by kernel_rfl
theorem unit_at (P : Params) : ∃ o, (mK P).lookup 1292 = some o ∧ o.cls = .type "tuple" ∧ o.data = .seq #[] 0 := by
  obtain ⟨o, e, h⟩ := onS_t (unitOk_ P)
  obtain ⟨⟨l⟩, n, hd, h'⟩ := onSq_t (a2 h)
  exact ⟨o, e, eq_of_beq (a1 h), hd.trans (by rw [eq_of_beq (a2 h'), show l = [] from nil_t (a1 h')])⟩
section
variable {c : Fx} {hB hs : Heap} {fzB fzs : Fz} {hmB hms : Hm} {ρ ρ' : Rho} {m : Str → Option Value} {h h' : Heap} {fz fz' : Fz} {hm hm' : Hm} {σ σ' : Sg} {pv pvs : Nat → List Addr} {tk : Nat} {E : Value → Shared → Prop} {n : Nat} {mg mb : Str → Option Value} {ws : List Addr}
theorem for_walk {target : PySem.Expr} {body : List Stmt} {is : List Nat} {one : Bool} {I : Addr} {fp : List Addr} {N : Nat} {P : Nat → Value → Prop} {St : Nat → Heap → Prop} {l : List T} {g : Rho → Sg → (Fl → Rho → Sg → Prop) → Prop} {K : Fl → Rho → Sg → Prop} {Q : Flow → Shared → Prop}
    (W : Walks pw c.w c.A I fp [I] N P St) (hN : N = l.length) (Z : Act c.w mg mb n c.A c.h₀ c.L) (ht : tgtOk c.sc is one target = true) (B : XS c g (execs body c.env)) (R : RS c hB fzB hmB hs fzs hms pvs Q K)
    (hfp : ∀ b ∈ fp, b = I ∨ ∃ o, fz b o) (live : ∀ j h, St j h → h.get? I ≠ none) (go : ∀ j v h tk (Q : Unit → Shared → Prop) (E : Value → Shared → Prop), St j h → Q () (c.st h tk) → wpAny (model pw c.w) c.A (letOwnedTupleGo target (.ref I) v) Q E (c.st h tk))
    (hP : ∀ j t v, l[j]? = some t → P j v → Rep c.w fz hm t v) (S : SSt c hB fzB hmB ρ m h fz hm σ pv) (st0 : St 0 h) (as : Aside c hB hs h fz hm pv I) (kp : Kp c hs fzs hms pvs h fz hm pv)
    (e : forL (fun t ρ σ K => match bindOne is one t ρ with
          | some ρ => g ρ σ K
          | none => False) l ρ σ K) :
    codeAny (model pw c.w) c.A (.forLoop target (.ref I) body [] c.env) (fun r s' => match r with | .ok f => Q f s' | .error e => cameBackBy (model pw c.w) c.A c.env E e s') (c.st h tk) := by
  subst hN
  refine for_core (fun j h' fz' hm' pv' => St j h' ∧ Aside c hB hs h' fz' hm' pv' I ∧ (∀ a o, fz a o → fz' a o) ∧ ∀ (i : Nat) (p : Addr × Addr), hm[i]? = some p → hm'[i]? = some p) Z ht B R
    (fun j h1 fz1 hm1 pv1 h2 fz2 hm2 pv2 σ1 σ2 J k X1 X2 _ _ => ?_) (fun j t ρ' m' h1 fz1 hm1 σ1 pv1 tk1 Q E hj S1 J1 k1 hQ => ?_) (fun ρ' m' h1 fz1 hm1 σ1 pv1 tk1 Q E S1 J1 k1 hQ => ?_) S ⟨st0, as, fun _ _ e => e, fun _ _ e => e⟩ kp e
  · obtain ⟨a, b, f1, f2⟩ := J
    obtain ⟨b', kI⟩ := Aside.kp I b k
    refine ⟨W.frame _ _ _ a fun b hb o e => ?_, b', fun a o e => k.sub _ _ (f1 _ _ e), fun i p e => k.hmi _ _ (f2 _ _ e)⟩
    rcases hfp b hb with rfl | ⟨o', ho'⟩
    · exact kI _ e
    · have e1 := X1.fzo _ _ (f1 _ _ ho')
      rw [e] at e1; cases e1
      exact X2.fzo _ _ (k.sub _ _ (f1 _ _ ho'))
  · obtain ⟨a, b, f1, f2⟩ := J1
    refine W.item j _ _ _ (List.getElem?_eq_some_iff.mp hj).1 a fun v h2 tk2 hv st2 hk => ?_
    refine go _ v h2 tk2 _ _ st2 ?_
    have S2 := S1.side (ws := [I]) hk fun a ha => by cases List.mem_singleton.mp ha; exact ⟨b.p, b.L, b.v, b.b⟩
    exact hQ v h2 tk2 fz1 S2 ⟨st2, ⟨b.p.at (live _ _ st2), b.L, b.v, b.s, b.b⟩, f1, f2⟩ (k1.side hk fun a ha => by cases List.mem_singleton.mp ha; exact b.s) ((hP j t v hj hv).mono f1 f2)
  · obtain ⟨a, b, f1, f2⟩ := J1
    refine W.done _ _ _ a fun h2 tk2 hk => ⟨rfl, ?_⟩
    have S2 := S1.side (ws := [I]) hk fun a ha => by cases List.mem_singleton.mp ha; exact ⟨b.p, b.L, b.v, b.b⟩
    exact hQ h2 tk2 S2 (k1.side hk fun a ha => by cases List.mem_singleton.mp ha; exact b.s)
theorem go_name {sc : Scope} {i : Nat} {e : PySem.Expr} {M : Model} {A : Around} {s : Shared} {I : Addr} {v : Value} {Q : Unit → Shared → Prop} (ht : nameIs sc i e = true) (hQ : Q () s) : wpAny M A (letOwnedTupleGo e (.ref I) v) Q E s := by
  obtain ⟨p, rfl, _⟩ := nameIs_of ht
  exact wpAny_pure hQ
theorem tgt_cases {sc : Scope} {is : List Nat} {one : Bool} {e : PySem.Expr} (ht : tgtOk sc is one e = true) : (∃ i, nameIs sc i e = true) ∨ ∃ es k p, e = .Tuple es k p := by
  cases one with
  | true =>
    obtain ⟨i, rfl, ht⟩ := on1_t (l := is) ht
    exact .inl ⟨i, ht⟩
  | false =>
    obtain ⟨_, _, _, rfl, _⟩ := onTup_t (z := e) ht
    exact .inr ⟨_, _, _, rfl⟩
theorem go_fields {s : Shared} {M : Model} {A : Around} {elts : List PySem.Expr} {k : Nat} {pos : Pos} {I : Addr} {v : Value} {ty : String} {o : Obj} {vs : Array Value} {Q : Unit → Shared → Prop} (ho : s.heap.get? I = some o) (hc : o.cls = .type ty) (hd : o.data = .fields vs)
    (hn : (["enumerate", "zip", "dict_itemiterator", "dict_reverseitemiterator", "odict_iterator", "itertools.zip_longest", "itertools.pairwise"].contains ty) = false) (hQ : Q () s) : wpAny M A (letOwnedTupleGo (.Tuple elts k pos) (.ref I) v) Q E s := by
  cases v with
  | ref a =>
    unfold letOwnedTupleGo
    refine wpAny_bind (wpAny_load ho ?_)
    rw [hc, hd]
    show wpAny M A (if (["enumerate", "zip", "dict_itemiterator", "dict_reverseitemiterator", "odict_iterator", "itertools.zip_longest", "itertools.pairwise"].contains ty && vs[0]? == some (rawInt a)) = true then _ else _) Q E s
    rw [hn, Bool.false_and, if_neg Bool.false_ne_true]
    exact wpAny_pure hQ
  | _ => exact wpAny_pure hQ
theorem SSt.asidePush (S : SSt c hB fzB hmB ρ m h fz hm σ pv) (o : Obj) (hf : o.isFreed = false) : SSt c hB fzB hmB ρ m (h.push o) fz hm σ pv ∧ Aside c hB h (h.push o) fz hm pv h.objs.size ∧ Kp c h fz hm pv (h.push o) fz hm pv :=
  have x' := Ext.keeps fz hm (keeps_push h o)
  have hn := get_none_size h
  have ⟨a, b, d, e, f⟩ := S.fresh hn
  ⟨S.step (S.X.keeps (keeps_push h o)) x', ⟨⟨by rw [Heap.get?_push_size _ hf]; exact (fun z => nomatch z), e, f⟩, b, d, hn, a⟩, Kp.of x' pv⟩
theorem XS.forS {is : List Nat} {one : Bool} {t e : PySem.Expr} {body : List Stmt} {p : Pos} {f : Rho → Sg → (T → Sg → Prop) → Prop} {g : Rho → Sg → (Fl → Rho → Sg → Prop) → Prop} (Z : Act c.w mg mb n c.A c.h₀ c.L) (ht : tgtOk c.sc is one t = true) (hs : inMarks e = true)
    (x : ∀ ρ, SX (withR c ρ) (f ρ) (eval e c.env)) (B : XS c g (execs body c.env)) :
    XS c (fun ρ σ K => f ρ σ fun v σ => itemsP tab v fun l => forL (fun t ρ σ K => match bindOne is one t ρ with
          | some ρ => g ρ σ K
          | none => False) l ρ σ K) (exec (.For t e body [] p) c.env) := by
  intro hB fzB hmB ρ m h fz hm σ pv tk Q E K S k R
  refine wpAny_For (S.eval (x ρ) k fun v vv h1 tk1 fz1 hm1 σ1 k1 r1 S1 x1 => ?_) (notSet hs c.env)
  have R1 := R.ext x1
  have go : ∀ {ty : String} {St : Nat → Heap → Prop}, (∀ j h, St j h → ∃ o vs, h.get? h1.objs.size = some o ∧ o.cls = .type ty ∧ o.data = .fields vs) → (["enumerate", "zip", "dict_itemiterator", "dict_reverseitemiterator", "odict_iterator", "itertools.zip_longest", "itertools.pairwise"].contains ty) = false →
      ∀ j v h tk (Q : Unit → Shared → Prop) (E : Value → Shared → Prop), St j h → Q () (c.st h tk) → wpAny (model pw c.w) c.A (letOwnedTupleGo t (.ref h1.objs.size) v) Q E (c.st h tk) := fun hst hty j v h tk Q E st hQ => by
    rcases tgt_cases ht with ⟨i, hi⟩ | ⟨es, kk, pp, rfl⟩
    · exact go_name hi hQ
    · obtain ⟨o, vs, a, b, d⟩ := hst j h st
      exact go_fields a b d hty hQ
  cases v with
  | lst l =>
    refine r1.lst_e fun ax o its nn b1 b2 b3 b4 => ?_
    have hl := fz_lst (S1.X.fzo _ _ b1) b2 b3
    refine wpAny_pyIter_list hl ?_
    obtain ⟨S2, A2, k2⟩ := S1.asidePush { cls := .type "list_iterator", data := .fields #[.ref ax, .int 0 0] } rfl
    have hne : ax ≠ h1.objs.size := Nat.ne_of_lt (Heap.lt_size (S1.X.fzo _ _ b1))
    refine for_walk (Walks.list (A := c.A) Z.hh h1.objs.size ax hne its) b4.size Z ht B R1 (fun b hb => ?_) (fun j h st => ?_) (go (ty := "list_iterator") (fun j h st => ?_) (by decide)) (fun j t v ht hv => ?_) S2 ⟨⟨_, Heap.get?_push_size _ rfl, rfl, rfl⟩, hl.push _⟩ A2 k2 k1
    · rcases List.mem_cons.mp hb with rfl | hb
      · exact .inl rfl
      · cases List.mem_singleton.mp hb; exact .inr ⟨_, b1⟩
    · obtain ⟨⟨o, q, _⟩, _⟩ := st; rw [q]; exact fun z => nomatch z
    · obtain ⟨⟨o, q, q2, q3⟩, _⟩ := st; exact ⟨o, _, q, q2, q3⟩
    · obtain ⟨v', hv', rv⟩ := b4.get ht
      have : v' = v := by
        have z : its[j]? = some v' := by simpa using hv'
        have hv : its[j]? = some v := hv
        rw [hv] at z; exact (Option.some.inj z).symm
      rw [← this]; exact rv
  | tup l =>
    refine r1.tup_e fun ax o its nn b1 b2 b3 b4 => ?_
    have hl : h1.IsTuple ax its := ⟨o, S1.X.fzo _ _ b1, b2, nn, b3⟩
    refine wpAny_pyIter_tuple hl ?_
    obtain ⟨S2, A2, k2⟩ := S1.asidePush { cls := .type "tuple_iterator", data := .fields #[.ref ax, .int 0 0] } rfl
    have hne : ax ≠ h1.objs.size := Nat.ne_of_lt (Heap.lt_size (S1.X.fzo _ _ b1))
    refine for_walk (Walks.tuple (A := c.A) Z.hh h1.objs.size ax hne its) b4.size Z ht B R1 (fun b hb => ?_) (fun j h st => ?_) (go (ty := "tuple_iterator") (fun j h st => ?_) (by decide)) (fun j t v ht hv => ?_) S2 ⟨⟨_, Heap.get?_push_size _ rfl, rfl, rfl⟩, hl.at fun o e => Heap.get?_push_of_some _ e⟩ A2 k2 k1
    · rcases List.mem_cons.mp hb with rfl | hb
      · exact .inl rfl
      · cases List.mem_singleton.mp hb; exact .inr ⟨_, b1⟩
    · obtain ⟨⟨o, q, _⟩, _⟩ := st; rw [q]; exact fun z => nomatch z
    · obtain ⟨⟨o, q, q2, q3⟩, _⟩ := st; exact ⟨o, _, q, q2, q3⟩
    · obtain ⟨v', hv', rv⟩ := b4.get ht
      have : v' = v := by
        have z : its[j]? = some v' := by simpa using hv'
        have hv : its[j]? = some v := hv
        rw [hv] at z; exact (Option.some.inj z).symm
      rw [← this]; exact rv
  | sym s =>
    refine oP_e k1 fun cs hcs k1 => r1.sym_e fun u hs' => ?_
    · have := List.all_eq_true.mp scharsOk_ _ (lk_mem hcs)
      simp only [Bool.and_eq_true, beq_iff_eq, Nat.blt_eq] at this
      obtain ⟨q1, q2, q3, q4⟩ := this
      refine wpAny_pyIter_ascii q2 ?_
      obtain ⟨S2, A2, k2⟩ := S1.asidePush { cls := .type "str_ascii_iterator", data := .fields #[.str (sN s) u, .int 0 0] } rfl
      refine for_walk (Walks.strAscii (A := c.A) Z.hh h1.objs.size (sN s) u) (by have := congrArg List.length q4; simpa using this) Z ht B R1 (fun b hb => .inl (List.mem_singleton.mp hb)) (fun j h st => ?_) (go (ty := "str_ascii_iterator") (fun j h st => ?_) (by decide)) (fun j t v ht hv => ?_) S2 ⟨_, Heap.get?_push_size _ rfl, rfl, rfl⟩ A2 k2 k1
      · obtain ⟨o, q, _⟩ := st; rw [q]; exact fun z => nomatch z
      · obtain ⟨o, q, q2, q3⟩ := st; exact ⟨o, _, q, q2, q3⟩
      · obtain ⟨cc, uu, hc, rfl⟩ := hv
        rw [List.getElem?_map] at ht
        obtain ⟨i, hi, rfl⟩ := Option.map_eq_some_iff.mp ht
        have e1 : ((sN s).cps.toList.map (fun k => (⟨#[k]⟩ : Str)))[j]? = (cs.map sN)[j]? := by rw [q4]
        rw [List.getElem?_map, List.getElem?_map, hi] at e1
        have e2 : (sN s).cps.toList[j]? = some cc := by simpa using hc
        rw [e2] at e1
        simp only [Option.map_some, Option.some.injEq] at e1
        rw [e1]
        exact .sym _ _ (by have := List.all_eq_true.mp q3 i (List.mem_of_getElem? hi); simpa using this)
  | glob gg =>
    refine r1.glob_e fun ax hg => ?_
    have k1 : (match Nat.beq gg 84 with
      | true => forL (fun t ρ σ K => match bindOne is one t ρ with
          | some ρ => g ρ σ K
          | none => False) [] ρ σ1 K
      | false => False) := k1
    cases hgg : Nat.beq gg 84 with
    | false => rw [hgg] at k1; exact k1.elim
    | true =>
      rw [hgg] at k1
      cases Nat.eq_of_beq_eq_true hgg
      have k1 : forL (fun t ρ σ K => match bindOne is one t ρ with
          | some ρ => g ρ σ K
          | none => False) [] ρ σ1 K := k1
      have : ax = 1292 := by
        have e : gA[84]? = some 1292 := by decide
        rw [e] at hg; exact (Option.some.inj hg).symm
      subst this
      obtain ⟨oU, hoU, hcU, hdU⟩ := unit_at c.w.params
      have hin : ∀ h : Heap, (∀ b o, c.h₀.get? b = some o → h.get? b = some o) → h.IsTuple 1292 #[] := fun h hk => ⟨oU, hk _ _ (Z.X _ _ hoU), hcU, 0, hdU⟩
      refine wpAny_pyIter_tuple (hin h1 S1.F.keep) ?_
      obtain ⟨S2, A2, k2⟩ := S1.asidePush { cls := .type "tuple_iterator", data := .fields #[.ref 1292, .int 0 0] } rfl
      refine for_core (l := []) (hs := h1) (fun j h' fz' hm' pv' => h'.IsTupleIter h1.objs.size 1292 0 ∧ h'.IsTuple 1292 #[] ∧ Aside c hB h1 h' fz' hm' pv' h1.objs.size) Z ht B R1
        (fun j h3 fz3 hm3 pv3 h4 fz4 hm4 pv4 σ3 σ4 J k X3 X4 q3 q4 => ?_) (fun j t ρ' m' h3 fz3 hm3 σ3 pv3 tk3 Q E hj _ _ _ _ => nomatch hj) (fun ρ' m' h3 fz3 hm3 σ3 pv3 tk3 Q E S3 J3 k3 hQ => ?_) S2 ⟨⟨_, Heap.get?_push_size _ rfl, rfl, rfl⟩, hin _ S2.F.keep, A2⟩ k2 k1
      · obtain ⟨a, b, d⟩ := J
        obtain ⟨d', kI⟩ := Aside.kp _ d k
        exact ⟨a.at kI, hin _ q4, d'⟩
      · obtain ⟨a, b, d⟩ := J3
        refine wpAny_pyNext_tuple_end Z.hh a b (by simp) fun h4 hx => ⟨rfl, ?_⟩
        have hk : ∀ b o, b ∉ [h1.objs.size] → h3.get? b = some o → h4.get? b = some o := fun b o q e => hx b o (fun z => q (by rw [z]; exact .head _)) e
        exact hQ h4 tk3 (S3.side hk fun a ha => by cases List.mem_singleton.mp ha; exact ⟨d.p, d.L, d.v, d.b⟩) (k3.side hk fun a ha => by cases List.mem_singleton.mp ha; exact d.s)
  | _ => exact k1.elim
theorem range_small {m : Nat} (h : m < 1000000) : Builtin.Range.small 0 (Int.ofNat m) 1 = true ∧ Builtin.Range.rangeSize 0 (Int.ofNat m) 1 = Int.ofNat m := by
  have e : Builtin.Range.rangeSize 0 (Int.ofNat m) 1 = Int.ofNat m := by
    unfold Builtin.Range.rangeSize
    simp only [Int.ofNat_eq_natCast]
    split <;> (try split) <;> lia
  refine ⟨?_, e⟩
  have h1 : Builtin.Range.rangeFitsLong (Int.ofNat m) = true := by
    unfold Builtin.Range.rangeFitsLong
    simp only [Int.ofNat_eq_natCast, Bool.and_eq_true, decide_eq_true_eq]
    lia
  have h2 : Builtin.Range.rangeFitsLong (Int.ofNat m + (1 - 1)) = true := by
    rw [show Int.ofNat m + (1 - 1) = Int.ofNat m by lia]; exact h1
  unfold Builtin.Range.small
  rw [e, h1, if_pos (by decide), h2]
  simp only [Bool.and_true, Bool.or_true]
  decide
theorem forR_t {v : T} {K : Nat → Prop} (h : match v with
      | .int (.ofNat m) => m < 1000000 ∧ K m
      | _ => False) : ∃ m, v = .int (.ofNat m) ∧ m < 1000000 ∧ K m := by
  cases v with
  | int i => cases i with
    | ofNat m => exact ⟨m, rfl, h⟩
    | negSucc _ => exact h.elim
  | _ => exact h.elim
theorem XS.forR {i : Nat} {t e : PySem.Expr} {f : Str} {body : List Stmt} {p p1 p2 : Pos} {x : Rho → Sg → (T → Sg → Prop) → Prop} {g : Rho → Sg → (Fl → Rho → Sg → Prop) → Prop} (Z : Act c.w mg mb n c.A c.h₀ c.L) (ht : nameIs c.sc i t = true) (hf : f = ("range" : Str)) (hkf : kindIs c.sc f .globalImplicit = true) (he : isStar e = false)
    (X : ∀ ρ, SX (withR c ρ) (x ρ) (eval e c.env)) (B : XS c g (execs body c.env)) :
    XS c (fun ρ σ K => x ρ σ fun v σ => (match v with
      | .int (.ofNat m) => m < 1000000 ∧ forL (fun t ρ σ K => g (pt ρ i (.t t)) σ K) ((List.range m).map fun k => .int (.ofNat k)) ρ σ K
      | _ => False)) (exec (.For t (.Call (.Name f p1) [e] [] p2) body [] p) c.env) := by
  intro hB fzB hmB ρ m h fz hm σ pv tk Q E K S k R
  subst hf
  have b3 := bi3_ c.w.params
  refine wpAny_For (Call_ (bi3_eval Z S.C S.F hkf (eq_of_beq (a1 (a2 b3))) (eq_of_beq (a1 (a2 (a2 (a2 (a2 b3)))))) (by decide) (by decide) ?_) rfl) (fun _ => rfl)
  refine callW (first := []) (noStar1 c.env p2 he).1 (args_cons (S.eval (X ρ) k fun v vv h1 tk1 fz1 hm1 σ1 k1 r1 S1 x1 => ?_) (starEach_cons he))
  refine spliced_none ⟨⟨.machine, .inr (.inl rfl), Looks.of_pure rfl⟩, ?_⟩
  · obtain ⟨mm, rfl, hm', k1⟩ := forR_t k1
    · refine r1.int_e fun u => ?_
      obtain ⟨q1, q2⟩ := range_small hm'
      refine call_range_1 ?_
      obtain ⟨S2, A2, k2⟩ := S1.asidePush { cls := .type "range", data := .fields #[.int 0 tk1, .int (Int.ofNat mm) u, .int 1 (tk1 + 1)] } rfl
      refine wpAny_pyIter_range (IsRange.new h1 0 (Int.ofNat mm) 1 tk1 u (tk1 + 1)) q1 ?_
      obtain ⟨S3, A3, k3⟩ := S2.asidePush { cls := .type "range_iterator", data := .fields #[rawInt 0, rawInt (Builtin.Range.rangeSize 0 (Int.ofNat mm) 1), rawInt 1] } rfl
      have R2 := (R.ext x1).kp k2
      refine for_walk (is := [i]) (one := true) (Walks.range (A := c.A) Z.hh _ 0 1 mm) (l := (List.range mm).map fun k => .int (.ofNat k)) (by simp) Z ht B R2 (fun b hb => .inl (List.mem_singleton.mp hb)) (fun j h st => ?_) (fun j v h tk Q E st hQ => go_name ht hQ) (fun j t v ht hv => ?_) S3 ?_ A3 k3 k1
      · rw [st]; exact fun z => nomatch z
      · obtain ⟨uu, rfl⟩ := hv
        rw [List.getElem?_map] at ht
        obtain ⟨kk, hk, rfl⟩ := Option.map_eq_some_iff.mp ht
        have : kk = j := by
          obtain ⟨hlt, e⟩ := List.getElem?_eq_some_iff.mp hk
          rw [List.getElem_range] at e; exact e.symm
        subst this
        have e : (0 : Int) + (kk : Int) * 1 = Int.ofNat kk := by simp
        rw [e]; exact .int _ _
      · rw [q2]
        show IsRangeIter _ _ _ _ _
        have e1 : (0 : Int) + ((0 : Nat) : Int) * 1 = 0 := by simp
        have e2 : ((mm : Nat) : Int) - ((0 : Nat) : Int) = Int.ofNat mm := by simp
        rw [e1, e2]
        exact Heap.get?_push_size _ rfl
inductive WhlI (c : Fx) (hB : Heap) (fzB : Fz) (hmB : Hm) (h : Heap) (fz : Fz) (hm : Hm) (pv : Nat → List Addr) (P : Nat → Rho → Sg → Prop) (k : Nat) (s' : Shared) : Prop
  | mk (ρ' : Rho) (m' : Str → Option Value) (h' : Heap) (fz' : Fz) (hm' : Hm) (σ' : Sg) (pv' : Nat → List Addr) (tk' : Nat) : s' = c.st h' tk' → SSt c hB fzB hmB ρ' m' h' fz' hm' σ' pv' → Kp c h fz hm pv h' fz' hm' pv' → P k ρ' σ' → WhlI c hB fzB hmB h fz hm pv P k s'
theorem XS.whl {mm : Nat} {t : PySem.Expr} {body : List Stmt} {p : Pos} {f : Rho → Sg → (T → Sg → Prop) → Prop} {g : Rho → Sg → (Fl → Rho → Sg → Prop) → Prop} (x : ∀ ρ, SB (withR c ρ) (f ρ) (isTrue t c.env (eval t c.env))) (B : XS c g (execs body c.env)) :
    XS c (fun ρ σ K => whL (fun ρ σ K => f ρ σ (onB K)) g mm ρ σ K) (exec (.While t body [] p) c.env) := by
  intro hB fzB hmB ρ m h fz hm σ pv tk Q E K S k R
  refine wpAny_While (codeAny_whileLoop (WhlI c hB fzB hmB h fz hm pv (fun k ρ σ => whL (fun ρ σ K => f ρ σ (onB K)) g k ρ σ K)) ?_ mm
    ⟨ρ, m, h, fz, hm, σ, pv, tk, rfl, S, Kp.refl .., k⟩)
  rintro j s' ⟨ρ', m', h', fz', hm', σ', pv', tk', rfl, S', kp, k'⟩
  cases j with
  | zero => exact k'.elim
  | succ j =>
    refine S'.test (K := fun b σ => (match b with
      | true => g ρ' σ fun fl ρ σ => (match fl with
        | .next => whL (fun ρ σ K => f ρ σ (onB K)) g j ρ σ K
        | .cont => whL (fun ρ σ K => f ρ σ (onB K)) g j ρ σ K
        | .ret v => K (.ret v) ρ σ)
      | false => K .next ρ' σ)) (x ρ') k' fun b h1 tk1 fz1 hm1 σ1 k1 S1 x1 => ?_
    have kp1 := kp.trans (Kp.of x1 pv')
    cases b with
    | true =>
      rw [if_pos rfl]
      exact B hB fzB hmB ρ' m' h1 fz1 hm1 σ1 pv' tk1 _ _ _ S1 k1 ⟨fun ρ4 m4 h4 fz4 hm4 σ4 pv4 tk4 a4 S4 k4 => ⟨j, Nat.lt_succ_self _, ρ4, m4, h4, fz4, hm4, σ4, pv4, tk4, rfl, S4, kp1.trans k4, a4⟩,
        fun ρ4 m4 h4 fz4 hm4 σ4 pv4 tk4 a4 S4 k4 => ⟨j, Nat.lt_succ_self _, ρ4, m4, h4, fz4, hm4, σ4, pv4, tk4, rfl, S4, kp1.trans k4, a4⟩, fun t v ρ4 h4 fz4 hm4 σ4 tk4 a4 r4 X4 x4 => R.2.2 _ _ _ _ _ _ _ _ a4 r4 X4 x4⟩
    | false =>
      rw [if_neg (by decide)]
      exact wpAny_execs_nil (R.1 _ _ _ _ _ _ _ _ k1 S1 kp1)
end
section
variable {c : Fx} {hB hs : Heap} {fzB fzs : Fz} {hmB hms : Hm} {ρ ρ' : Rho} {m : Str → Option Value} {h h' : Heap} {fz fz' : Fz} {hm hm' : Hm} {σ σ' : Sg} {pv pvs : Nat → List Addr} {tk : Nat} {E : Value → Shared → Prop} {n : Nat} {mg mb : Str → Option Value} {ws : List Addr}
theorem Priv.frz {a b : Addr} {o : Obj} (p : Priv h fz hm b) (ne : b ≠ a) : Priv h (addF fz a o) hm b := ⟨p.live, p.mt, fun o q => q.elim (p.fz o) fun z => ne z.1⟩
theorem SSt.freeze1 {a : Addr} {o : Obj} (S : SSt c hB fzB hmB ρ m h fz hm σ pv) (ho : h.get? a = some o) (hL : a ≠ c.L) (hv : ∀ i, a ∉ pv i) (hm' : ¬ Mt hm a) (hb : hB.get? a = none) : SSt c hB fzB hmB ρ m h (addF fz a o) hm σ pv :=
  ⟨S.F, S.X.freeze ho hm', S.x.freeze hb, S.C.mono (fun _ _ => .inl) fun _ _ e => e, fun i lv e => let ⟨a, v, b, d⟩ := S.V i lv e; ⟨a, v, b, d.move (fun _ _ _ e => e) (fun _ _ => .inl) fun _ _ e => e⟩,
    fun i b hb => let ⟨p, q⟩ := S.P i b hb; ⟨p.frz fun z => hv i (z ▸ hb), q⟩, S.D, ⟨S.L.1.frz (Ne.symm hL), S.L.2⟩, S.B, S.O⟩
theorem Kp.freeze1 {a : Addr} {o : Obj} (k : Kp c hs fzs hms pvs h fz hm pv) (hn : ∀ b o', hs.get? b = some o' → Priv hs fzs hms b → b ≠ c.L → (∀ i, b ∉ pvs i) → b ≠ a) : Kp c hs fzs hms pvs h (addF fz a o) hm pv :=
  ⟨fun b o' e p hL q => let ⟨e', p', q'⟩ := k.keep b o' e p hL q; ⟨e', p'.frz (hn b o' e p hL q), q'⟩, fun _ _ e => .inl (k.sub _ _ e), k.hmi⟩
theorem zip_get : ∀ (l r : List T) (j : Nat) (t : T), (zipT l r)[j]? = some t → ∃ a b, l[j]? = some a ∧ r[j]? = some b ∧ t = .tup [a, b]
  | a :: l, b :: r, 0, t, e => by cases e; exact ⟨a, b, rfl, rfl, rfl⟩
  | a :: l, b :: r, j + 1, t, e => by
    obtain ⟨x, y, h1, h2, h3⟩ := zip_get l r j t e
    exact ⟨x, y, by simpa using h1, by simpa using h2, h3⟩
theorem zip_len : ∀ l r : List T, (zipT l r).length = min l.length r.length
  | [], _ => (Nat.zero_min _).symm
  | _ :: _, [] => (Nat.min_zero _).symm
  | a :: l, b :: r => by show (zipT l r).length + 1 = min (l.length + 1) (r.length + 1); rw [zip_len l r]; lia
theorem RepL.at_ {w : World} {l : List T} {vs : Array Value} (h : RepL w fz hm l vs.toList) {i : Nat} {t : T} {v : Value} (e : l[i]? = some t) (hv : vs[i]? = some v) : Rep w fz hm t v := by
  obtain ⟨v', h1, r⟩ := h.get e
  rw [Array.getElem?_toList, hv] at h1
  cases h1; exact r
theorem for_walkT {es : List PySem.Expr} {ek : Nat} {ep : Pos} {body : List Stmt} {is : List Nat} {I : Addr} {fp wr own : List Addr} {N : Nat} {P : Nat → Array Value → Prop} {St : Nat → Heap → Prop} {Mid : Nat → Addr → Heap → Prop} {l : List T} {g : Rho → Sg → (Fl → Rho → Sg → Prop) → Prop} {K : Fl → Rho → Sg → Prop} {Q : Flow → Shared → Prop}
    (W : WalksT pw c.w c.A I fp wr N P St Mid) (hN : N = l.length) (Z : Act c.w mg mb n c.A c.h₀ c.L) (ht : tgtOk c.sc is false (.Tuple es ek ep) = true) (B : XS c g (execs body c.env)) (R : RS c hB fzB hmB hs fzs hms pvs Q K)
    (hfp : ∀ b ∈ fp, b ∈ own ∨ ∃ o, fz b o) (hwr : ∀ b ∈ wr, b ∈ own) (live : ∀ j h, St j h → ∀ b ∈ own, h.get? b ≠ none)
    (hP : ∀ j t vals, l[j]? = some t → P j vals → ∃ ts, t = .tup ts ∧ RepL c.w fz hm ts vals.toList) (S : SSt c hB fzB hmB ρ m h fz hm σ pv) (st0 : St 0 h) (as : ∀ b ∈ own, Aside c hB hs h fz hm pv b) (kp : Kp c hs fzs hms pvs h fz hm pv)
    (e : forL (fun t ρ σ K => match bindOne is false t ρ with
          | some ρ => g ρ σ K
          | none => False) l ρ σ K) :
    codeAny (model pw c.w) c.A (.forLoop (.Tuple es ek ep) (.ref I) body [] c.env) (fun r s' => match r with | .ok f => Q f s' | .error e => cameBackBy (model pw c.w) c.A c.env E e s') (c.st h tk) := by
  subst hN
  refine for_core (fun j h' fz' hm' pv' => St j h' ∧ (∀ b ∈ own, Aside c hB hs h' fz' hm' pv' b) ∧ (∀ a o, fz a o → fz' a o) ∧ ∀ (i : Nat) (p : Addr × Addr), hm[i]? = some p → hm'[i]? = some p) Z ht B R
    (fun j h1 fz1 hm1 pv1 h2 fz2 hm2 pv2 σ1 σ2 J k X1 X2 _ _ => ?_) (fun j t ρ' m' h1 fz1 hm1 σ1 pv1 tk1 Q E hj S1 J1 k1 hQ => ?_) (fun ρ' m' h1 fz1 hm1 σ1 pv1 tk1 Q E S1 J1 k1 hQ => ?_) S ⟨st0, as, fun _ _ e => e, fun _ _ e => e⟩ kp e
  · obtain ⟨a, b, f1, f2⟩ := J
    refine ⟨W.frame _ _ _ a fun q hq o e => ?_, fun q hq => (Aside.kp q (b q hq) k).1, fun a o e => k.sub _ _ (f1 _ _ e), fun i p e => k.hmi _ _ (f2 _ _ e)⟩
    rcases hfp q hq with hq | ⟨o', ho'⟩
    · exact (Aside.kp q (b q hq) k).2 _ e
    · have e1 := X1.fzo _ _ (f1 _ _ ho')
      rw [e] at e1; cases e1
      exact X2.fzo _ _ (k.sub _ _ (f1 _ _ ho'))
  · obtain ⟨a, b, f1, f2⟩ := J1
    refine W.item j _ _ _ (List.getElem?_eq_some_iff.mp hj).1 a fun T vals h5 tk5 hPt hTge hTup hMid hk5 => ?_
    refine W.go es ek ep j T _ _ _ hMid fun h6 st6 hk6 => ?_
    have hk46 : ∀ q o, q ∉ wr → h1.get? q = some o → h6.get? q = some o := fun q o hq e => hk6 q o hq (hk5 q o hq e)
    obtain ⟨oT, hoT, hcT, nT, hdT⟩ := hTup
    have hTn : h1.get? T = none := Heap.get?_none_of_le hTge
    obtain ⟨ts, rfl, rl⟩ := hP j t vals hj hPt
    have S6 := S1.side hk46 fun q hq => let z := b q (hwr q hq); ⟨z.p, z.L, z.v, z.b⟩
    obtain ⟨g1, g2, g3, g4, g5⟩ := S1.fresh hTn
    have S7 := S6.freeze1 (o := oT) (hk6 T oT (W.apart _ _ _ hMid) hoT) g2 g3 g4 g1
    have kp6 : Kp c hs fzs hms pvs h6 fz1 hm1 pv1 := k1.side hk46 fun q hq => (b q (hwr q hq)).s
    have kp7 : Kp c hs fzs hms pvs h6 (addF fz1 T oT) hm1 pv1 := kp6.freeze1 fun q o' e p hL hv z => by
      obtain ⟨e', _, _⟩ := k1.keep q o' e p hL hv
      rw [z, hTn] at e'; cases e'
    have up : ∀ a o, fz a o → addF fz1 T oT a o := fun a o e => .inl (f1 _ _ e)
    refine hQ (.ref T) h6 tk5 (addF fz1 T oT) S7 ⟨st6, fun q hq => ?_, up, f2⟩ kp7 (.tup (.inr ⟨rfl, rfl⟩) hcT hdT (rl.mono up f2))
    have z := b q hq
    exact ⟨(z.p.at (live _ _ st6 q hq)).frz fun y => z.p.live (y ▸ hTn), z.L, z.v, z.s, z.b⟩
  · obtain ⟨a, b, f1, f2⟩ := J1
    refine W.done _ _ _ a fun h5 tk5 hk5 => ⟨rfl, ?_⟩
    exact hQ h5 tk5 (S1.side hk5 fun q hq => let z := b q (hwr q hq); ⟨z.p, z.L, z.v, z.b⟩) (k1.side hk5 fun q hq => (b q (hwr q hq)).s)
theorem all5 {P : Addr → Prop} {a b c d e : Addr} (h1 : P a) (h2 : P b) (h3 : P c) (h4 : P d) (h5 : P e) : ∀ q ∈ [a, b, c, d, e], P q :=
  List.forall_mem_cons.mpr ⟨h1, List.forall_mem_cons.mpr ⟨h2, List.forall_mem_cons.mpr ⟨h3, List.forall_mem_cons.mpr ⟨h4, List.forall_mem_cons.mpr ⟨h5, fun _ h => nomatch h⟩⟩⟩⟩⟩
theorem XS.forZ {is : List Nat} {t e e' : PySem.Expr} {f : Str} {body : List Stmt} {p p1 p2 : Pos} {x y : Rho → Sg → (T → Sg → Prop) → Prop} {g : Rho → Sg → (Fl → Rho → Sg → Prop) → Prop} (Z : Act c.w mg mb n c.A c.h₀ c.L) (ht : tgtOk c.sc is false t = true) (hf : f = ("zip" : Str)) (hkf : kindIs c.sc f .globalImplicit = true)
    (he : isStar e = false) (he' : isStar e' = false) (X : ∀ ρ, SX (withR c ρ) (x ρ) (eval e c.env)) (Y : ∀ ρ, SX (withR c ρ) (y ρ) (eval e' c.env)) (B : XS c g (execs body c.env)) :
    XS c (fun ρ σ K => x ρ σ fun u σ => y ρ σ fun v σ => (match u, v with
      | .lst l, .lst r => forL (fun t ρ σ K => match bindOne is false t ρ with
          | some ρ => g ρ σ K
          | none => False) (zipT l r) ρ σ K
      | _, _ => False)) (exec (.For t (.Call (.Name f p1) [e, e'] [] p2) body [] p) c.env) := by
  intro hB fzB hmB ρ m h fz hm σ pv tk Q E K S k R
  subst hf
  obtain ⟨es, kk, pos, rfl, ht'⟩ := onTup_t (z := t) ht
  have b3 := bi3_ c.w.params
  have hst : (backTo p2 (starEach [e, e'] c.env)).any (·.1) = false := (noStar c.env p2 (f := fun _ _ => true) (l := [.bad, .bad]) (es := [e, e']) (by show (!(isStar e) && (true && (!(isStar e') && (true && true)))) = true; rw [he, he']; rfl)).1
  refine wpAny_For (Call_ (bi3_eval Z S.C S.F hkf (eq_of_beq (a1 (a2 (a2 b3)))) (eq_of_beq (a2 (a2 (a2 (a2 (a2 b3)))))) (by decide) (by decide) ?_) rfl) (fun _ => rfl)
  refine callW (first := []) hst (args_cons (S.eval (X ρ) k fun u uu h1 tk1 fz1 hm1 σ1 k1 r1 S1 x1 => ?_) (starEach_cons he))
  refine args_cons (S1.eval (Y ρ) k1 fun v vv h2 tk2 fz2 hm2 σ2 k2 r2 S2 x2 => ?_) (starEach_cons he')
  refine spliced_none ⟨⟨.machine, .inr (.inl rfl), Looks.of_pure rfl⟩, ?_⟩
  have r1' := x2.rep r1
  have R2 := (R.ext x1).ext x2
  cases u with
  | lst l => cases v with
    | lst r =>
      refine r1'.lst_e fun l1 o1 xs n1 b1 b2 b3' b4 => r2.lst_e fun l2 o2 ys n2 d1 d2 d3 d4 => ?_
      have hl1 := fz_lst (S2.X.fzo _ _ b1) b2 b3'
      have hl2 := fz_lst (S2.X.fzo _ _ d1) d2 d3
      refine call_zip_2 hl1 hl2 fun h3 hz hTI hTO hi1 hi2 hsz hk => wpAny_pyIter_zip hz ?_
      have x3 := Ext.keeps fz2 hm2 hk
      have newA : ∀ a, h2.objs.size ≤ a → h3.get? a ≠ none → Aside c hB h2 h3 fz2 hm2 pv a := fun a ha hl => by
        have hn : h2.get? a = none := Heap.get?_none_of_le ha
        obtain ⟨q1, q2, q3, q4, q5⟩ := S2.fresh hn
        exact ⟨⟨hl, q4, q5⟩, q2, q3, hn, q1⟩
      have ne : ∀ {h : Heap} {a : Addr} {o : Obj}, h.get? a = some o → h.get? a ≠ none := fun q => by rw [q]; exact fun z => nomatch z
      refine for_walkT (own := [h2.objs.size + 4, h2.objs.size + 2, h2.objs.size + 3, h2.objs.size, h2.objs.size + 1]) (fz := fz2)
        (WalksT.zip2 Z.hh _ _ _ _ _ l1 l2 (zipApart_new (Heap.lt_size (S2.X.fzo _ _ b1)) (Heap.lt_size (S2.X.fzo _ _ d1))) xs ys) (by rw [zip_len, ← b4.size, ← d4.size]) Z ht B R2 ?_ ?_ ?_ ?_ (S2.step (S2.X.keeps hk) x3)
        ⟨hz, hTI, ⟨_, _, hTO⟩, hi1, hi2, hl1.at fun o e => hk _ o e, hl2.at fun o e => hk _ o e⟩ ?_ (Kp.of x3 pv) k2
      · exact List.forall_mem_cons.mpr ⟨.inl (.head _), List.forall_mem_cons.mpr ⟨.inl (.tail _ (.head _)), all5 (.inl (.tail _ (.tail _ (.head _)))) (.inl (.tail _ (.tail _ (.tail _ (.head _))))) (.inl (.tail _ (.tail _ (.tail _ (.tail _ (.head _)))))) (.inr ⟨_, b1⟩) (.inr ⟨_, d1⟩)⟩⟩
      · exact List.forall_mem_cons.mpr ⟨.head _, fun q hq => .tail _ (.tail _ hq)⟩
      · exact fun j h st => let ⟨z1, z2, ⟨_, _, z3⟩, ⟨_, z4, _⟩, ⟨_, z5, _⟩, _⟩ := st; all5 (ne z1) (ne z2) (ne z3) (ne z4) (ne z5)
      · intro j t vals hj hv
        obtain ⟨ta, tb, e1, e2, rfl⟩ := zip_get _ _ _ _ hj
        obtain ⟨va, vb, hva, hvb, rfl⟩ := hv
        exact ⟨_, rfl, .cons (b4.at_ e1 hva) (.cons (d4.at_ e2 hvb) .nil)⟩
      · exact all5 (newA _ (Nat.le_add_right _ _) (ne hz)) (newA _ (Nat.le_add_right _ _) (ne hTI)) (newA _ (Nat.le_add_right _ _) (ne hTO)) (newA _ (Nat.le_refl _) (let ⟨_, q, _⟩ := hi1; ne q)) (newA _ (Nat.le_add_right _ _) (let ⟨_, q, _⟩ := hi2; ne q))
    | _ => exact k2.elim
  | _ => exact k2.elim
end
section
variable {c : Fx} {hB hs : Heap} {fzB fzs : Fz} {hmB hms : Hm} {ρ ρ' : Rho} {m : Str → Option Value} {h h' : Heap} {fz fz' : Fz} {hm hm' : Hm} {σ σ' : Sg} {pv pvs : Nat → List Addr} {tk : Nat} {E : Value → Shared → Prop} {n : Nat} {mg mb : Str → Option Value} {ws : List Addr}
theorem swaps_true {i : Nat} {np : Pos} {elt : PySem.Expr} {gs : List Comprehension} {scope : Scope} {p : Pos} {ln : Nat} (C : Ec c fz hm) (hc : swapOk c.sc (sN i) np (.ListComp elt gs scope p) = true) (hk : kindIs c.sc (sN i) .local = true) :
    swapsWith (.ListComp elt gs scope p) (some (.Name (sN i) np)) ln c.env = pure true := by
  have hc' : (kindIs c.sc (sN i) .local && (np.line == p.line && !(scope.names.any fun x => x.1 == sN i && (x.2 == .local || x.2 == .cell)))) = true := hc
  have h2 := a1 (a2 hc')
  have h3 := a2 (a2 hc')
  have bk : c.env.blockKind = .function := by unfold Env.blockKind; rw [C.hsc, C.kind]; rfl
  show (pure (c.env.blockKind == .function && c.env.kindOf (sN i) == some .local && np.line == p.line && !(scope.names.any fun (n, k) => n == sN i && (k == .local || k == .cell))) : Sem Bool) = pure true
  rw [bk, kindL C hk, h2]
  congr 1
theorem XS.asgC {j i : Nat} {elt iter : PySem.Expr} {x : Str} {px pos np p : Pos} {ifs : List PySem.Expr} {scope : Scope} {s : Str} {fi : Rho → Sg → (T → Sg → Prop) → Prop} {fe : T → Sg → (T → Sg → Prop) → Prop} {ft : T → Sg → (T → Sg → Prop) → Prop}
    (Z : Act c.w mg mb n c.A c.h₀ c.L) (hn : nmOk s j = true) (hk : kindIs c.sc s .local = true) (hsw : swapOk c.sc s np (.ListComp elt [⟨.Name x px, iter, ifs, 0⟩] scope pos) = true) (hnx : nmOk x i = true) (hx : kindIs scope x .local = true) (ok : CompF c.sc scope) (hs : inMarks iter = true)
    (HI : ∀ ρ, SX (withR c ρ) (fi ρ) (eval iter c.env))
    (HE : ∀ ρ C t, SX (inC (withR c ρ) scope (closL c.env.cells scope.names []) C [(i, .t t)]) (fe t) (eval elt (compEnvC scope (closL c.env.cells scope.names []) C c.env)))
    (HT : ∀ ρ C t (m : Str → Option Value) (h : Heap) (fz : Fz) (hm : Hm) (σ : Sg) (tk : Nat) (Q : Bool → Shared → Prop) (E : Value → Shared → Prop) (K : Bool → Sg → Prop),
      Fr c.h₀ c.L h m → W c.w c.h₀ c.L h fz hm σ → En (inC (withR c ρ) scope (closL c.env.cells scope.names []) C [(i, .t t)]) h fz hm → ft t σ (onB K) → RB c h fz hm Q K →
      wpAny (model pw c.w) c.A (forIn ifs true fun e r => if r = true then do let ok ← isTrue e (compEnvC scope (closL c.env.cells scope.names []) C c.env) (eval e (compEnvC scope (closL c.env.cells scope.names []) C c.env)); pure (ForInStep.yield ok) else pure (ForInStep.yield r)) Q E (c.st h tk)) :
    XS c (fun ρ σ K => fi ρ σ (goP fe ft fun vs σ => K .next (pt ρ j (.t (.lst vs))) σ)) (exec (.Assign [.Name s np] (.ListComp elt [⟨.Name x px, iter, ifs, 0⟩] scope pos) p) c.env) := by
  intro hB fzB hmB ρ m h fz hm σ pv tk Q E K S k R
  obtain ⟨hj, rfl, _, _⟩ := nm_of hn
  rw [exec_Assign_Name_used _ _ _ _ (swaps_true S.C hsw hk)]
  refine wpAny_bind (wpAny_standAt (wpAny_bind ?_))
  show wpAny _ _ (do let _ ← comprehension (.ListComp elt [⟨.Name x px, iter, ifs, 0⟩] scope pos) scope c.env _ (newList []) false (eval iter c.env) (some (assign (.Name (sN j) np) c.env))) _ _ _
  refine wpAny_bind (wpAny_mono (comp_any (c := withR c ρ) (use := some (assign (.Name (sN j) np) c.env)) (Q := fun _ s' => Q .next s') Z S.F S.X S.en hnx hx ok hs (HI ρ) (HE ρ) (HT ρ) k fun D C h1 tk1 fz1 hm1 σ1 acc ys m1 kacc rl X1 x1 nD oD pD nC nsC pC dDC => ?_) (fun _ s' hq => wpAny_pure (wpAny_pure hq)) fun _ _ e => e)
  have S1 := S.step X1 x1
  obtain ⟨g1, g2, g3, _, _⟩ := S.fresh nD
  obtain ⟨c1, c2, c3, _, _⟩ := S.fresh nC
  have S2 := S1.freeze1 (o := lstO ys) oD g2 g3 pD.mt g1
  have kp2 : Kp c h fz hm pv h1 (addF fz1 D (lstO ys)) hm1 pv := (Kp.of x1 pv).freeze1 fun b o' e _ _ _ z => by rw [z, nD] at e; cases e
  show wpAny _ _ (assign (.Name (sN j) np) c.env (.ref D)) _ _ _
  refine PyProof.Rows.assign_Name (S2.bindT (t := .lst acc) hj hk (.lst (.inr ⟨rfl, rfl⟩) rfl rfl (rl.mono (fun _ _ => .inl) fun _ _ e => e)) fun m3 h3 pv3 S3 k3 => ?_)
  have pC2 : Priv h1 (addF fz1 D (lstO ys)) hm1 C := pC.frz (Ne.symm dDC)
  cases eC : h1.get? C with
  | none => exact absurd eC pC.live
  | some oC =>
    obtain ⟨eC3, pC3, vC3⟩ := k3.keep C oC eC pC2 c2 c3
    refine ⟨m1, nsC.at' fun o e => by rw [eC] at e; cases e; exact eC3, fun h4 hs4 => ?_⟩
    have hk4 : ∀ b o, b ∉ [C] → h3.get? b = some o → h4.get? b = some o := fun b o q e => sb_keep hs4 b o (fun z => q (by rw [z]; exact .head _)) e
    have S4 := S3.side (ws := [C]) hk4 fun a ha => by cases List.mem_singleton.mp ha; exact ⟨pC3, c2, vC3, c1⟩
    exact R.1 _ _ _ _ _ _ _ _ kacc S4 ((kp2.trans k3).side (ws := [C]) hk4 fun a ha => by cases List.mem_singleton.mp ha; exact nC)
end
section
variable {c : Fx} {hB hs : Heap} {fzB fzs : Fz} {hmB hms : Hm} {ρ ρ' : Rho} {m : Str → Option Value} {h h' : Heap} {fz fz' : Fz} {hm hm' : Hm} {σ σ' : Sg} {pv pvs : Nat → List Addr} {tk : Nat} {E : Value → Shared → Prop} {n : Nat} {mg mb : Str → Option Value} {ws : List Addr}
theorem SSt.cellW {a : Addr} {o : Obj} {v : Option Value} (S : SSt c hB fzB hmB ρ m h fz hm σ pv) (ha : a ∈ pv nsz) (hs : Heap.SameBut a h h') (ho : h'.get? a = some o) (hd : o.data = .cell v) : SSt c hB fzB hmB ρ m h' fz hm σ pv := by
  have hk := sb_keep hs
  have hl : h'.get? a ≠ none := by rw [ho]; exact fun z => nomatch z
  obtain ⟨pa, nB, nL⟩ := S.P nsz a ha
  have mv : ∀ {b : Addr}, Priv h fz hm b → Priv h' fz hm b := fun {b} p => by
    by_cases q : b = a
    · rw [q]; exact pa.at hl
    · refine p.at ?_
      cases e : h.get? b with
      | none => exact absurd e p.live
      | some o => rw [hk _ _ q e]; exact fun z => nomatch z
  refine ⟨⟨S.F.ns.at' fun o e => hk _ _ (Ne.symm nL) e, fun b o e => hk _ _ (fun q => ?_) (S.F.keep _ _ e), S.F.above⟩, S.X.but hk pa.mt pa.fz, S.x.but hk nB, S.C, fun j lv' e => ?_, fun j b hb => let ⟨p1, p2⟩ := S.P j b hb; ⟨mv p1, p2⟩, S.D, ⟨mv S.L.1, S.L.2⟩, S.B, fun s b h1 h2 h3 => ?_⟩
  · rw [q, S.B _ nB] at e; cases e
  · obtain ⟨hj, u, hu, ru⟩ := S.V j lv' e
    exact ⟨hj, u, hu, ru.move (fun b o hb e => hk _ _ (fun z => Nat.ne_of_lt hj (S.D j nsz a (z ▸ hb) ha)) e) (fun _ _ e => e) fun _ _ e => e⟩
  · obtain ⟨p, o', v', e1, e2⟩ := S.O s b h1 h2 h3
    by_cases q : b = a
    · exact ⟨p, o, v, by rw [q]; exact ho, hd⟩
    · exact ⟨p, o', v', hk _ _ q e1, e2⟩
theorem Kp.cellW {h₁ : Heap} {fz₁ : Fz} {hm₁ : Hm} {a : Addr} (k : Kp c h₁ fz₁ hm₁ pv h fz hm pv) (ha : a ∈ pv nsz) (hs : Heap.SameBut a h h') : Kp c h₁ fz₁ hm₁ pv h' fz hm pv := k.change ha hs
theorem swaps_cell {np : Pos} {e : PySem.Expr} {s : Str} {ln : Nat} (C : Ec c fz hm) (hk : kindIs c.sc s .cell = true) : swapsWith e (some (.Name s np)) ln c.env = pure false := by
  have key : ∀ (scope : Scope), (pure (c.env.blockKind == .function && c.env.kindOf s == some .local && np.line == e.pos.line && !(scope.names.any fun (n, k) => n == s && (k == .local || k == .cell))) : Sem Bool) = pure false := by
    intro scope
    rw [kindL C hk]
    have : ((some NameKind.cell : Option NameKind) == some .local) = false := by decide
    rw [this]
    simp
  cases e <;> first | rfl | exact key _
theorem XS.skipC {i : Nat} {e : PySem.Expr} {np p : Pos} {s : Str} {f : Rho → Sg → (T → Sg → Prop) → Prop} (hn : nmOk s i = true) (hk : kindIs c.sc s .cell = true) (x : ∀ ρ, SX (withR c ρ) (f ρ) (eval e c.env)) :
    XS c (fun ρ σ K => lk c.κ i = none ∧ f ρ σ fun _ σ => K .next ρ σ) (exec (.Assign [.Name s np] e p) c.env) := by
  intro hB fzB hmB ρ m h fz hm σ pv tk Q E K S a R
  obtain ⟨hi, rfl, _, _⟩ := nm_of hn
  refine wpAny_Assign_Name (S.eval (x ρ) a.2 fun t v h' tk' fz' hm' σ' a' r S' x' => ?_) (swaps_cell S.C hk)
  obtain ⟨ad, had⟩ := S'.C.has _ hk
  obtain ⟨hpv, o, v0, ho, hd⟩ := S'.O _ _ hk (fun j u hj hlt q => by
    have := sN_inj hlt hi q
    subst this
    rw [a.1] at hj; cases hj) had
  refine wpAny_storeName_cell (by rw [S'.C.hsc]; exact S'.C.kind) (kindL S'.C hk) had ⟨o, ho, hd⟩ fun h2 hc2 hs2 => ?_
  obtain ⟨o2, ho2, hd2⟩ := hc2
  exact (R.ext x').1 _ _ _ _ _ _ _ _ a' (S'.cellW hpv hs2 ho2 hd2) ((Kp.refl ..).cellW hpv hs2)
theorem XS.whlL {mm : Nat} {t : PySem.Expr} {body : List Stmt} {p : Pos} {f : Rho → Sg → (T → Sg → Prop) → Prop} {g : Rho → Sg → (Fl → Rho → Sg → Prop) → Prop} (ht : isName t = true) (x : ∀ ρ, SX (withR c ρ) (f ρ) (eval t c.env)) (B : XS c g (execs body c.env)) :
    XS c (fun ρ σ K => whL (fun ρ σ K => f ρ σ fun u σ => (match u with
        | .own i => (match σ[i]? with
          | some (.lst l) => l.length < 1000000 ∧ K (!l.isEmpty) σ
          | _ => False)
        | _ => False)) g mm ρ σ K) (exec (.While t body [] p) c.env) := by
  have sb : ∀ ρ, SB (withR c ρ) (fun σ K => f ρ σ fun u σ => (match u with
        | .own i => (match σ[i]? with
          | some (.lst l) => l.length < 1000000 ∧ K (.bool (!l.isEmpty)) σ
          | _ => False)
        | _ => False)) (isTrue t c.env (eval t c.env)) := by
    intro ρ m h fz hm σ tk Q E K F X N e hQ
    refine isTrue_plain ((x ρ).then F X N e fun u v h' tk' fz' hm' σ' a rv F' X' N' x' => ?_) (@PySem.Expr.Name.elim (fun t => isTrue t c.env (eval t c.env) = (do let v ← eval t c.env; standAt t.pos; holding [v] (truthy v))) t (Nat.eq_of_beq_eq_true ht) fun _ _ => rfl)
    cases rv with
    | own hi =>
      refine cL_m (c := σ'[_]?) (K := fun l => l.length < 1000000 ∧ K (!l.isEmpty) σ') a fun l hcell a => ?_
      obtain ⟨o', ho, hpp, hcl, vs, nn, hd, hr, -⟩ := X'.cell _ _ _ hcell hi
      have hsz := hr.size
      rw [hpp]
      refine wpAny_truthy_list (fz_lst ho hcl hd) (by rw [hsz]; exact to63 a.1) ?_
      have e2 : vs.isEmpty = l.isEmpty := by
        unfold Array.isEmpty
        rw [hsz]
        cases l <;> rfl
      rw [e2]
      exact hQ _ _ _ _ _ _ a.2 X' x'
    | _ => exact a.elim
  exact XS.whl sb B
end
noncomputable def fA (g : Nat) : Option Addr := match gs[g]? with
  | some (.cls _) => lk gIl g
  | _ => gA[g]?
noncomputable def isFG (g : Nat) : Bool := match gs[g]? with
  | some (.fn _) => true
  | some (.cls _) => true
  | _ => false
noncomputable def fdDef : FuncData := { name := Str.ofString "", qualname := Str.ofString "", params := ⟨[], [], none, [], [], none, []⟩, body := .stmts [], scope := ⟨.function, [], false, false, []⟩, globals := 0, closure := [], defaults := .none, kwdefaults := .none }
noncomputable def fdO (o : Option Obj) : FuncData := match o with
  | some o => onFd o.data fdDef fun d => d
  | none => fdDef
noncomputable def fdOf (P : Params) (g : Nat) : FuncData := fdO ((fA g).bind fun a => (mK P).lookup a)
noncomputable def dsOf (g : Nat) : List T := match gs[g]? with
  | some (.fn f) => f.ds
  | some (.cls c) => c.ds
  | _ => []
noncomputable def dflOk (P : Params) (ds : List T) (v : Value) : Bool := match ds with
  | [] => v == .none
  | d :: r => r.isEmpty && onRef v fun t => onS ((mK P).lookup t) fun o => onSq o.data fun a _ => on1 a.toList fun x => match d with
    | .none => x == .none
    | .glob g => Nat.beq g 84 && x == .ref 1292
    | _ => false
noncomputable def fnOk (P : Params) (g : Nat) : Bool := !(isFG g) || onS (fA g) fun a => onS ((mK P).lookup a) fun o => onFd o.data false fun fd => fd.closure.isEmpty && (fd.globals == mainGlobals && (fd.builtins == builtinsNs && (codeIn (mK P) fd.code fd.qualname && (fd.qualname == gQ g && (dflOk P (dsOf g) fd.defaults &&
        ((List.range 3).all fun k => !(gQ g ++ (".<locals>." : Str) ++ ("<lambda>" : Str) == laQ k) || onRef fd.code fun c => onS tA[k]? fun t => codeHdIn (mK P) c t))))))
theorem fnOk_ (P : Params) : ((List.range 88).all fun g => fnOk P g) = true := by kernel_rfl
noncomputable def fdTrip (fd : FuncData) : Arguments × FuncBody × Scope := (fd.params, fd.body, fd.scope)
noncomputable def stTrip (st : Stmt) : Arguments × FuncBody × Scope := (fdP st, .stmts (fdB st), fdS st)
theorem fnBody_ (P : Params) : ((List.range 88).map fun g => match isFG g with | true => fdTrip (fdOf P g) | false => fdTrip fdDef) = (List.range 88).map fun g => match isFG g with | true => stTrip (gStN g) | false => fdTrip fdDef := by kernel_rfl
structure FnD (P : Params) (g : Nat) (a : Addr) (o : Obj) (fd : FuncData) : Prop where
  at_ : fA g = some a
  look : (mK P).lookup a = some o
  data : o.data = .func fd
  params : fd.params = fdP (gStN g)
  body : fd.body = .stmts (fdB (gStN g))
  scope : fd.scope = fdS (gStN g)
  clo : fd.closure = []
  glob : fd.globals = mainGlobals
  blt : fd.builtins = builtinsNs
  code : codeIn (mK P) fd.code fd.qualname = true
  qual : fd.qualname = gQ g
  dfl : dflOk P (dsOf g) fd.defaults = true
  lam : ∀ k, k < 3 → gQ g ++ (".<locals>." : Str) ++ ("<lambda>" : Str) = laQ k → ∃ c t, fd.code = .ref c ∧ tA[k]? = some t ∧ codeHdIn (mK P) c t = true
theorem fn_of (P : Params) {g : Nat} (hg : g < 88) (hf : isFG g = true) : ∃ a o fd, FnD P g a o fd := by
  have h1 := List.all_eq_true.mp (fnOk_ P) g (List.mem_range.mpr hg)
  unfold fnOk at h1
  rw [hf] at h1
  obtain ⟨a, ha, h1⟩ := onS_t (show onS _ _ = true from h1)
  obtain ⟨o, ho, h1⟩ := onS_t h1
  obtain ⟨fd, hd, h1⟩ := onFd_t h1
  have h2 : fdTrip (fdOf P g) = stTrip (gStN g) := by
    have := congrArg (fun l => l[g]?) (fnBody_ P)
    rw [List.getElem?_map, List.getElem?_map, List.getElem?_range hg, Option.map_some, Option.map_some, hf] at this
    exact Option.some.inj this
  have e : fdOf P g = fd := by
    unfold fdOf
    rw [ha]
    show fdO ((mK P).lookup a) = fd
    rw [ho]
    show onFd o.data fdDef (fun d => d) = fd
    rw [hd]
    rfl
  rw [e] at h2
  refine ⟨a, o, fd, ha, ho, hd, congrArg (·.1) h2, congrArg (·.2.1) h2, congrArg (·.2.2) h2, nil_t (a1 h1), eq_of_beq (a1 (a2 h1)), eq_of_beq (a1 (a2 (a2 h1))), a1 (a2 (a2 (a2 h1))), eq_of_beq (a1 (a2 (a2 (a2 (a2 h1))))), a1 (a2 (a2 (a2 (a2 (a2 h1))))), fun k hk hq => ?_⟩
  have z := List.all_eq_true.mp (a2 (a2 (a2 (a2 (a2 (a2 h1)))))) k (List.mem_range.mpr hk)
  rw [hq, beq_self_eq_true] at z
  obtain ⟨c, hc, z⟩ := onRef_t (show onRef _ _ = true from z)
  obtain ⟨t, ht, z⟩ := onS_t z
  exact ⟨c, t, hc, ht, z⟩
theorem lookup_zip_some : ∀ {names : List Str} {vs : List Value} {n : Str}, names.length ≤ vs.length → n ∈ names → ((names.zip vs).lookup n).isSome = true
  | a :: r, v :: vs, n, h, hn => by
    rw [List.zip_cons_cons, List.lookup_cons]
    cases q : n == a with
    | true => rfl
    | false =>
      rcases List.mem_cons.mp hn with rfl | hn
      · rw [beq_self_eq_true] at q; cases q
      · exact lookup_zip_some (Nat.le_of_succ_le_succ h) hn
  | [], _, _, _, hn => nomatch hn
  | _ :: _, [], _, h, _ => absurd h (by simp)
theorem lookup_zip_none : ∀ {names : List Str} {vs : List Value} {n : Str}, n ∉ names → (names.zip vs).lookup n = none
  | a :: r, v :: vs, n, hn => by
    rw [List.zip_cons_cons, List.lookup_cons]
    have : (n == a) = false := beq_eq_false_iff_ne.mpr fun e => hn (by rw [e]; exact .head _)
    rw [this]
    exact lookup_zip_none fun z => hn (.tail _ z)
  | [], _, _, _ => by simp
  | _ :: _, [], _, _ => by simp
theorem filterMap_zip : ∀ {names : List Str} {vs : List Value}, names.Nodup → names.length = vs.length → names.filterMap (fun n => ((names.zip vs).lookup n).map fun x => (n, x)) = names.zip vs
  | [], [], _, _ => rfl
  | a :: r, v :: vs, hn, h => by
    rw [List.nodup_cons] at hn
    rw [List.zip_cons_cons, List.filterMap_cons, List.lookup_cons, beq_self_eq_true]
    show (a, v) :: _ = _
    congr 1
    rw [← filterMap_zip hn.2 (Nat.succ.inj h)]
    have key : ∀ (l : List Str), (∀ x ∈ l, x ≠ a) → l.filterMap (fun n => (((a, v) :: r.zip vs).lookup n).map fun x => (n, x)) = l.filterMap (fun n => ((r.zip vs).lookup n).map fun x => (n, x)) := by
      intro l
      induction l with
      | nil => intro _; rfl
      | cons x l ih =>
        intro hx
        have e : (x == a) = false := beq_eq_false_iff_ne.mpr (hx x (.head _))
        rw [List.filterMap_cons, List.filterMap_cons, List.lookup_cons, e, ih fun y hy => hx y (.tail _ hy)]
    rw [filterMap_zip hn.2 (Nat.succ.inj h)]
    rw [key r fun x hx q => hn.1 (q ▸ hx)]
    exact filterMap_zip hn.2 (Nat.succ.inj h)
  | [], _ :: _, _, h => by cases h
  | _ :: _, [], _, h => by cases h
theorem bind_miss {names : List Str} {vs dl : List Value} (hl : vs.length ≤ names.length) (hle : names.length ≤ vs.length + dl.length) : (List.filter (fun n => (List.lookup n (names.zip vs)).isNone) (List.take (names.length - (List.drop (dl.length - names.length) dl).length) names)) = [] := by
  rw [List.filter_eq_nil_iff]
  intro x hx
  have hlen : names.length - (List.drop (dl.length - names.length) dl).length ≤ vs.length := by
    rw [List.length_drop]
    refine Nat.sub_le_of_le_add ?_
    rcases Nat.le_total names.length dl.length with q | q
    · rw [Nat.sub_sub_self q]; exact Nat.le_add_left _ _
    · rw [Nat.sub_eq_zero_of_le q]; exact hle
  have e : names.zip vs = (names.take vs.length).zip vs := by
    rw [List.zip_eq_zip_take_min]
    rw [Nat.min_eq_right hl, List.take_length]
  have hx' : x ∈ names.take vs.length := by
    have : List.take (names.length - (List.drop (dl.length - names.length) dl).length) names = List.take (names.length - (List.drop (dl.length - names.length) dl).length) (List.take vs.length names) := by
      rw [List.take_take, Nat.min_eq_left hlen]
    rw [this] at hx
    exact List.mem_of_mem_take hx
  have := lookup_zip_some (vs := vs) (by rw [List.length_take]; exact Nat.min_le_left _ _) hx'
  rw [e]
  simpa using Option.isSome_iff_ne_none.mp this
theorem bind_loop {names : List Str} {vs dl : List Value} (hl : vs.length ≤ names.length) (hn : names.Nodup) (hd : dl.length ≤ 1) (hle : names.length ≤ vs.length + dl.length) : (forIn ((List.drop (names.length - (List.drop (dl.length - names.length) dl).length) names).zip (List.drop (dl.length - names.length) dl)) (names.zip vs) fun (x : Str × Value) (st : List (Str × Value)) =>
      (if (List.lookup x.fst st).isNone = true then pure (ForInStep.yield (st ++ [(x.fst, x.snd)])) else pure (ForInStep.yield st) : Sem _)) = pure (names.zip (vs ++ dl.drop (dl.length - (names.length - vs.length)))) := by
  cases dl with
  | nil =>
    have : names.length = vs.length := by have := hle; simp at this; omega
    simp
  | cons dv r =>
    obtain rfl : r = [] := List.length_eq_zero_iff.mp (by have := hd; simp only [List.length_cons] at this; omega)
    rcases List.eq_nil_or_concat names with rfl | ⟨init, last, rfl⟩
    · have : vs = [] := List.length_eq_zero_iff.mp (by simpa using hl)
      subst this
      simp
    · rw [List.concat_eq_append] at hn hl hle ⊢
      have hnd : init.Nodup ∧ last ∉ init := by
        rw [List.nodup_append] at hn
        exact ⟨hn.1, fun q => hn.2.2 last q last (by simp) rfl⟩
      have hlen : (init ++ [last]).length = init.length + 1 := by simp
      have e0 : List.drop ([dv].length - (init ++ [last]).length) [dv] = [dv] := by rw [hlen]; simp
      rw [e0]
      have e1 : List.drop ((init ++ [last]).length - [dv].length) (init ++ [last]) = [last] := by rw [hlen]; simp
      rw [e1]
      by_cases hk : vs.length = init.length + 1
      · have hlk : (List.lookup last ((init ++ [last]).zip vs)).isNone = false := by
          have := lookup_zip_some (names := init ++ [last]) (vs := vs) (n := last) (by rw [hlen, hk]; exact Nat.le_refl _) (by simp)
          cases q : List.lookup last ((init ++ [last]).zip vs) with
          | none => rw [q] at this; cases this
          | some _ => rfl
        rw [List.zip_cons_cons, List.zip_nil_right, List.forIn_cons]
        simp only [hlk, Bool.false_eq_true, if_false, pure_bind, List.forIn_nil]
        have : [dv].drop ([dv].length - ((init ++ [last]).length - vs.length)) = [] := by rw [hlen, hk]; simp
        rw [this, List.append_nil]
      · have hk' : vs.length = init.length := by rw [hlen] at hl hle; simp at hle; omega
        have hz : (init ++ [last]).zip vs = init.zip vs := by
          rw [List.zip_eq_zip_take_min, hlen, hk', Nat.min_eq_right (Nat.le_succ _), List.take_left' rfl, ← hk', List.take_length]
        have hlk : (List.lookup last (init.zip vs)).isNone = true := by rw [lookup_zip_none hnd.2]; rfl
        rw [List.zip_cons_cons, List.zip_nil_right, List.forIn_cons, hz]
        simp only [hlk, if_true, pure_bind, List.forIn_nil]
        have : [dv].drop ([dv].length - ((init ++ [last]).length - vs.length)) = [dv] := by rw [hlen, hk']; simp
        rw [this, List.zip_append (by rw [hk'])]
        rfl
theorem bind_len {names : List Str} {vs dl : List Value} (hl : vs.length ≤ names.length) (hle : names.length ≤ vs.length + dl.length) : names.length = (vs ++ dl.drop (dl.length - (names.length - vs.length))).length := by
  rw [List.length_append, List.length_drop, Nat.sub_sub_self (Nat.sub_le_iff_le_add'.mpr hle), Nat.add_sub_cancel' hl]
theorem par_eq {p : Arguments} (h1 : p.posonlyargs = []) (h3 : p.kwonlyargs = []) (h4 : p.vararg = none) (h5 : p.kwarg = none) : p = ⟨[], p.args, none, [], p.kw_defaults, none, p.defaults⟩ := by
  obtain ⟨po, pa, va, ko, kd, kw, pd⟩ := p
  show (⟨po, pa, va, ko, kd, kw, pd⟩ : Arguments) = ⟨[], pa, none, [], kd, none, pd⟩
  rw [show po = [] from h1, show ko = [] from h3, show va = none from h4, show kw = none from h5]
theorem wp_else {α : Type} {c : Prop} [Decidable c] {a b : Sem α} {M : Model} {A : Around} {E : Value → Shared → Prop} {s : Shared} {Q : α → Shared → Prop} (h : ¬c) (k : wpAny M A b Q E s) : wpAny M A (if c then a else b) Q E s := by rw [if_neg h]; exact k
theorem bind_go {fd : FuncData} {names : List Str} {vs dl : List Value} {M : Model} {A : Around} {E : Value → Shared → Prop} {s : Shared} {Q : List (Str × Value) → Shared → Prop} (h1 : fd.params.posonlyargs = []) (h2 : fd.params.args.map (·.arg) = names) (h3 : fd.params.kwonlyargs = []) (h4 : fd.params.vararg = none) (h5 : fd.params.kwarg = none)
    (hl : vs.length ≤ names.length) (hn : names.Nodup) (hd : dl.length ≤ 1) (hle : names.length ≤ vs.length + dl.length)
    (hs : ∃ o : Option (Array Value), (o.getD #[]).toList = dl ∧ ∀ Q : Option (Array Value) → Shared → Prop, Q o s → wpAny M A (seqItems? fd.defaults) Q E s)
    (hQ : Q (names.zip (vs ++ dl.drop (dl.length - (names.length - vs.length)))) s) : wpAny M A (bindArgs fd ⟨vs, []⟩) Q E s := by
  subst h2
  obtain ⟨o, rfl, hs⟩ := hs
  refine Eq.mpr (congrArg (fun p => wpAny M A (bindArgs { fd with params := p } ⟨vs, []⟩) Q E s) (par_eq h1 h3 h4 h5)) ?_
  refine wpAny_bind (wpAny_pure (wpAny_bind (hs _ ?_)))
  refine wp_else (fun h => absurd (of_decide_eq_true (a1 h)) (Nat.not_lt.mpr hl)) (wp_else (fun h => nT ((congrArg (fun l : List Str => !l.isEmpty) (bind_miss hl hle)).symm.trans h)) ?_)
  refine wpAny_bind (wpAny_of_eq (bind_loop hl hn hd hle) (wpAny_pure ?_))
  refine Eq.subst (motive := fun l => Q l s) ?_ hQ
  exact ((congrArg _ (List.append_nil _)).trans (filterMap_zip hn (bind_len hl hle))).symm
theorem bindL_other {kf : Str → Option NameKind} : ∀ (r : List (Str × Value)) (m : Str → Option Value) (x : Str), x ∉ r.map (·.1) → PySem.bindL kf r m x = m x
  | [], _, _, _ => rfl
  | (n, v) :: r, m, x, h => by
    unfold PySem.bindL
    rw [bindL_other r _ x fun q => h (.tail _ q)]
    split
    · exact if_neg fun e => h (by rw [e]; exact .head _)
    · rfl
theorem bindC_other {kf : Str → Option NameKind} : ∀ (r : List (Str × Value)) (m : Str → Option Value) (x : Str), x ∉ r.map (·.1) → PySem.bindC kf r m x = m x
  | [], _, _, _ => rfl
  | (n, v) :: r, m, x, h => by
    unfold PySem.bindC
    rw [bindC_other r _ x fun q => h (.tail _ q)]
    split
    · rfl
    · exact if_neg fun e => h (by rw [e]; exact .head _)
section
variable {w : World} {fz : Fz} {hm : Hm}
theorem zipNames : ∀ (ps : List Nat) (ws : List Value), ∀ x ∈ ((ps.map sN).zip ws).map (·.1), x ∈ ps.map sN := fun ps ws x hx => by
  obtain ⟨p, hp, rfl⟩ := List.mem_map.mp hx
  exact (List.of_mem_zip hp).1
theorem binds_get {kf : Str → Option NameKind} {cs : List Nat} : ∀ (ps : List Nat) (ts : List T) (ws : List Value) (m : Str → Option Value), RepL w fz hm ts ws → ps.Nodup → (∀ i ∈ ps, i < nsz) → (∀ i ∈ ps, kf (sN i) = some (if isIn cs i then .cell else .local)) →
    ∀ i t, (i, t) ∈ ps.zip ts → ∃ v, (isIn cs i = false → PySem.bindL kf ((ps.map sN).zip ws) m (sN i) = some v) ∧ (isIn cs i = true → PySem.bindC kf ((ps.map sN).zip ws) m (sN i) = some v) ∧ Rep w fz hm t v := by
  intro ps
  induction ps with
  | nil => intro ts ws m rl hn hz hk i t h; exact nomatch h
  | cons j ps ih =>
    intro ts ws m rl hn hz hk i t h
    cases ts with
    | nil => exact nomatch h
    | cons u ts =>
    revert m
    refine rl.cons_e fun v ws ru rs m => ?_
    rw [List.nodup_cons] at hn
    rw [List.map_cons, List.zip_cons_cons]
    rw [List.zip_cons_cons] at h
    rcases List.mem_cons.mp h with e | h
    · cases e
      have hni : sN j ∉ ((ps.map sN).zip ws).map (·.1) := fun q => by
        obtain ⟨k, hk, e⟩ := List.mem_map.mp (zipNames ps ws _ q)
        exact hn.1 (sN_inj (hz k (.tail _ hk)) (hz j (.head _)) e ▸ hk)
      refine ⟨v, fun hc => ?_, fun hc => ?_, ru⟩
      · unfold PySem.bindL
        rw [bindL_other _ _ _ hni, if_pos (by rw [hk j (.head _), hc]; rfl)]
        exact if_pos rfl
      · unfold PySem.bindC
        rw [bindC_other _ _ _ hni, if_neg (by rw [hk j (.head _), hc]; decide)]
        exact if_pos rfl
    · unfold PySem.bindL PySem.bindC
      obtain ⟨v1, a1, a2, a3⟩ := ih ts ws (if kf (sN j) = some .local then fun y => if y = sN j then some v else m y else m) rs hn.2 (fun i hi => hz i (.tail _ hi)) (fun i hi => hk i (.tail _ hi)) i t h
      obtain ⟨v2, b1, b2, b3⟩ := ih ts ws (if kf (sN j) = some .local then m else fun y => if y = sN j then some v else m y) rs hn.2 (fun i hi => hz i (.tail _ hi)) (fun i hi => hk i (.tail _ hi)) i t h
      cases hc : isIn cs i with
      | false => exact ⟨v1, fun _ => a1 hc, (fun q => nT q), a3⟩
      | true => exact ⟨v2, (fun q => nT q.symm), fun _ => b2 hc, b3⟩
theorem lk_filter {α : Type} {f : Nat → Bool} : ∀ {l : List (Nat × α)} {i : Nat} {t : α}, lk (l.filter fun p => f p.1) i = some t → (i, t) ∈ l ∧ f i = true := fun {l i t} h => by
  have := lk_mem h
  rw [List.mem_filter] at this
  exact this
theorem lk_lvs : ∀ {l : List (Nat × T)} {i : Nat} {lv : LV}, lk (lvs l) i = some lv → ∃ t, lv = .t t ∧ lk l i = some t
  | (j, t) :: l, i, lv, h => by
    have h' : (match Nat.beq j i with | true => some (LV.t t) | false => lk (lvs l) i) = some lv := h
    show ∃ t', lv = .t t' ∧ (match Nat.beq j i with | true => some t | false => lk l i) = some t'
    cases q : Nat.beq j i with
    | true => rw [q] at h'; cases h'; exact ⟨t, rfl, rfl⟩
    | false => rw [q] at h'; exact lk_lvs h'
end
section
variable {w : World} {h₀ h h' : Heap} {L : Addr} {fz fz' : Fz} {hm hm' : Hm} {σ : Sg} {m : Str → Option Value}
noncomputable def frP (fz : Fz) (h : Heap) (P : Addr → Prop) : Fz := fun a o => fz a o ∨ (P a ∧ h.get? a = some o)
theorem W.freezeP {P : Addr → Prop} (X : W w h₀ L h fz hm σ) (hP : ∀ a, P a → ¬ Mt hm a) : W w h₀ L h (frP fz h P) hm σ := by
  refine ⟨X.len, fun a o e => e.elim (X.fzo a o) (·.2), fun a o e => e.elim (X.fzm a o) fun q => hP a q.1, X.nd, fun i cc p e1 e2 => ?_, X.mt, fun k a e => ?_⟩
  · obtain ⟨o, g, r⟩ := X.cell i cc p e1 e2
    exact ⟨o, g, r.mono (fun _ _ => .inl) fun _ _ e => e⟩
  · obtain ⟨o, g, r⟩ := X.tab k a e
    exact ⟨o, g, r.mono fun _ _ => .inl⟩
theorem Ext.freezeP {P : Addr → Prop} (x : Ext h fz hm h' fz hm) (hP : ∀ a, P a → h.get? a = none) : Ext h fz hm h' (frP fz h' P) hm :=
  ⟨x.keep, fun _ _ => .inl, fun a o e => e.elim .inl fun q => .inr (hP a q.1), x.hmx, x.dom⟩
end
theorem dfl_rep {w : World} {fz : Fz} {hm : Hm} {P : Params} {ds : List T} {v : Value} (e : dflOk P ds v = true) : (ds = [] ∧ v = .none) ∨ ∃ d t o x n, ds = [d] ∧ v = .ref t ∧ (mK P).lookup t = some o ∧ o.data = .seq ⟨[x]⟩ n ∧ Rep w fz hm d x := by
  cases ds with
  | nil => exact .inl ⟨rfl, eq_of_beq e⟩
  | cons d r =>
    have hn := nil_t (a1 e)
    obtain ⟨t, rfl, e⟩ := onRef_t (z := v) (a2 e)
    subst hn
    obtain ⟨o, ho, e⟩ := onS_t e
    obtain ⟨⟨l⟩, n0, hd, e⟩ := onSq_t e
    obtain ⟨x, hx, e⟩ := on1_t e
    obtain rfl : l = [x] := hx
    refine .inr ⟨d, t, o, x, n0, rfl, rfl, ho, hd, ?_⟩
    cases d with
    | none => rw [eq_of_beq e]; exact .none
    | glob g => rw [show g = 84 from Nat.eq_of_beq_eq_true (a1 e), eq_of_beq (a2 e)]; exact .glob (by decide)
    | _ => exact nT e
section
variable {w : World} {mg mb : Str → Option Value} {n : Nat} {A : Around} {h₀ h : Heap} {L : Addr} {m : Str → Option Value} {fz : Fz} {hm : Hm} {σ : Sg} {g : Array GenState} {d : Drawn} {tk : Nat} {os : OsState}
noncomputable def fxOf (w : World) (A : Around) (h : Heap) (hm : Hm) (g : Array GenState) (d : Drawn) (os : OsState) (gg : Nat) (env : Env) (κ : List (Nat × T)) : Fx :=
  { w := w, A := A.deeper env, h₀ := hideAll h (mtL hm), L := h.objs.size, g := g, d := d, os := os, env := env, sc := fdS (gStN gg), q := gQ gg ++ (".<locals>." : Str), κ := κ, ρ := [] }
theorem enter_top {gg : Nat} {a : Addr} {o : Obj} {fd : FuncData} {ps cs : List Nat} {ds ts args : List T} {vs : List Value} {nd : Nat} {R : Result → Shared → Prop} (hroom : A.depth < recursionLimit) (hXh : (mK w.params).In h) (hT : h.NoLimit) (en : ∀ env' : Env, env'.frame = some h.objs.size → env'.scope.kind = .function → Act w mg mb n (A.deeper env') (hideAll h (mtL hm)) h.objs.size) (X : W w h₀ L h fz hm σ)
    (D : FnD w.params gg a o fd) (PF : ParF ps nd (fdP (gStN gg)) (fdS (gStN gg)) cs) (hds : ds = dsOf gg) (rl : RepL w fz hm args vs)
    (hle1 : args.length ≤ ps.length) (hle2 : ps.length ≤ args.length + ds.length) (hts : ts = args ++ ds.drop (ds.length - (ps.length - args.length)))
    (k : ∀ env h1 tk1 fz1 m1 pv1 (E : Value → Shared → Prop),
      SSt (fxOf w A h hm g d os gg env ((ps.zip ts).filter fun p => isIn cs p.1)) h fz hm (lvs ((ps.zip ts).filter fun p => !(isIn cs p.1))) m1 h1 fz1 hm σ pv1 → Act w mg mb n (A.deeper env) (hideAll h (mtL hm)) h.objs.size →
      wpAny (model pw w) (A.deeper env) (execs (fdB (gStN gg)) env) (fun f s' => R (.ok (.ret (match f with | .ret v => v | _ => .none))) s') E ⟨h1, g, d, tk1, os⟩) :
    codeAny (model pw w) A (.call (.ref a) ⟨vs, []⟩) R ⟨h, g, d, tk, os⟩ := by
  subst hds
  have hkd : ∀ i ∈ ps, (fdS (gStN gg)).names.lookup (sN i) = some (if isIn cs i then .cell else .local) := fun i hi => beq_iff_eq.mp (PF.kinds i hi).2
  obtain ⟨dv, hdv1, hdv2, hdv3⟩ : ∃ dl : List Value, dl.length = (dsOf gg).length ∧ RepL w fz hm (dsOf gg) dl ∧ ∃ o : Option (Array Value), (o.getD #[]).toList = dl ∧ ∀ (M : Model) (A : Around) (E : Value → Shared → Prop) (Q : Option (Array Value) → Shared → Prop), Q o ⟨h, g, d, tk, os⟩ → wpAny M A (seqItems? fd.defaults) Q E ⟨h, g, d, tk, os⟩ := by
    rcases dfl_rep (w := w) (fz := fz) (hm := hm) D.dfl with ⟨e1, e2⟩ | ⟨dd, t, oT, x, nT, e1, e2, hT, hTd, rr⟩
    · exact ⟨[], by rw [e1]; rfl, by rw [e1]; exact .nil, none, rfl, fun M A E Q hQ => by rw [e2]; exact wpAny_pure hQ⟩
    · exact ⟨[x], by rw [e1]; rfl, by rw [e1]; exact .cons rr .nil, some #[x], rfl, fun M A E Q hQ => by rw [e2]; exact wpAny_seqItems (hXh _ _ hT) hTd hQ⟩
  have hdl1 : dv.length ≤ 1 := by
    rw [hdv1]
    rcases dfl_rep (w := w) (fz := fz) (hm := hm) D.dfl with ⟨e1, _⟩ | ⟨_, _, _, _, _, e1, _⟩ <;> rw [e1] <;> simp
  have hvl := rl.length
  have rts : RepL w fz hm ts (vs ++ dv.drop (dv.length - (ps.length - vs.length))) := by
    rw [hts, ← hvl, ← hdv2.length]
    exact rl.append (hdv2.drop _)
  generalize hws : vs ++ dv.drop (dv.length - (ps.length - vs.length)) = ws at rts
  refine codeAny_call_function (A := A) hroom (hXh _ _ D.look) D.data (by rw [D.scope]; exact PF.co) (by rw [D.scope]; exact PF.ge) D.body (codeRec_of hXh D.code) ?_
  have hnames : fd.params.args.map (·.arg) = ps.map sN := by rw [D.params]; exact PF.names
  have hnd : (ps.map sN).Nodup := by
    exact List.pairwise_map.mpr (PF.nodup.imp_of_mem fun hx hy ne e => ne (sN_inj (PF.kinds _ hx).1 (PF.kinds _ hy).1 e))
  refine bind_go (names := ps.map sN) (dl := dv) (by rw [D.params]; exact PF.pos) hnames (by rw [D.params]; exact PF.kwo) (by rw [D.params]; exact PF.va) (by rw [D.params]; exact PF.kwa) (by rw [List.length_map, ← hvl]; exact hle1) hnd hdl1 (by rw [List.length_map, hdv1, ← hvl]; exact hle2) (let ⟨o, e, k⟩ := hdv3; ⟨o, e, fun Q => k _ _ _ Q⟩) ?_
  rw [List.length_map, hws, D.clo, D.scope]
  refine wpAny_newFunctionEnv_cells PF.fn (fun x hx => ?_) fun env he s' ic => ?_
  · have hx1 := List.mem_map_of_mem (f := Prod.fst) hx
    obtain ⟨i, hi, e⟩ := List.mem_map.mp (zipNames ps ws _ hx1)
    rw [← e]
    cases hc : isIn cs i with
    | false => exact .inl (by rw [hkd i hi, hc]; rfl)
    | true =>
      have hl : (fdS (gStN gg)).names.lookup (sN i) = some .cell := by rw [hkd i hi, hc]; rfl
      exact .inr ⟨hl, cellsFrom_some _ _ _ (.inl hl)⟩
  · refine ⟨hT.keeps ic.toInCall.keep, codeAny_func ?_⟩
    obtain ⟨h1, tk1, rfl⟩ := ic.toInCall.same
    have hL : env.locals = h.objs.size := by rw [he]; rfl
    have hfr : env.frame = some h.objs.size := by rw [he]; rfl
    have hsc : env.scope = fdS (gStN gg) := by rw [he]; rfl
    have hcl : env.cells = cellsFrom (h.objs.size + 1) (fdS (gStN gg)).names [] := by rw [he]; rfl
    have hkf : ∀ s, env.kindOf s = (fdS (gStN gg)).names.lookup s := fun s => by unfold Env.kindOf; rw [hsc]
    have keep : ∀ b o, h.get? b = some o → h1.get? b = some o := ic.toInCall.keep
    have hns := ic.toInCall.ns
    rw [hL] at hns
    have above : ∀ s c, (s, c) ∈ env.cells → h.get? c = none := fun s c hm => Heap.get?_none_of_le (Nat.le_of_lt (by have := ic.above s c hm; rw [hL] at this; exact this))
    have neL : ∀ s c, (s, c) ∈ env.cells → c ≠ h.objs.size := fun s c hm => Nat.ne_of_gt (by have := ic.above s c hm; rw [hL] at this; exact this)
    let κ := (ps.zip ts).filter fun p => isIn cs p.1
    let Pf : Addr → Prop := fun a => ∃ i v, lk κ i = some v ∧ i < nsz ∧ env.cells.lookup (sN i) = some a
    have hPfresh : ∀ a, Pf a → h.get? a = none := fun a ⟨i, v, _, _, e⟩ => above _ _ (mem_of_lookup e)
    have X1 : W w (hideAll h (mtL hm)) h.objs.size h1 (frP fz h1 Pf) hm σ := (X.into.keeps keep).freezeP fun a ha => X.fresh_mt (hPfresh a ha)
    have x1 : Ext h fz hm h1 (frP fz h1 Pf) hm := (Ext.keeps fz hm keep).freezeP hPfresh
    have Z' := en env hfr (by rw [hsc]; exact PF.fn)
    have F1 : Fr (hideAll h (mtL hm)) h.objs.size h1 (PySem.bindL env.kindOf ((ps.map sN).zip ws) fun _ => none) := ⟨hns, fun b o e => keep _ _ (of_hideAll _ e), Nat.le_of_eq (hideAll_size _ _)⟩
    have hkfi : ∀ i ∈ ps, env.kindOf (sN i) = some (if isIn cs i then .cell else .local) := fun i hi => by rw [hkf]; exact hkd i hi
    have hnz : ∀ i ∈ ps, i < nsz := fun i hi => (PF.kinds i hi).1
    have get := fun i t hit => binds_get (cs := cs) ps ts ws (fun _ => none) rts PF.nodup hnz hkfi i t hit
    have psof : ∀ i t, (i, t) ∈ ps.zip ts → i ∈ ps := fun i t hit => (List.of_mem_zip hit).1
    have upR : ∀ {t v}, Rep w fz hm t v → Rep w (frP fz h1 Pf) hm t v := fun r => r.mono (fun _ _ => .inl) fun _ _ e => e
    have notk : ∀ s, Decidable (∀ i v, lk κ i = some v → i < nsz → sN i ≠ s) := fun s => Classical.propDecidable _
    let own : List Addr := ((fdS (gStN gg)).names.map (·.1) |>.filter fun s => @decide (∀ i v, lk κ i = some v → i < nsz → sN i ≠ s) (notk s)).filterMap (env.cells.lookup ·)
    have hown : ∀ a, a ∈ own → ∃ s, env.cells.lookup s = some a ∧ ∀ i v, lk κ i = some v → i < nsz → sN i ≠ s := fun a ha => by
      obtain ⟨s, hs, e⟩ := List.mem_filterMap.mp ha
      rw [List.mem_filter] at hs
      exact ⟨s, e, of_decide_eq_true hs.2⟩
    let pv1 : Nat → List Addr := fun i => if i = nsz then own else []
    have hpv1 : ∀ i a, a ∈ pv1 i → i = nsz ∧ a ∈ own := fun i a ha => by
      by_cases e : i = nsz
      · exact ⟨e, by simpa [pv1, e] using ha⟩
      · simp [pv1, e] at ha
    have hpn : pv1 nsz = own := if_pos rfl
    have S : SSt (fxOf w A h hm g d os gg env κ) h fz hm (lvs ((ps.zip ts).filter fun p => !(isIn cs p.1))) (PySem.bindL env.kindOf ((ps.map sN).zip ws) fun _ => none) h1 (frP fz h1 Pf) hm σ pv1 := by
      refine ⟨F1, X1, x1, ⟨hsc, PF.fn, by rw [he]; exact D.glob, by rw [he]; exact D.blt, by rw [he]; show fd.qualname ++ (".<locals>." : Str) = _; rw [D.qual]; rfl, fun i v hl hk => ?_, fun s hk => ?_, fun k hk hq => ?_, hL⟩, fun i lv hl => ?_, fun i a ha => ?_, fun i j a hi hj => ?_, ⟨⟨ns_live hns, X.fresh_mt (get_none_size h), fun o q => ?_⟩, get_none_size h⟩, fun b hb => ?_, fun s a hk hn hl => ?_⟩
      · obtain ⟨hmem, hc⟩ := lk_filter hl
        have hip := psof _ _ hmem
        obtain ⟨u, _, hu, ru⟩ := get i v hmem
        have hlk : (fdS (gStN gg)).names.lookup (sN i) = some .cell := by rw [hkd i hip, hc]; rfl
        obtain ⟨ad, had⟩ := Option.isSome_iff_exists.mp (cellsFrom_some (x := sN i) (fdS (gStN gg)).names (h.objs.size + 1) [] (.inl hlk))
        have had' : env.cells.lookup (sN i) = some ad := by rw [hcl]; exact had
        obtain ⟨oc, hoc, hdc⟩ := ic.cell _ _ had'
        exact ⟨ad, oc, u, had', .inr ⟨⟨i, v, hl, hnz i hip, had'⟩, hoc⟩, by rw [hdc, hu hc], upR ru⟩
      · have hlk : (fdS (gStN gg)).names.lookup s = some .cell := beq_iff_eq.mp hk
        obtain ⟨ad, had⟩ := Option.isSome_iff_exists.mp (cellsFrom_some (x := s) (fdS (gStN gg)).names (h.objs.size + 1) [] (.inl hlk))
        exact ⟨ad, by show env.cells.lookup s = some ad; rw [hcl]; exact had⟩
      · obtain ⟨cc, tt, e1, e2, e3⟩ := D.lam k hk hq
        exact ⟨cc, tt, by rw [he]; exact e1, e2, codeHd_of_K Z'.X e3⟩
      · obtain ⟨t, rfl, hl'⟩ := lk_lvs hl
        obtain ⟨hmem, hc⟩ := lk_filter (f := fun i => !(isIn cs i)) hl'
        have hc : isIn cs i = false := by simpa using hc
        obtain ⟨u, hu, _, ru⟩ := get i t hmem
        refine ⟨hnz i (psof _ _ hmem), u, hu hc, ?_, upR ru⟩
        have : i ≠ nsz := Nat.ne_of_lt (hnz i (psof _ _ hmem))
        simp [pv1, this]
      · obtain ⟨rfl, ha⟩ := hpv1 i a ha
        obtain ⟨s, hs, hn⟩ := hown a ha
        obtain ⟨oc, hoc, _⟩ := ic.cell _ _ hs
        have hfr' := above _ _ (mem_of_lookup hs)
        refine ⟨⟨by rw [hoc]; exact (fun z => nomatch z), X.fresh_mt hfr', fun o q => ?_⟩, hfr', neL _ _ (mem_of_lookup hs)⟩
        rcases q with q | ⟨⟨i, v, hi, hlt, hl⟩, _⟩
        · exact X.fresh_fz hfr' o q
        · exact hn i v hi hlt (name_of_addr ic.apart (mem_of_lookup hl) (mem_of_lookup hs))
      · rw [(hpv1 i a hi).1, (hpv1 j a hj).1]
      · rcases q with q | ⟨⟨i, v, hi, hlt, hl⟩, _⟩
        · exact X.fresh_fz (get_none_size h) o q
        · exact neL _ _ (mem_of_lookup hl) rfl
      · cases q : (hideAll h (mtL hm)).get? b with
        | none => exact q
        | some o => rw [of_hideAll _ q] at hb; cases hb
      · have hl : env.cells.lookup s = some a := hl
        obtain ⟨oc, hoc, hdc⟩ := ic.cell _ _ hl
        refine ⟨?_, oc, _, hoc, hdc⟩
        rw [hpn]
        refine List.mem_filterMap.mpr ⟨s, List.mem_filter.mpr ⟨?_, decide_eq_true hn⟩, hl⟩
        exact List.mem_map.mpr ⟨_, mem_of_lookup (beq_iff_eq.mp hk : (fdS (gStN gg)).names.lookup s = some .cell), rfl⟩
    exact k env h1 tk1 _ _ pv1 _ S Z'
theorem enter_fn {gg : Nat} {a : Addr} {o : Obj} {fd : FuncData} {ps cs : List Nat} {ds ts args : List T} {vs : List Value} {nd : Nat} {R : Result → Shared → Prop} (Z : Act w mg mb (n + 1) A h₀ L) (F : Fr h₀ L h m) (X : W w h₀ L h fz hm σ)
    (D : FnD w.params gg a o fd) (PF : ParF ps nd (fdP (gStN gg)) (fdS (gStN gg)) cs) (hds : ds = dsOf gg) (rl : RepL w fz hm args vs)
    (hle1 : args.length ≤ ps.length) (hle2 : ps.length ≤ args.length + ds.length) (hts : ts = args ++ ds.drop (ds.length - (ps.length - args.length)))
    (k : ∀ env h1 tk1 fz1 m1 pv1 (E : Value → Shared → Prop),
      SSt (fxOf w A h hm g d os gg env ((ps.zip ts).filter fun p => isIn cs p.1)) h fz hm (lvs ((ps.zip ts).filter fun p => !(isIn cs p.1))) m1 h1 fz1 hm σ pv1 → Act w mg mb n (A.deeper env) (hideAll h (mtL hm)) h.objs.size →
      wpAny (model pw w) (A.deeper env) (execs (fdB (gStN gg)) env) (fun f s' => R (.ok (.ret (match f with | .ret v => v | _ => .none))) s') E ⟨h1, g, d, tk1, os⟩) :
    codeAny (model pw w) A (.call (.ref a) ⟨vs, []⟩) R ⟨h, g, d, tk, os⟩ :=
  enter_top (by have := Z.hd; lia) (Z.X.keeps F.keep) (Z.T.nolimit.keeps F.keep) (fun env' hf hk => (Z.enter ⟨h, g, d, tk, os⟩ rfl F X (env' := env') hf hk).1) X D PF hds rl hle1 hle2 hts k
end
theorem bindP_some {ps : List Nat} {ds args : List T} {bs : List (Nat × T)} (h : bindP ps ds args = some bs) : args.length ≤ ps.length ∧ ps.length ≤ args.length + ds.length ∧ bs = ps.zip (args ++ ds.drop (ds.length - (ps.length - args.length))) := by
  unfold bindP at h
  cases h1 : Nat.ble args.length ps.length with
  | false => rw [h1] at h; exact nS h
  | true => cases h2 : Nat.ble ps.length (args.length + ds.length) with
    | false => rw [h1, h2] at h; exact nS h
    | true => rw [h1, h2] at h; exact ⟨Nat.le_of_ble_eq_true h1, Nat.le_of_ble_eq_true h2, (Option.some.inj h).symm⟩
theorem runF_some {tb : Tab} {cp : CP} {f : FnI} {args : List T} {σ : Sg} {K : T → Sg → Prop} (h : runF tb cp f args σ K) : ∃ bs, bindP f.ps f.ds args = some bs ∧ exs (fun s ρ σ K => ex tb cp (bs.filter fun p => isIn f.cs p.1) 20 s ρ σ K) f.body (lvs (bs.filter fun p => !(isIn f.cs p.1))) σ fun fl _ σ => (match fl with
    | .ret t => K t σ
    | .next => K .none σ
    | .cont => False) := by
  unfold runF at h
  cases hb : bindP f.ps f.ds args with
  | none => rw [hb] at h; exact h.elim
  | some bs => rw [hb] at h; exact ⟨bs, rfl, h⟩
structure FnChk (gg : Nat) (f : FnI) : Prop where
  par : ParF f.ps f.ds.length (fdP (gStN gg)) (fdS (gStN gg)) f.cs
  body : allS (chkS 20 (fdS (gStN gg)) (gQ gg ++ (".<locals>." : Str))) f.body (fdB (gStN gg)) = true
theorem fn_chk {gg : Nat} {f : FnI} (hg : gs[gg]? = some (.fn f)) (hlt : gg < 88) : FnChk gg f := by
  have := ck_ gg hlt
  unfold chkG at this
  rw [hg] at this
  unfold chkF at this
  exact ⟨par_of (a1 this), a2 (a2 this)⟩
section
variable {w : World} {mg mb : Str → Option Value} {n : Nat} {A : Around} {h₀ h : Heap} {L : Addr} {m : Str → Option Value} {fz : Fz} {hm : Hm} {σ : Sg} {g : Array GenState} {d : Drawn} {tk : Nat} {os : OsState} {E : Value → Shared → Prop} {cp : CP}
theorem fn_call {gg : Nat} {f : FnI} {a : Addr} {args : List T} {vs : List Value} {K : T → Sg → Prop} {R : Result → Shared → Prop} (hg : gs[gg]? = some (.fn f)) (hlt : gg < 88) (ha : gA[gg]? = some a) (Z : Act w mg mb (n + 1) A h₀ L) (F : Fr h₀ L h m) (X : W w h₀ L h fz hm σ) (rl : RepL w fz hm args vs)
    (he : runF tab cp f args σ K) (hQ : ∀ t v h' tk' fz' hm' σ', K t σ' → Rep w fz' hm' t v → W w h₀ L h' fz' hm' σ' → Ext h fz hm h' fz' hm' → R (.ok (.ret v)) ⟨h', g, d, tk', os⟩)
    (BODY : ∀ env κ, Act w mg mb n (A.deeper env) (hideAll h (mtL hm)) h.objs.size → XS (fxOf w A h hm g d os gg env κ) (fun ρ σ K => exs (fun s ρ σ K => ex tab cp κ 20 s ρ σ K) f.body ρ σ K) (execs (fdB (gStN gg)) env)) :
    codeAny (model pw w) A (.call (.ref a) ⟨vs, []⟩) R ⟨h, g, d, tk, os⟩ := by
  have hf : isFG gg = true := by unfold isFG; rw [hg]
  obtain ⟨a', o, fd, D⟩ := fn_of w.params hlt hf
  have : a' = a := by
    have e := D.at_
    unfold fA at e
    rw [hg] at e
    have e : gA[gg]? = some a' := e
    rw [ha] at e; exact (Option.some.inj e).symm
  subst this
  have C := fn_chk hg hlt
  · obtain ⟨bs, hb, he⟩ := runF_some he
    obtain ⟨q1, q2, rfl⟩ := bindP_some hb
    have hds : f.ds = dsOf gg := by unfold dsOf; rw [hg]
    refine enter_fn (ds := f.ds) (ts := args ++ f.ds.drop (f.ds.length - (f.ps.length - args.length))) Z F X D C.par hds rl q1 q2 rfl fun env h1 tk1 fz1 m1 pv1 E' S Z' => ?_
    refine BODY env _ Z' h fz hm _ m1 h1 fz1 hm σ pv1 tk1 _ E' _ S he ⟨fun ρ' m' h' fz' hm' σ' pv' tk' k S' _ => ?_, fun ρ' m' h' fz' hm' σ' pv' tk' k S' _ => k.elim, fun t v ρ' h' fz' hm' σ' tk' k r X' x' => ?_⟩
    · exact hQ .none .none h' tk' fz' hm' σ' k .none (X.back F S'.x S'.X) S'.x
    · exact hQ t v h' tk' fz' hm' σ' k r (X.back F x' X') x'
end
mutual
inductive OL (k : Nat) : T → Prop
  | none : OL k .none
  | bool (b : Bool) : OL k (.bool b)
  | int (i : Int) : OL k (.int i)
  | sym (n : Nat) : OL k (.sym n)
  | glob (n : Nat) : OL k (.glob n)
  | bi (n : Nat) : OL k (.bi n)
  | tup {l : List T} : OLL k l → OL k (.tup l)
  | lst {l : List T} : OLL k l → OL k (.lst l)
  | dct {l : List (Nat × T)} : OLD k l → OL k (.dct l)
  | inst {c : Nat} {l : List (Nat × T)} : OLD k l → OL k (.inst c l)
  | lam {c : Nat} {l : List (Nat × T)} : OLD k l → OL k (.lam c l)
  | own {i : Nat} : i < k → OL k (.own i)
inductive OLL (k : Nat) : List T → Prop
  | nil : OLL k []
  | cons {t : T} {l : List T} : OL k t → OLL k l → OLL k (t :: l)
inductive OLD (k : Nat) : List (Nat × T) → Prop
  | nil : OLD k []
  | cons {j : Nat} {t : T} {l : List (Nat × T)} : OL k t → OLD k l → OLD k ((j, t) :: l)
end
section
variable {w : World} {fz fz' : Fz} {hm hm' : Hm}
theorem Rep.ol {t : T} {v : Value} (h : Rep w fz hm t v) : OL hm.length t :=
  Rep.rec (motive_1 := fun t _ _ => OL hm.length t) (motive_2 := fun l _ _ => OLL hm.length l) (motive_3 := fun l _ _ => OLD hm.length l) (motive_4 := fun l _ _ => OLD hm.length l)
    .none .bool (fun i _ => .int i) (fun n _ _ => .sym n) (fun _ => .glob _) (fun _ => .bi _) (fun _ _ _ _ ih => .tup ih) (fun _ _ _ _ ih => .lst ih) (fun _ _ _ _ ih => .dct ih) (fun _ _ _ _ _ _ _ ih => .inst ih)
    (fun _ _ _ _ _ _ _ _ _ ih => .lam ih) (fun h => .own (List.getElem?_eq_some_iff.mp h).1) .nil (fun _ _ a b => .cons a b) .nil (fun _ _ _ a b => .cons a b) .nil (fun _ _ _ _ _ a b => .cons a b) h
theorem RepL.ol {l : List T} {vs : List Value} (h : RepL w fz hm l vs) : OLL hm.length l := by
  induction l generalizing vs with
  | nil => exact .nil
  | cons t l ih => exact h.cons_e fun _ _ x r => .cons x.ol (ih r)
theorem RepD.ol {l : List (Nat × T)} {vs : List (Str × Value)} (h : RepD w fz hm l vs) : OLD hm.length l := by
  induction l generalizing vs with
  | nil => exact .nil
  | cons t l ih => exact h.cons_e fun _ _ _ x r => .cons x.ol (ih r)
noncomputable def OLI (k : Nat) (t : T) : Prop := match t with
  | .tup l => OLL k l
  | .lst l => OLL k l
  | .dct l => OLD k l
  | .inst _ l => OLD k l
  | .lam _ l => OLD k l
  | .own i => i < k
  | _ => True
theorem OL.inv {k : Nat} {t : T} (o : OL k t) : OLI k t := by
  cases o <;> first | exact True.intro | assumption
theorem OLL.inv {k : Nat} {t : T} {l : List T} (o : OLL k (t :: l)) : OL k t ∧ OLL k l := by
  cases o with
  | cons a b => exact ⟨a, b⟩
theorem OLD.inv {k : Nat} {p : Nat × T} {l : List (Nat × T)} (o : OLD k (p :: l)) : OL k p.2 ∧ OLD k l := by
  cases o with
  | cons a b => exact ⟨a, b⟩
theorem Rep.less {p : Addr × Addr} {t : T} {v : Value} (h : Rep w fz (hm ++ [p]) t v) : OL hm.length t → Rep w fz hm t v :=
  Rep.rec (motive_1 := fun t v _ => OL hm.length t → Rep w fz hm t v) (motive_2 := fun l vs _ => OLL hm.length l → RepL w fz hm l vs) (motive_3 := fun l vs _ => OLD hm.length l → RepD w fz hm l vs) (motive_4 := fun l vs _ => OLD hm.length l → RepC w fz hm l vs)
    (fun _ => .none) (fun b _ => .bool b) (fun i t _ => .int i t) (fun n t h _ => .sym n t h) (fun h _ => .glob h) (fun h _ => .bi h)
    (fun h1 h2 h3 _ ih o => .tup h1 h2 h3 (ih o.inv)) (fun h1 h2 h3 _ ih o => .lst h1 h2 h3 (ih o.inv)) (fun h1 h0 h2 _ ih o => .dct h1 h0 h2 (ih o.inv))
    (fun h0 h1 h2 h3 h4 h5 _ ih o => .inst h0 h1 h2 h3 h4 h5 (ih o.inv)) (fun h0 h1 h2 h3 h4 h5 h6 _ h7 ih o => .lam h0 h1 h2 h3 h4 h5 h6 (ih o.inv) h7)
    (fun {i q} h o => .own (by rw [List.getElem?_append_left (show i < hm.length from o.inv)] at h; exact h))
    (fun _ => .nil) (fun _ _ a b o => .cons (a o.inv.1) (b o.inv.2)) (fun _ => .nil) (fun h _ _ a b o => .cons h (a o.inv.1) (b o.inv.2)) (fun _ => .nil)
    (fun h1 h2 h3 _ _ a b o => .cons h1 h2 h3 (a o.inv.1) (b o.inv.2)) h
theorem RepL.less {p : Addr × Addr} {l : List T} {vs : List Value} (h : RepL w fz (hm ++ [p]) l vs) (o : OLL hm.length l) : RepL w fz hm l vs := by
  induction l generalizing vs with
  | nil => exact h.nil_e .nil
  | cons t l ih => exact h.cons_e fun _ _ x r => .cons (x.less o.inv.1) (ih r o.inv.2)
theorem RepD.less {p : Addr × Addr} {l : List (Nat × T)} {vs : List (Str × Value)} (h : RepD w fz (hm ++ [p]) l vs) (o : OLD hm.length l) : RepD w fz hm l vs := by
  induction l generalizing vs with
  | nil => exact h.nil_e .nil
  | cons t l ih => exact h.cons_e fun _ _ k x r => .cons k (x.less o.inv.1) (ih r o.inv.2)
theorem OLD.put {k j : Nat} {t : T} {l : List (Nat × T)} (h : OLD k l) (o : OL k t) : OLD k (pt l j t) := by
  induction l with
  | nil => exact .cons o .nil
  | cons p l ih =>
    obtain ⟨i, u⟩ := p
    show OLD k (match Nat.beq i j with | true => (i, t) :: l | false => (i, u) :: pt l j t)
    cases Nat.beq i j with
    | true => exact .cons o h.inv.2
    | false => exact .cons h.inv.1 (ih h.inv.2)
end
section
variable {w : World} {h₀ h₀' h h' : Heap} {L L' : Addr} {fz fz' : Fz} {hm hm' : Hm} {σ : Sg} {m : Str → Option Value} {o : Obj} {p : Addr × Addr}
theorem W.cellAt {c : Cell} (X : W w h₀ L h fz hm σ) (ho : h.get? p.2 = some o) (hn : ¬ Mt hm p.2) (hf : ∀ o, ¬ fz p.2 o) (hL : p.2 ≠ L) (h0 : h₀.get? p.2 = none) (hc : CellO w fz (hm ++ [p]) p o c) : W w h₀ L h fz (hm ++ [p]) (σ ++ [c]) := by
  have up : ∀ (j : Nat) (q : Addr × Addr), hm[j]? = some q → (hm ++ [p])[j]? = some q := fun j q e => by rw [List.getElem?_append_left (List.getElem?_eq_some_iff.mp e).1]; exact e
  have mt' : ∀ b, Mt (hm ++ [p]) b → Mt hm b ∨ b = p.2 := fun b e => by
    rcases e with e | e
    · rw [List.map_append, List.mem_append] at e
      rcases e with e | e
      · exact .inl (.inl e)
      · exact .inr (by simpa using e)
    · exact .inl (.inr e)
  refine ⟨by rw [List.length_append, List.length_append, X.len]; rfl, X.fzo, fun b q e z => ?_, ?_, fun i c' p' e1 e2 => ?_, fun b e => ?_, X.tab⟩
  · rcases mt' b z with z | rfl
    · exact X.fzm _ _ e z
    · exact hf _ e
  · have nd := X.nd
    have e1 : (hm ++ [p]).map (·.2) ++ tA = hm.map (·.2) ++ ([p.2] ++ tA) := by rw [List.map_append, List.append_assoc]; rfl
    rw [e1]
    rw [List.nodup_append] at nd ⊢
    refine ⟨nd.1, List.nodup_cons.mpr ⟨fun z => hn (.inr z), nd.2.1⟩, fun a ha b hb q => ?_⟩
    rcases List.mem_cons.mp hb with rfl | hb
    · exact hn (.inl (q ▸ ha))
    · exact nd.2.2 a ha b hb q
  · have hl := X.len
    by_cases hi : i < σ.length
    · rw [List.getElem?_append_left hi] at e1
      rw [List.getElem?_append_left (by lia)] at e2
      obtain ⟨o', g, r⟩ := X.cell i c' p' e1 e2
      exact ⟨o', g, r.mono (fun _ _ e => e) up⟩
    · rw [List.getElem?_append_right (by lia)] at e1 e2
      have hi' : i - σ.length = 0 := by
        have := (List.getElem?_eq_some_iff.mp e1).1
        simp only [List.length_singleton] at this; lia
      rw [hi'] at e1
      rw [hl, hi'] at e2
      cases e1; cases e2
      exact ⟨o, ho, hc⟩
  · rcases mt' b e with e | rfl
    · exact X.mt b e
    · exact ⟨hL, h0⟩
theorem Ext.cellAt (x : Ext h fz hm h' fz' hm') (hn : h.get? p.2 = none) : Ext h fz hm h' fz' (hm' ++ [p]) := by
  refine ⟨x.keep, x.sub, x.new, ?_, x.dom⟩
  obtain ⟨more, rfl, hf⟩ := x.hmx
  refine ⟨more ++ [p], by rw [List.append_assoc], fun q hq => ?_⟩
  rcases List.mem_append.mp hq with hq | hq
  · exact hf q hq
  · rw [List.mem_singleton.mp hq]; exact hn
theorem CellO.less {q : Addr × Addr} {c : Cell} {o₀ : Obj} (x : CellO w fz' (hm ++ [p]) q o c) (y : CellO w fz hm q o₀ c) : CellO w fz' hm q o c := by
  cases c with
  | lst l => obtain ⟨a, b, vs, n, d, r, e⟩ := x; obtain ⟨_, _, _, _, _, r', _⟩ := y; exact ⟨a, b, vs, n, d, r.less r'.ol, e⟩
  | dct l => obtain ⟨a, b, kvs, d, r⟩ := x; obtain ⟨_, _, _, _, r'⟩ := y; exact ⟨a, b, kvs, d, r.less r'.ol⟩
  | inst c l => obtain ⟨z, C, es, n, kvs, a, b, d, e, f, r⟩ := x; obtain ⟨_, _, _, _, _, _, _, _, _, _, r'⟩ := y; exact ⟨z, C, es, n, kvs, a, b, d, e, f, r.less r'.ol⟩
theorem W.uncell {c : Cell} (X : W w h₀ L h fz hm σ) (Y : W w h₀' L' h' fz' (hm ++ [p]) (σ ++ [c])) : W w h₀' L' h' fz' hm σ ∧ Priv h' fz' hm p.2 ∧ p.2 ≠ L' ∧ ∃ o, h'.get? p.2 = some o ∧ CellO w fz' (hm ++ [p]) p o c := by
  have hl := X.len
  have up : ∀ b, Mt hm b → Mt (hm ++ [p]) b := fun b e => e.elim (fun e => .inl (by rw [List.map_append]; exact List.mem_append_left _ e)) .inr
  have mp : Mt (hm ++ [p]) p.2 := .inl (by rw [List.map_append]; exact List.mem_append_right _ (.head _))
  have nd := Y.nd
  have e1 : (hm ++ [p]).map (·.2) ++ tA = hm.map (·.2) ++ ([p.2] ++ tA) := by rw [List.map_append, List.append_assoc]; rfl
  rw [e1, List.nodup_append] at nd
  obtain ⟨n1, n2, n3⟩ := nd
  have n2' := List.nodup_cons.mp n2
  obtain ⟨o, ho, hc⟩ := Y.cell σ.length c p (by rw [List.getElem?_append_right (Nat.le_refl _), Nat.sub_self]; rfl) (by rw [← hl, List.getElem?_append_right (Nat.le_refl _), Nat.sub_self]; rfl)
  refine ⟨⟨hl, Y.fzo, fun a o e q => Y.fzm a o e (up _ q), ?_, fun i c' q e1 e2 => ?_, fun a e => Y.mt a (up _ e), Y.tab⟩, ⟨by rw [ho]; exact (fun z => nomatch z), fun q => ?_, fun o e => Y.fzm _ _ e mp⟩, (Y.mt _ mp).1, o, ho, hc⟩
  · rw [List.nodup_append]
    exact ⟨n1, n2'.2, fun a ha b hb => n3 a ha b (.tail _ hb)⟩
  · have hi := (List.getElem?_eq_some_iff.mp e1).1
    obtain ⟨o₀, _, r₀⟩ := X.cell i c' q e1 e2
    obtain ⟨o', g, r⟩ := Y.cell i c' q (by rw [List.getElem?_append_left hi]; exact e1) (by rw [List.getElem?_append_left (by lia)]; exact e2)
    exact ⟨o', g, r.less r₀⟩
  · rcases q with q | q
    · exact n3 _ q _ (.head _) rfl
    · exact n2'.1 q
theorem Ext.uncell (x : Ext h fz hm h' fz' (hm ++ [p])) : Ext h fz hm h' fz' hm := by
  refine ⟨fun b o e q => x.keep b o e q, x.sub, x.new, ⟨[], by simp, fun _ e => nomatch e⟩, x.dom⟩
end
noncomputable def cls1 (P : Params) (c : Nat) : Bool := match gA[c]?, lk gIl c with
  | some C, some fI => makesIn (mK P) C && (findIn (mK P) (.ref C) "__init__" == some (some (.ref fI)) && typeIn (mK P) (.ref fI) == some (.type "function"))
  | _, _ => false
theorem clsAll_ (P : Params) : ((List.range 65).all fun c => !(isC c) || cls1 P c) = true := by kernel_rfl
structure ClsF (P : Params) (c : Nat) (C fI : Addr) : Prop where
  at_ : gA[c]? = some C
  ini : lk gIl c = some fI
  makes : makesIn (mK P) C = true
  init : findIn (mK P) (.ref C) "__init__" = some (some (.ref fI))
  typ : typeIn (mK P) (.ref fI) = some (.type "function")
theorem cls_of (P : Params) {c : Nat} (hc : isC c = true) : ∃ C fI, ClsF P c C fI := by
  have := List.all_eq_true.mp (clsAll_ P) c (List.mem_range.mpr (isC_lt hc))
  rw [hc] at this
  replace this : cls1 P c = true := this
  unfold cls1 at this
  cases h1 : gA[c]? with
  | none => rw [h1] at this; exact nT this
  | some C => cases h2 : lk gIl c with
    | none => rw [h1, h2] at this; exact nT this
    | some fI => rw [h1, h2] at this; exact ⟨C, fI, h1, h2, a1 this, eq_of_beq (a1 (a2 this)), eq_of_beq (a2 (a2 this))⟩
section
variable {w : World} {mg mb : Str → Option Value} {n : Nat} {A : Around} {h₀ h : Heap} {L : Addr} {m : Str → Option Value} {fz : Fz} {hm : Hm} {σ : Sg} {g : Array GenState} {d : Drawn} {tk : Nat} {os : OsState} {E : Value → Shared → Prop} {cp : CP}
theorem Act.under {vs : List Value} {C : Addr} (Z : Act w mg mb (n + 1) A h₀ L) : Act w mg mb n (A.under (.builtin "type.__call__" ⟨.ref C :: vs, []⟩)) h₀ L := by
  obtain ⟨⟨env, outer, base, A₀, hA, hf, hk, B⟩, X, T, hh, hd, hu⟩ := Z
  refine ⟨⟨env, outer, base, A₀, ?_, hf, hk, B⟩, X, T, ?_, ?_, ?_⟩
  · exact hA
  · exact hh
  · show A.depth + 1 + n < recursionLimit; lia
  · show A.units + 1 + 12 * n + 64 < cLine; lia
theorem cls_call {c : Nat} {C fI : Addr} {vs : List Value} {R : Result → Shared → Prop} (D : ClsF w.params c C fI) (hc : isC c = true) (Z : Act w mg mb (n + 1) A h₀ L) (F : Fr h₀ L h m) (X : W w h₀ L h fz hm σ)
    (k : ∀ h2 fz2 (p : Addr × Addr), h2.objs.size = h.objs.size + 2 → p.1 = h.objs.size + 1 → p.2 = h.objs.size → Fr h₀ L h2 m → W w h₀ L h2 fz2 (hm ++ [p]) (σ ++ [.inst c []]) → Ext h fz hm h2 fz2 (hm ++ [p]) → Act w mg mb n (A.under (.builtin "type.__call__" ⟨.ref C :: vs, []⟩)) h₀ L →
      codeAny (model pw w) (A.under (.builtin "type.__call__" ⟨.ref C :: vs, []⟩)) (.call (.ref fI) ⟨.ref p.1 :: vs, []⟩) (InitBack p.1 R) ⟨h2, g, d, tk, os⟩) :
    codeAny (model pw w) A (.call (.ref C) ⟨vs, []⟩) R ⟨h, g, d, tk, os⟩ := by
  have hXh := Z.X.keeps F.keep
  refine make_core (makes_of hXh D.makes) (looks_findIn hXh D.init) (fun self => bind_fn hXh self D.typ) (.inl rfl) ?_
  have hs1 : (h.push emptyDict).objs.size = h.objs.size + 1 := Heap.size_push ..
  have e1 := keeps_push h emptyDict
  have X1 := X.keeps e1
  have x1 := Ext.keeps fz hm e1
  have X2 := X1.push (instObj C h.objs.size) rfl
  have x2 := x1.trans (ext_push (h.push emptyDict) fz hm (instObj C h.objs.size) rfl)
  have hn := get_none_size h
  have hd : ((h.push emptyDict).push (instObj C h.objs.size)).get? h.objs.size = some (dictOf [] 0) := Heap.get?_push_of_some _ (Heap.get?_push_size _ rfl)
  have F2 : Fr h₀ L ((h.push emptyDict).push (instObj C h.objs.size)) m := (F.push _).push _
  have nL : h.objs.size ≠ L := fun q => by obtain ⟨o, _, _, ho, _⟩ := F.ns; rw [← q, hn] at ho; cases ho
  have X3 := X2.cellAt (p := (h.objs.size + 1, h.objs.size)) (c := .inst c []) hd (X.fresh_mt hn) (fun o q => by
      rcases q with q | ⟨q, _⟩
      · exact X.fresh_fz hn o q
      · rw [hs1] at q; exact absurd q (Nat.ne_of_lt (Nat.lt_succ_self _))) nL (Fr.lt_base F hn)
    ⟨hc, C, [], 0, [], D.at_, .inr ⟨hs1.symm, rfl⟩, rfl, .nil, List.nodup_nil, .nil⟩
  exact k _ _ (h.objs.size + 1, h.objs.size) (by rw [Heap.size_push, hs1]) rfl rfl F2 X3 (x2.cellAt hn) Z.under
end
section
variable {c : Fx} {n : Nat} {mg mb : Str → Option Value} {cp : CP} {k k' : Nat}
theorem setA_chk {x v : X} {a : Nat} {st : Stmt} (Z : Act c.w mg mb n c.A c.h₀ c.L) (hcp : CpOk c.w mg mb n cp) (h1 : chkS (k + 1) c.sc c.q (.setA x a v) st = true) : XS c (fun ρ σ K => ex tab cp c.κ (k' + 1) (.setA x a v) ρ σ K) (exec st c.env) := by
  exact onA1_e (st := st) h1 fun t v' _ h => onAttr_e (z := t) h fun o' _ _ h => XS.setA (f := fun ρ σ K => ev tab cp c.κ 40 v ρ σ K) (g := fun ρ σ K => ev tab cp c.κ 40 x ρ σ K) Z (a1 h) (not_t (a1 (a2 h))) (fun ρ => (ev_ok hcp 40 40 (withR c ρ) v v' rfl Z (a2 (a2 (a2 h)))).1) (fun ρ => (ev_ok hcp 40 40 (withR c ρ) x o' rfl Z (a1 (a2 (a2 h)))).1)
end
noncomputable def fn80 : FnI := { ps := [selfN, placeN], cs := [], ds := [], body := [.setA (.loc selfN) placeN (.loc placeN)] }
theorem gs80 : gs[80]? = some (.fn fn80) := by kernel_rfl
noncomputable def isSetA : S → Bool
  | .setA .. => true
  | _ => false
theorem allS_and {f : S → Stmt → Bool} {P : S → Bool} : ∀ {l : List S} {ss : List Stmt}, allS f l ss = true → (∀ s ∈ l, P s = true) → allS (fun s st => f s st && P s) l ss = true
  | [], [], _, _ => rfl
  | x :: l, st :: ss, h, hp => by
    obtain ⟨h1, h2⟩ := Bool.and_eq_true_iff.mp h
    exact Bool.and_eq_true_iff.mpr ⟨Bool.and_eq_true_iff.mpr ⟨h1, hp x (.head _)⟩, allS_and h2 fun s hs => hp s (.tail _ hs)⟩
  | [], _ :: _, h, _ => by cases h
  | _ :: _, [], h, _ => by cases h
noncomputable def cp80 : CP := fun f args σ K => f = .glob 80 ∧ runF tab noCp fn80 args σ K
section
variable {w : World} {mg mb : Str → Option Value} {n : Nat}
theorem noCp_ok : CpOk w mg mb n noCp := ⟨fun _ _ _ _ h => h.elim, fun _ _ _ _ _ _ _ _ _ _ _ _ _ _ _ _ _ _ _ _ _ _ _ _ h _ => h.elim⟩
theorem cp80_ok : CpOk w mg mb (n + 1) cp80 := by
  refine ⟨fun f args σ K h => by rw [h.1]; rfl, fun A h₀ L g d os Z m h fz hm σ tk Q E K f args vf vs F X rf rl he hQ => ?_⟩
  obtain ⟨rfl, he⟩ := he
  cases rf with
  | glob ha =>
    refine wpAny_call (fn_call gs80 (by decide) ha Z F X rl he (fun t v h' tk' fz' hm' σ' k r X' x' => hQ t v h' tk' fz' hm' σ' k r X' x') fun env κ Z' => ?_)
    have C := fn_chk gs80 (by decide)
    refine exs_ok (c := fxOf w A h hm g d os 80 env κ) (G := fun s ρ σ K => ex tab noCp κ 20 s ρ σ K) (chk := fun s st => chkS 20 (fxOf w A h hm g d os 80 env κ).sc (fxOf w A h hm g d os 80 env κ).q s st && isSetA s) (fun s st hc => ?_) _ _ (allS_and C.body fun s hs => by rw [List.mem_singleton.mp hs]; rfl)
    obtain ⟨h1, h2⟩ := Bool.and_eq_true_iff.mp hc
    cases s with
    | setA x a' vx => exact setA_chk (c := fxOf w A h hm g d os 80 env κ) (k := 19) (k' := 19) Z' noCp_ok h1
    | _ => exact absurd h2 Bool.false_ne_true
end
noncomputable def initN : Nat := 131
theorem initN_ok : nmOk (Str.ofString "__init__") initN = true := by kernel_rfl
theorem meth46 : lk2 tab.meth 46 initN = some 80 := by kernel_rfl
abbrev EC := X → Rho → Sg → (T → Sg → Prop) → Prop
noncomputable def G1 (ec : EC) : CS → Rho → Sg → (Fl → Rho → Sg → Prop) → Prop
  | .set a e => fun ρ σ K => ec e ρ σ fun v σ => ec (.loc selfN) ρ σ fun o σ => (match o with
    | .own i => (match σ[i]? with
      | some (.inst c fs) => (okA tab c a = true ∧ fs.length < 900) ∧ K .next ρ (σ.set i (.inst c (pt fs a v)))
      | _ => False)
    | _ => False)
  | .base _ e => fun ρ σ K => (fun σ K => ec (.con (.glob 46)) ρ σ fun v σ => methR tab v initN σ fun mc => evs (fun x σ K => ec x ρ σ K) [.loc selfN, e] σ fun vs σ => methC tab cp80 mc vs σ K) σ fun v σ => (match v with
    | .none => K .next ρ σ
    | _ => False)
abbrev ec8 (κ : List (Nat × T)) : EC := fun x ρ σ K => ev tab noCp κ 8 x ρ σ K
noncomputable def exsC (f : CS → Rho → Sg → (Fl → Rho → Sg → Prop) → Prop) : List CS → Rho → Sg → (Fl → Rho → Sg → Prop) → Prop
  | [], ρ, σ, K => K .next ρ σ
  | s :: r, ρ, σ, K => f s ρ σ fun fl ρ σ => (match fl with
    | .next => exsC f r ρ σ K
    | fl => K fl ρ σ)
theorem exsC_set {ec : EC} {a : Nat} {e : X} {r : List CS} {ρ : Rho} {σ : Sg} {K : Fl → Rho → Sg → Prop} : exsC (G1 ec) (.set a e :: r) ρ σ K = (ec e ρ σ fun v σ => ec (.loc selfN) ρ σ fun o σ => (match o with
    | .own i => (match σ[i]? with
      | some (.inst c fs) => (okA tab c a = true ∧ fs.length < 900) ∧ exsC (G1 ec) r ρ (σ.set i (.inst c (pt fs a v))) K
      | _ => False)
    | _ => False)) := rfl
theorem exsC_base {ec : EC} {a : Nat} {e : X} {r : List CS} {ρ : Rho} {σ : Sg} {K : Fl → Rho → Sg → Prop} : exsC (G1 ec) (.base a e :: r) ρ σ K = (ec (.con (.glob 46)) ρ σ fun v σ => methR tab v initN σ fun mc => evs (fun x σ K => ec x ρ σ K) [.loc selfN, e] σ fun vs σ => methC tab cp80 mc vs σ fun v σ => (match v with
    | .none => exsC (G1 ec) r ρ σ K
    | _ => False)) := rfl
theorem con_ev {cp : CP} {κ : List (Nat × T)} {k : Nat} {t : T} {ρ : Rho} {σ : Sg} {K : T → Sg → Prop} (h : K t σ) : ev tab cp κ (k + 1) (.con t) ρ σ K := h
theorem methR46 {σ : Sg} {K : MC → Prop} (h : K (.val (.glob 80))) : methR tab (.glob 46) initN σ K := by
  show (match lk2 tab.meth 46 initN with
    | some g => K (.val (.glob g))
    | none => False)
  rw [meth46]; exact h
theorem evs2 {f : X → Sg → (T → Sg → Prop) → Prop} {x y : X} {σ : Sg} {K : List T → Sg → Prop} (h : f x σ fun u σ => f y σ fun v σ => K [u, v] σ) : evs f [x, y] σ K := h
theorem loc_ev {cp : CP} {κ : List (Nat × T)} {k i : Nat} {t : T} {ρ : Rho} {σ : Sg} {K : T → Sg → Prop} (hl : lk ρ i = some (.t t)) (h : K t σ) : ev tab cp κ (k + 1) (.loc i) ρ σ K := by
  show (match lk ρ i with
    | some (.t v) => K v σ
    | _ => False)
  rw [hl]; exact h
theorem exs_one {f : S → Rho → Sg → (Fl → Rho → Sg → Prop) → Prop} {s : S} {ρ : Rho} {σ : Sg} {K : Fl → Rho → Sg → Prop} (h : f s ρ σ fun fl ρ σ => (match fl with
    | .next => K .next ρ σ
    | fl => K fl ρ σ)) : exs f [s] ρ σ K := h
theorem ex_setA {cp : CP} {κ : List (Nat × T)} {k a : Nat} {e v : X} {ρ : Rho} {σ : Sg} {K : Fl → Rho → Sg → Prop} : ex tab cp κ (k + 1) (.setA e a v) ρ σ K = (ev tab cp κ 40 v ρ σ fun v σ => ev tab cp κ 40 e ρ σ fun o σ => (match o with
      | .own i => (match σ[i]? with
        | some (.inst c fs) => (okA tab c a = true ∧ fs.length < 900) ∧ K .next ρ (σ.set i (.inst c (pt fs a v)))
        | _ => False)
      | _ => False)) := rfl
theorem call80 {u v : T} {σ : Sg} {K : T → Sg → Prop} (h : match u with
      | .own i => (match σ[i]? with
        | some (.inst c fs) => (okA tab c placeN = true ∧ fs.length < 900) ∧ K .none (σ.set i (.inst c (pt fs placeN v)))
        | _ => False)
      | _ => False) : methC tab cp80 (.val (.glob 80)) [u, v] σ K := by
  refine ⟨rfl, ?_⟩
  have hb : bindP fn80.ps fn80.ds [u, v] = some [(selfN, u), (placeN, v)] := rfl
  unfold runF
  rw [hb]
  have f1 : ([(selfN, u), (placeN, v)].filter fun p => isIn fn80.cs p.1) = [] := rfl
  have f2 : ([(selfN, u), (placeN, v)].filter fun p => !(isIn fn80.cs p.1)) = [(selfN, u), (placeN, v)] := rfl
  dsimp only
  rw [f1, f2]
  refine exs_one ?_
  rw [ex_setA (k := 19)]
  refine loc_ev (k := 39) (t := v) rfl (loc_ev (k := 39) (t := u) rfl ?_)
  cases u with
  | own i =>
    refine cI_m (c := σ[i]?) (K := fun c fs => (okA tab c placeN = true ∧ fs.length < 900) ∧ K .none (σ.set i (.inst c (pt fs placeN v)))) h fun d l e h => ?_
    show (match σ[i]? with
        | some (.inst c fs) => (okA tab c placeN = true ∧ fs.length < 900) ∧ _
        | _ => False)
    rw [e]; exact h
  | _ => exact h.elim
section
variable {c : Fx} {n : Nat} {mg mb : Str → Option Value}
theorem exsC_ok {G : CS → Rho → Sg → (Fl → Rho → Sg → Prop) → Prop} {chk : CS → Stmt → Bool} (IH : ∀ s st, chk s st = true → XS c (G s) (exec st c.env)) : ∀ (l : List CS) (ss : List Stmt), chkC.allC chk l ss = true → XS c (fun ρ σ K => exsC G l ρ σ K) (execs ss c.env)
  | [], [], _ => fun hB fzB hmB ρ m h fz hm σ pv tk Q E K S e R => wpAny_execs_nil (R.1 _ _ _ _ _ _ _ _ e S (Kp.refl ..))
  | x :: l, st :: ss, hc => fun hB fzB hmB ρ m h fz hm σ pv tk Q E K S e R => by
    obtain ⟨h1, h2⟩ := Bool.and_eq_true_iff.mp hc
    refine wpAny_execs_cons (IH x st h1 hB fzB hmB ρ m h fz hm σ pv tk _ E _ S e ⟨fun ρ' m' h' fz' hm' σ' pv' tk' a S' k' => ?_, fun ρ' m' h' fz' hm' σ' pv' tk' a S' k' => R.2.1 _ _ _ _ _ _ _ _ a S' k', fun t v ρ' h' fz' hm' σ' tk' a r X' x' => R.2.2 _ _ _ _ _ _ _ _ a r X' x'⟩)
    exact exsC_ok IH l ss h2 hB fzB hmB ρ' m' h' fz' hm' σ' pv' tk' Q E K S' a (R.kp k')
  | [], _ :: _, hc => by cases hc
  | _ :: _, [], hc => by cases hc
theorem loc_chk {sc : Scope} {q : Str} {i k : Nat} {o : PySem.Expr} (h : nameIs sc i o = true) : chkX (k + 1) sc q (.loc i) o = true := by
  obtain ⟨p, rfl, _, _⟩ := nameIs_of h
  exact h
theorem set_chk {a : Nat} {e : X} {st : Stmt} (Z : Act c.w mg mb n c.A c.h₀ c.L) (h1 : chkC1 selfN c.sc c.q (.set a e) st = true) : XS c (G1 (ec8 c.κ) (.set a e)) (exec st c.env) :=
  onA1_e (st := st) h1 fun t v _ h => onAttr_e (z := t) h fun o _ _ h => XS.setA (f := fun ρ σ K => ev tab noCp c.κ 8 e ρ σ K) (g := fun ρ σ K => ev tab noCp c.κ 8 (.loc selfN) ρ σ K) Z (a1 h) (not_t (a1 (a2 (a2 h)))) (fun ρ => (ev_ok noCp_ok 8 8 (withR c ρ) e v rfl Z (a2 (a2 (a2 (a2 h))))).1) (fun ρ => (ev_ok noCp_ok 8 8 (withR c ρ) (.loc selfN) o rfl Z (loc_chk (a1 (a2 h)))).1)
theorem base_chk {a : Nat} {e : X} {st : Stmt} (Z : Act c.w mg mb (n + 1) c.A c.h₀ c.L) (h1 : chkC1 selfN c.sc c.q (.base a e) st = true) : XS c (G1 (ec8 c.κ) (.base a e)) (exec st c.env) := by
  refine onExp_e (z := st) h1 fun z p h => onCall_e (z := z) h fun f es kw pos h => nil_e (a1 h) (onAttr_e (z := f) (a2 h) fun nd s apos h => onName_e (z := nd) h fun nd np h => on2_e h fun o v h => ?_)
  have b4 := a2 (a2 (a2 h))
  have b7 := a2 (a2 (a2 b4))
  have b9 := a2 (a2 b7)
  refine XS.expr (f := fun ρ σ K => ev tab noCp c.κ 8 (.con (.glob 46)) ρ σ fun v σ => methR tab v initN σ fun mc => evs (fun x σ K => ev tab noCp c.κ 8 x ρ σ K) [.loc selfN, e] σ fun vs σ => methC tab cp80 mc vs σ K) rfl fun ρ => ?_
  rw [show s = Str.ofString "__init__" from eq_of_beq (a1 (a2 b4))]
  exact SX.meth (c := withR c ρ) (chk := fun x ex => chkX 8 c.sc c.q x ex) (G := fun x σ K => ev tab noCp c.κ 8 x ρ σ K) Z cp80_ok initN_ok (a1 (a2 (a2 b4))) rfl rfl (SX.glob (c := withR c ρ) Z (a1 (a2 h)) (not_t (a1 (a2 (a2 h)))) (a1 b4))
    (fun x ex h => (ev_ok noCp_ok 8 8 (withR c ρ) x ex rfl Z h).1) (by show (!(isStar o) && (chkX 8 c.sc c.q (.loc selfN) o && (!(isStar v) && (chkX 8 c.sc c.q e v && true)))) = true; rw [a1 b9, a1 (a2 b9), loc_chk (a1 b7), a2 (a2 b9)]; rfl)
end
noncomputable def clsAttr (c : Nat) : Bool := match gs[c]? with
  | some (.cls ci) => Nat.blt ci.body.length 20 && (ci.body.all fun s => match s with
    | .set a e => okA tab c a && simX selfN e
    | .base a e => okA tab c a && (simX selfN e && Nat.beq a placeN))
  | _ => true
theorem clsAttr_ : ((List.range 88).all clsAttr) = true := by kernel_rfl
theorem sim_ev {e : X} {bs : List (Nat × T)} {κ κ' : List (Nat × T)} {t : T} {σ σ' : Sg} {k : Nat} {K K' : T → Sg → Prop} (hs : simX selfN e = true) (ho : OLD k bs) (h : ev tab noCp κ 8 e (lvs bs) σ K) (hk : ∀ v, OL k v → K v σ → K' v σ') :
    ev tab noCp κ' 8 e ((selfN, .t t) :: lvs bs) σ' K' := by
  have lkol : ∀ {bs : List (Nat × T)} {i : Nat} {v : T}, OLD k bs → lk bs i = some v → OL k v := by
    intro bs
    induction bs with
    | nil => intro i v _ e; cases e
    | cons p r ih =>
      intro i v o e
      obtain ⟨j, u⟩ := p
      · have a := o.inv.1
        have b := o.inv.2
        have e : (match Nat.beq j i with | true => some u | false => lk r i) = some v := e
        cases q : Nat.beq j i with
        | true => rw [q] at e; cases e; exact a
        | false => rw [q] at e; exact ih b e
  cases e with
  | loc i =>
    have hne : Nat.beq selfN i = false := by
      have h1 : (!(Nat.beq i selfN)) = true := hs
      cases q : Nat.beq selfN i with
      | false => rfl
      | true => rw [Nat.eq_of_beq_eq_true q, Nat.beq_refl] at h1; cases h1
    have h' : (match lk (lvs bs) i with
      | some (.t v) => K v σ
      | _ => False) := h
    show (match (match Nat.beq selfN i with | true => some (LV.t t) | false => lk (lvs bs) i) with
      | some (.t v) => K' v σ'
      | _ => False)
    rw [hne]
    dsimp only
    refine lvt_m (c := lk (lvs bs) i) (K := fun v => K v σ) h' fun v hl h' => ?_
    rw [hl]
    obtain ⟨t', e', hl'⟩ := lk_lvs hl
    cases e'
    exact hk _ (lkol ho hl') h'
  | lst l =>
    cases l with
    | nil => exact hk _ (.lst .nil) h
    | cons _ _ => cases hs
  | _ => cases hs
theorem self_ev {bs : List (Nat × T)} {κ : List (Nat × T)} {t : T} {σ : Sg} {K : T → Sg → Prop} (h : K t σ) : ev tab noCp κ 8 (.loc selfN) ((selfN, .t t) :: lvs bs) σ K := by
  show (match (match Nat.beq selfN selfN with | true => some (LV.t t) | false => lk (lvs bs) selfN) with
      | some (.t v) => K v σ
      | _ => False)
  rw [Nat.beq_refl]; exact h
theorem last_get (σ : Sg) (c : Cell) : (σ ++ [c])[σ.length]? = some c := by rw [List.getElem?_append_right (Nat.le_refl _), Nat.sub_self]; rfl
theorem last_set (σ : Sg) (c d : Cell) : (σ ++ [c]).set σ.length d = σ ++ [d] := by
  rw [List.set_append_right _ _ (Nat.le_refl _), Nat.sub_self]; rfl
theorem pt_len {α : Type} : ∀ (l : List (Nat × α)) (i : Nat) (v : α), (pt l i v).length ≤ l.length + 1
  | [], _, _ => Nat.le_refl _
  | (j, u) :: r, i, v => by
    show (match Nat.beq j i with | true => (j, v) :: r | false => (j, u) :: pt r i v).length ≤ _
    cases Nat.beq j i with
    | true => exact Nat.le_succ _
    | false => exact Nat.succ_le_succ (pt_len r i v)
abbrev ecL := X → Sg → (T → Sg → Prop) → Prop
theorem ctorL_set {ec : ecL} {a : Nat} {e : X} {r : List CS} {fs : List (Nat × T)} {σ : Sg} {K : List (Nat × T) → Sg → Prop} : ctorL ec (.set a e :: r) fs σ K = ec e σ fun v σ => ctorL ec r (pt fs a v) σ K := rfl
theorem ctorL_base {ec : ecL} {a : Nat} {e : X} {r : List CS} {fs : List (Nat × T)} {σ : Sg} {K : List (Nat × T) → Sg → Prop} : ctorL ec (.base a e :: r) fs σ K = ec e σ fun v σ => ctorL ec r (pt fs a v) σ K := rfl
theorem ctor_sem {cN : Nat} {bs κ : List (Nat × T)} {σ : Sg} {Kc : List (Nat × T) → Sg → Prop} (ho : OLD σ.length bs) : ∀ (body : List CS) (fs : List (Nat × T)), (body.all fun s => match s with
    | .set a e => okA tab cN a && simX selfN e
    | .base a e => okA tab cN a && (simX selfN e && Nat.beq a placeN)) = true → OLD σ.length fs → fs.length + body.length < 900 → ctorL (fun x σ K => ev tab noCp [] 8 x (lvs bs) σ K) body fs σ Kc →
    exsC (G1 (ec8 κ)) body ((selfN, .t (.own σ.length)) :: lvs bs) (σ ++ [.inst cN fs]) fun fl _ σ' => (match fl with
      | .next => ∃ fs', σ' = σ ++ [.inst cN fs'] ∧ OLD σ.length fs' ∧ Kc fs' σ
      | _ => False)
  | [], fs, _, ofs, _, h => ⟨fs, rfl, ofs, h⟩
  | .set a e :: r, fs, hb, ofs, hl, h => by
    rw [List.all_cons] at hb
    simp only [Bool.and_eq_true] at hb
    obtain ⟨⟨b1, b2⟩, b3⟩ := hb
    rw [ctorL_set] at h
    rw [exsC_set]
    refine sim_ev b2 ho h fun v ov hv => self_ev ?_
    dsimp only
    rw [last_get]
    refine ⟨⟨b1, by simp only [List.length_cons] at hl; lia⟩, ?_⟩
    rw [last_set]
    exact ctor_sem ho r _ b3 (ofs.put ov) (by have := pt_len fs a v; simp only [List.length_cons] at hl; lia) hv
  | .base a e :: r, fs, hb, ofs, hl, h => by
    rw [List.all_cons] at hb
    simp only [Bool.and_eq_true] at hb
    obtain ⟨⟨b1, b2, bp⟩, b3⟩ := hb
    have ea : a = placeN := Nat.eq_of_beq_eq_true bp
    subst ea
    rw [ctorL_base] at h
    rw [exsC_base]
    refine con_ev (k := 7) (methR46 (evs2 (self_ev (sim_ev b2 ho h fun v ov hv => call80 ?_))))
    dsimp only
    rw [last_get]
    refine ⟨⟨b1, by simp only [List.length_cons] at hl; lia⟩, ?_⟩
    rw [last_set]
    exact ctor_sem ho r _ b3 (ofs.put ov) (by have := pt_len fs placeN v; simp only [List.length_cons] at hl; lia) hv
structure ClsChk (c : Nat) (ci : ClI) : Prop where
  par : ParF (selfN :: ci.ps) ci.ds.length (fdP (gStN c)) (fdS (gStN c)) []
  body : chkC.allC (chkC1 selfN (fdS (gStN c)) (gQ c ++ (".<locals>." : Str))) ci.body (fdB (gStN c)) = true
  len : ci.body.length < 20
  attr : (ci.body.all fun s => match s with
    | .set a e => okA tab c a && simX selfN e
    | .base a e => okA tab c a && (simX selfN e && Nat.beq a placeN)) = true
theorem cls_chk {c : Nat} {ci : ClI} (hg : gs[c]? = some (.cls ci)) (hlt : c < 88) : ClsChk c ci := by
  have h1 := ck_ c hlt
  unfold chkG at h1
  rw [hg] at h1
  unfold chkC at h1
  have h2 := List.all_eq_true.mp clsAttr_ c (List.mem_range.mpr hlt)
  unfold clsAttr at h2
  rw [hg] at h2
  obtain ⟨b1, b2⟩ := Bool.and_eq_true_iff.mp h2
  exact ⟨par_of (a1 h1), a2 h1, Nat.le_of_ble_eq_true b1, b2⟩
theorem filter_all {ps : List (Nat × T)} : (ps.filter fun p => !(isIn [] p.1)) = ps := List.filter_eq_self.mpr fun _ _ => rfl
theorem olL_append {k : Nat} {a b : List T} (h : OLL k a) (hb : OLL k b) : OLL k (a ++ b) := by
  induction a with
  | nil => exact hb
  | cons x a ih => exact .cons h.inv.1 (ih h.inv.2)
theorem olL_drop {k : Nat} (n : Nat) {a : List T} (h : OLL k a) : OLL k (a.drop n) := by
  induction n generalizing a with
  | zero => exact h
  | succ n ih => cases a with
    | nil => exact .nil
    | cons x a => exact ih h.inv.2
theorem olD_zip {k : Nat} (ps : List Nat) {a : List T} (h : OLL k a) : OLD k (ps.zip a) := by
  induction ps generalizing a with
  | nil => exact .nil
  | cons p ps ih => cases a with
    | nil => exact .nil
    | cons x a => exact .cons h.inv.1 (ih h.inv.2)
theorem dfl_ol {P : Params} {k : Nat} {ds : List T} {v : Value} (e : dflOk P ds v = true) : OLL k ds := by
  cases ds with
  | nil => exact .nil
  | cons d r =>
    have hn := nil_t (a1 e)
    obtain ⟨t, rfl, e⟩ := onRef_t (z := v) (a2 e)
    subst hn
    obtain ⟨o, ho, e⟩ := onS_t e
    obtain ⟨⟨l⟩, n0, hd, e⟩ := onSq_t e
    obtain ⟨x, hx, e⟩ := on1_t e
    cases d with
    | none => exact .cons .none .nil
    | glob g => exact .cons (.glob _) .nil
    | _ => exact nT e
section
variable {w : World} {mg mb : Str → Option Value} {n : Nat} {A : Around} {h₀ h : Heap} {L : Addr} {m : Str → Option Value} {fz : Fz} {hm : Hm} {σ : Sg} {g : Array GenState} {d : Drawn} {tk : Nat} {os : OsState} {E : Value → Shared → Prop} {cp : CP}
structure Made (w : World) (h₀ h : Heap) (L : Addr) (fz : Fz) (hm : Hm) (σ : Sg) (c : Nat) (C : Addr) (fs : List (Nat × T)) (h' : Heap) (fz' : Fz) (x dx : Addr) : Prop where
  W : W w h₀ L h' fz' hm σ
  X : Ext h fz hm h' fz' hm
  new : h.get? dx = none
  priv : Priv h' fz' hm dx
  ne : dx ≠ L
  isC : isC c = true
  at_ : gA[c]? = some C
  obj : fz' x (instObj C dx)
  dct : ∃ es n kvs, h'.get? dx = some (dictOf es n) ∧ Pairs (SK w) es kvs ∧ (kvs.map (·.1)).Nodup ∧ RepD w fz' hm fs kvs
theorem ctor_code {c : Nat} {ci : ClI} {C fI : Addr} {args : List T} {vs : List Value} {Kc : List (Nat × T) → Sg → Prop} {R : Result → Shared → Prop} (hg : gs[c]? = some (.cls ci)) (hlt : c < 88) (hc : isC c = true) (D : ClsF w.params c C fI) (Z : Act w mg mb (n + 3) A h₀ L) (F : Fr h₀ L h m) (X : W w h₀ L h fz hm σ)
    (rl : RepL w fz hm args vs) (he : ctorP tab ci args σ Kc) (hQ : ∀ fs x dx h' tk' fz', Kc fs σ → Made w h₀ h L fz hm σ c C fs h' fz' x dx → R (.ok (.ret (.ref x))) ⟨h', g, d, tk', os⟩) :
    codeAny (model pw w) A (.call (.ref C) ⟨vs, []⟩) R ⟨h, g, d, tk, os⟩ := by
  refine cls_call D hc Z F X fun h2 fz2 p hs1 hp1 hp2 F2 X2 x2 Z2 => ?_
  have hf : isFG c = true := by unfold isFG; rw [hg]
  obtain ⟨a', o, fd, D'⟩ := fn_of w.params hlt hf
  have : a' = fI := by
    have e := D'.at_
    unfold fA at e
    rw [hg] at e
    have e : lk gIl c = some a' := e
    rw [D.ini] at e; exact (Option.some.inj e).symm
  subst this
  have CC := cls_chk hg hlt
  · obtain ⟨bs, hb, he⟩ : ∃ bs, bindP ci.ps ci.ds args = some bs ∧ ctorL (fun x σ K => ev tab noCp [] 8 x (lvs bs) σ K) ci.body [] σ Kc := by
      unfold ctorP at he
      cases hb : bindP ci.ps ci.ds args with
      | none => rw [hb] at he; exact he.elim
      | some bs => rw [hb] at he; exact ⟨bs, rfl, he⟩
    obtain ⟨q1, q2, rfl⟩ := bindP_some hb
    have hds : ci.ds = dsOf c := by unfold dsOf; rw [hg]
    have hl := X.len
    have up : ∀ (j : Nat) (q : Addr × Addr), hm[j]? = some q → (hm ++ [p])[j]? = some q := fun j q e => by rw [List.getElem?_append_left (List.getElem?_eq_some_iff.mp e).1]; exact e
    have rl2 : RepL w fz2 (hm ++ [p]) (.own σ.length :: args) (.ref p.1 :: vs) := .cons (.own (by rw [← hl, List.getElem?_append_right (Nat.le_refl _), Nat.sub_self]; rfl)) (rl.mono x2.sub up)
    have hoA : OLL σ.length args := by have := rl.ol; rw [hl] at this; exact this
    have hoB : OLD σ.length (ci.ps.zip (args ++ ci.ds.drop (ci.ds.length - (ci.ps.length - args.length)))) := olD_zip _ (olL_append hoA (olL_drop _ (by rw [hds]; exact dfl_ol D'.dfl)))
    refine enter_fn (ds := ci.ds) (args := .own σ.length :: args) (ts := .own σ.length :: (args ++ ci.ds.drop (ci.ds.length - (ci.ps.length - args.length)))) Z2 F2 X2 D' CC.par hds rl2 (Nat.succ_le_succ q1) (by simp only [List.length_cons]; lia) (by simp only [List.length_cons, Nat.add_sub_add_right]; rfl)
      fun env h1 tk1 fz1 m1 pv1 E' S Z' => ?_
    generalize (((selfN :: ci.ps).zip (.own σ.length :: (args ++ ci.ds.drop (ci.ds.length - (ci.ps.length - args.length))))).filter fun p => isIn [] p.1) = κ at S
    have S : SSt (fxOf w (A.under (.builtin "type.__call__" ⟨.ref C :: vs, []⟩)) h2 (hm ++ [p]) g d os c env κ) h2 fz2 (hm ++ [p]) (lvs ((selfN, .own σ.length) :: ci.ps.zip (args ++ ci.ds.drop (ci.ds.length - (ci.ps.length - args.length))))) m1 h1 fz1 (hm ++ [p]) (σ ++ [.inst c []]) pv1 := by
      rw [filter_all] at S; exact S
    refine exsC_ok (c := fxOf w (A.under (.builtin "type.__call__" ⟨.ref C :: vs, []⟩)) h2 (hm ++ [p]) g d os c env κ) (G := G1 (ec8 κ)) (chk := chkC1 selfN (fdS (gStN c)) (gQ c ++ (".<locals>." : Str))) (fun s st hs => ?_) ci.body (fdB (gStN c)) CC.body h2 fz2 (hm ++ [p]) _ m1 h1 fz1 (hm ++ [p]) (σ ++ [.inst c []]) pv1 tk1 _ E' _ S
      (ctor_sem (cN := c) hoB ci.body [] CC.attr .nil (by have := CC.len; simp only [List.length_nil]; lia) he) ⟨fun ρ' m' h' fz' hm' σ' pv' tk' k S' _ => ?_, fun ρ' m' h' fz' hm' σ' pv' tk' k _ _ => k.elim, fun t v ρ' h' fz' hm' σ' tk' k _ _ _ => k.elim⟩
    · cases s with
      | set a e => exact set_chk (c := fxOf w (A.under (.builtin "type.__call__" ⟨.ref C :: vs, []⟩)) h2 (hm ++ [p]) g d os c env κ) Z' hs
      | base a e => exact base_chk (c := fxOf w (A.under (.builtin "type.__call__" ⟨.ref C :: vs, []⟩)) h2 (hm ++ [p]) g d os c env κ) Z' hs
    · obtain ⟨fs', rfl, ofs, kk⟩ := k
      have Y := X2.back F2 S'.x S'.X
      obtain ⟨more, rfl, _⟩ := S'.x.hmx
      have : more = [] := by
        have e := Y.len
        simp only [List.length_append, List.length_cons, List.length_nil] at e
        exact List.length_eq_zero_iff.mp (by lia)
      subst this
      rw [List.append_nil] at Y
      have xx := x2.trans S'.x
      rw [List.append_nil] at xx
      obtain ⟨W', P', nL, o', ho', isc, C', es, nn, kvs, hC', hx, rfl, hp, hnd, hr⟩ := X.uncell Y
      have hCC : C' = C := by rw [D.at_] at hC'; exact (Option.some.inj hC').symm
      subst hCC
      exact ⟨rfl, hQ fs' p.1 p.2 h' tk' fz' kk ⟨W', xx.uncell, by rw [hp2]; exact get_none_size h, P', nL, hc, D.at_, hx, es, nn, kvs, ho', hp, hnd, hr.less (by rw [hl]; exact ofs)⟩⟩
end
noncomputable def clsIsC (c : Nat) : Bool := match gs[c]? with
  | some (.cls _) => isC c
  | some (.clsP i) => isC c && isFG i
  | _ => true
theorem clsIsC_ : ((List.range 88).all clsIsC) = true := by kernel_rfl
theorem gs_len : gs.length = 88 := by kernel_rfl
theorem gs_lt {c : Nat} {x : GI} (h : gs[c]? = some x) : c < 88 := by rw [← gs_len]; exact (List.getElem?_eq_some_iff.mp h).1
theorem cls_isC {c : Nat} {ci : ClI} (hg : gs[c]? = some (.cls ci)) : isC c = true := by
  have h := List.all_eq_true.mp clsIsC_ c (List.mem_range.mpr (gs_lt hg))
  unfold clsIsC at h
  rw [hg] at h
  exact h
theorem clsP_isC {c i : Nat} (hg : gs[c]? = some (.clsP i)) : isC c = true ∧ isFG i = true := by
  have h := List.all_eq_true.mp clsIsC_ c (List.mem_range.mpr (gs_lt hg))
  unfold clsIsC at h
  rw [hg] at h
  exact Bool.and_eq_true_iff.mp h
theorem isC_calls {c : Nat} (h : isC c = true) : calls (.glob c) = true := by
  have h1 := isC_lt h
  have : Nat.beq c 84 = false := by
    cases q : Nat.beq c 84 with
    | false => rfl
    | true => have := Nat.eq_of_beq_eq_true q; lia
  show (!(Nat.beq c 84) && Nat.blt c 88) = true
  rw [this]
  exact Nat.blt_eq.mpr (Nat.lt_trans h1 (by decide))
section
variable {w : World} {mg mb : Str → Option Value} {n : Nat} {A : Around} {h₀ h : Heap} {L : Addr} {m : Str → Option Value} {fz : Fz} {hm : Hm} {σ : Sg} {g : Array GenState} {d : Drawn} {tk : Nat} {os : OsState} {E : Value → Shared → Prop} {cp : CP}
theorem cls_val {c : Nat} {ci : ClI} {a : Addr} {args : List T} {vs : List Value} {K : T → Sg → Prop} {Q : Value → Shared → Prop} (hg : gs[c]? = some (.cls ci)) (ha : gA[c]? = some a) (Z : Act w mg mb (n + 3) A h₀ L) (F : Fr h₀ L h m) (X : W w h₀ L h fz hm σ)
    (rl : RepL w fz hm args vs) (he : ctorP tab ci args σ fun fs σ => K (.inst c fs) σ) (hQ : Res w h₀ L g d os h fz hm Q K) :
    wpAny (model pw w) A (PySem.call (.ref a) vs []) Q E ⟨h, g, d, tk, os⟩ := by
  have hc := cls_isC hg
  obtain ⟨C, fI, D⟩ := cls_of w.params hc
  have : C = a := by have e := D.at_; rw [ha] at e; exact (Option.some.inj e).symm
  subst this
  refine wpAny_call (ctor_code hg (gs_lt hg) hc D Z F X rl he fun fs x dx h' tk' fz' k M => ?_)
  obtain ⟨es, nn, kvs, hdx, hp, hnd, hr⟩ := M.dct
  exact hQ (.inst c fs) _ h' tk' (addF fz' dx (dictOf es nn)) hm σ k (.inst hc D.at_ (.inl M.obj) (.inr ⟨rfl, rfl⟩) hp hnd (hr.mono (fun _ _ => .inl) fun _ _ e => e)) (M.W.freeze hdx M.priv.mt) (M.X.freeze M.new)
end
section
variable {c : Fx} {n : Nat} {mg mb : Str → Option Value} {cp : CP}
theorem XS.newi {i c' : Nat} {np p p' p2 : Pos} {s f : Str} {l : List X} {es : List PySem.Expr} {G : Rho → X → Sg → (T → Sg → Prop) → Prop} {chk : X → PySem.Expr → Bool} (Z : Act c.w mg mb (n + 3) c.A c.h₀ c.L) (hn : nmOk s i = true) (hk : kindIs c.sc s .local = true) (hkf : kindIs c.sc f .globalImplicit = true)
    (hd : (f == ("__debug__" : Str)) = false) (hcn : conName f (.glob c') = true) (IH : ∀ ρ x e, chk x e = true → SX (withR c ρ) (G ρ x) (eval e c.env)) (hc : allX chk l es = true) :
    XS c (fun ρ σ K => evs (G ρ) l σ fun vs σ => (match tab.gs[c']? with
        | some (.cls ci) => ctorP tab ci vs σ fun fs σ => K .next (pt ρ i (.i c' fs)) σ
        | _ => False)) (exec (.Assign [.Name s np] (.Call (.Name f p2) es [] p') p) c.env) := by
  intro hB fzB hmB ρ m h fz hm σ pv tk Q E K S a R
  obtain ⟨hi, rfl, _, _⟩ := nm_of hn
  refine wpAny_Assign_Name (Call_ (S.eval (SX.glob (c := withR c ρ) (tb := tab) (cp := noCp) (k := 0) (t := .glob c') Z hkf hd hcn) (K := fun t σ' => t = .glob c' ∧ σ' = σ) ⟨rfl, rfl⟩ fun t v h' tk' fz' hm' σ' a' r S' x' => ?_) rfl) (by rfl)
  obtain ⟨rfl, rfl⟩ := a'
  refine callW (first := []) (noStar c.env p' hc).1 (evs_ok (c := withR c ρ) (IH ρ) l es hc m h' fz' hm' σ' tk' _ E _ S'.F S'.X S'.en a fun ts vs h'' tk'' fz'' hm'' σ'' a'' hn rl F'' X'' N'' x'' => ?_)
  have r'' := x''.rep r
  have S'' := S'.step X'' x''
  cases hg : tab.gs[c']? with
  | none => rw [hg] at a''; exact a''.elim
  | some gi => rw [hg] at a''; cases gi with
  | cls ci =>
    have hC := cls_isC hg
    refine ⟨kept_rep X'' (Z.X.keeps F''.keep) (isC_calls hC) r'', ?_⟩
    cases r'' with
    | glob ha =>
      obtain ⟨C, fI, D⟩ := cls_of c.w.params hC
      rename_i a0
      have : C = a0 := by have e := D.at_; rw [ha] at e; exact (Option.some.inj e).symm
      subst this
      refine wpAny_call (ctor_code hg (gs_lt hg) hC D Z F'' X'' rl a'' fun fs x dx h3 tk3 fz3 k M => ?_)
      have S3 := S''.step M.W M.X
      obtain ⟨es', nn, kvs, hdx, hp, hnd, hr⟩ := M.dct
      obtain ⟨q1, q2, q3, _, _⟩ := S''.fresh M.new
      refine S3.bindL (lv := .i c' fs) (ps := [dx]) (Kp.of M.X pv) hi hk ⟨x, dx, C, es', nn, kvs, rfl, rfl, hC, D.at_, M.obj, hdx, hp, hnd, hr⟩ (fun b hb => ?_) (fun b hb => ?_) fun m2 h2 S2 k2 => ((R.ext x').ext x'').1 _ _ _ _ _ _ _ _ k S2 k2
      · cases List.mem_singleton.mp hb
        exact ⟨M.priv, q1, q2, fun j _ => q3 j⟩
      · cases List.mem_singleton.mp hb
        exact .inl M.new
  | _ => exact a''.elim
end
theorem XS.no {c : Fx} {f : Rho → Sg → (Fl → Rho → Sg → Prop) → Prop} {t : Sem Flow} (h : ∀ ρ σ K, f ρ σ K → False) : XS c f t := fun _ _ _ _ _ _ _ _ _ _ _ _ _ _ _ e _ => (h _ _ _ e).elim
theorem XS.eq {c : Fx} {f g : Rho → Sg → (Fl → Rho → Sg → Prop) → Prop} {t : Sem Flow} (x : XS c g t) (h : ∀ ρ σ K, f ρ σ K → g ρ σ K) : XS c f t := fun hB fzB hmB ρ m h' fz hm σ pv tk Q E K S e R => x hB fzB hmB ρ m h' fz hm σ pv tk Q E K S (h _ _ _ e) R
@[elab_as_elim] theorem lc_e {P : X → Prop} {k : Nat} {sc : Scope} {q : Str} {x : X} {elt src : PySem.Expr} {y : Str} {py pos : Pos} {cs : List PySem.Expr} {scope : Scope} (h : chkX (k + 1) sc q x (.ListComp elt [⟨.Name y py, src, cs, 0⟩] scope pos) = true) (h0 : P .bad)
    (f : ∀ el i it ifs, (nmOk y i && (kindIs scope y .local && (kindIs (compSc sc scope) y .local && (compOk sc scope && (inMarks src && (chkX k sc q it src && (chkX k (compSc sc scope) q el elt && allX (chkX k (compSc sc scope) q) ifs cs))))))) = true → P (.comp el i it ifs)) : P x := by
  cases x with
  | bad => exact h0
  | comp el i it ifs => exact f _ _ _ _ (a2 (a := (0 : Int) == 0) h)
  | compT el is it =>
    obtain ⟨_, _, _, q, _⟩ := onTup_t (z := PySem.Expr.Name y py) (a2 (a := cs.isEmpty) (a2 (a := (0 : Int) == 0) h))
    cases q
  | _ => exact (Bool.false_ne_true h).elim
theorem ex_asg {cp : CP} {κ : List (Nat × T)} {k j : Nat} {x : X} {ρ : Rho} {σ : Sg} {K : Fl → Rho → Sg → Prop} : ex tab cp κ (k + 1) (.asg j (.x x)) ρ σ K = ev tab cp κ 40 x ρ σ fun v σ => K .next (pt ρ j (.t v)) σ := rfl
theorem onB_fun (K : Bool → Sg → Prop) : (fun (u : T) (σ : Sg) => (match u with
        | .bool b => K b σ
        | _ => False)) = onB K := by
  funext u σ
  unfold onB
  cases u <;> rfl
theorem ex_whl {cp : CP} {κ : List (Nat × T)} {k m : Nat} {c : X} {b : List S} {ρ : Rho} {σ : Sg} {K : Fl → Rho → Sg → Prop} : ex tab cp κ (k + 1) (.whl m c b) ρ σ K = whL (fun ρ σ K => ev tab cp κ 40 c ρ σ (onB K)) (fun ρ σ K => exs (fun s ρ σ K => ex tab cp κ k s ρ σ K) b ρ σ K) m ρ σ K := by
  have e : ex tab cp κ (k + 1) (.whl m c b) ρ σ K = whL (fun ρ σ K => ev tab cp κ 40 c ρ σ fun u σ => (match u with
        | .bool b => K b σ
        | _ => False)) (fun ρ σ K => exs (fun s ρ σ K => ex tab cp κ k s ρ σ K) b ρ σ K) m ρ σ K := rfl
  rw [e]
  exact congrArg (fun F => whL F (fun ρ σ K => exs (fun s ρ σ K => ex tab cp κ k s ρ σ K) b ρ σ K) m ρ σ K) (funext fun ρ => funext fun σ => funext fun K => congrArg (ev tab cp κ 40 c ρ σ) (onB_fun K))
section
variable {cp : CP} {κ : List (Nat × T)} {k i : Nat} {el it cx cy : X} {r : List X} {ρ : Rho} {σ : Sg} {K : T → Sg → Prop}
theorem ev_comp0 (e : ev tab cp κ (k + 1) (.comp el i it []) ρ σ K) : ev tab cp κ k it ρ σ (goP (fun t σ K => ev tab cp κ k el [(i, .t t)] σ K) (fun _ σ K => K (.bool true) σ) fun vs σ => K (.lst vs) σ) := e
theorem ev_comp1 (e : ev tab cp κ (k + 1) (.comp el i it [cx]) ρ σ K) : ev tab cp κ k it ρ σ (goP (fun t σ K => ev tab cp κ k el [(i, .t t)] σ K) (fun t σ K => ev tab cp κ k cx [(i, .t t)] σ K) fun vs σ => K (.lst vs) σ) := e
theorem ev_comp2 (e : ev tab cp κ (k + 1) (.comp el i it (cx :: cy :: r)) ρ σ K) : ev tab cp κ k it ρ σ (goP (fun t σ K => ev tab cp κ k el [(i, .t t)] σ K) (fun _ _ _ => False) fun vs σ => K (.lst vs) σ) := e
end
theorem two_of' {sc : Scope} {is : List Nat} {es vs : List PySem.Expr} (h : twoOk sc is es vs = true) : ∃ i j a b p p' v v', is = [i, j] ∧ es = [.Name a p, .Name b p'] ∧ vs = [v, v'] ∧ TwoF sc i j a b p p' v v' := by
  obtain ⟨i, j, rfl, g⟩ := on2_t h
  obtain ⟨ea, eb, rfl, g2⟩ := on2_t g
  obtain ⟨a, p, rfl, g3⟩ := onName_t g2
  obtain ⟨b, p', rfl, g4⟩ := onName_t g3
  obtain ⟨v, v', rfl, g5⟩ := on2_t g4
  exact ⟨_, _, _, _, _, _, _, _, rfl, rfl, rfl, two_of g5⟩
@[elab_as_elim] theorem cont_e {P : Stmt → Prop} {n : Nat} {sc : Scope} {q : Str} {st : Stmt} (h : chkS (n + 1) sc q .cont st = true) (f : ∀ p, P (.Continue p)) : P st := by
  cases st with
  | Continue p => exact f p
  | _ => exact (Bool.false_ne_true h).elim
theorem ex_ifS {cp : CP} {κ : List (Nat × T)} {k : Nat} {cx : X} {a b : List S} {ρ : Rho} {σ : Sg} {K : Fl → Rho → Sg → Prop} (e : ex tab cp κ (k + 1) (.ifS cx a b) ρ σ K) :
    ev tab cp κ 40 cx ρ σ (onB fun b' σ => if b' = true then exs (fun s ρ σ K => ex tab cp κ k s ρ σ K) a ρ σ K else exs (fun s ρ σ K => ex tab cp κ k s ρ σ K) b ρ σ K) := by
  have e : ev tab cp κ 40 cx ρ σ fun v σ => (match v with
          | .bool true => exs (fun s ρ σ K => ex tab cp κ k s ρ σ K) a ρ σ K
          | .bool false => exs (fun s ρ σ K => ex tab cp κ k s ρ σ K) b ρ σ K
          | _ => False) := e
  have q : (fun v σ => (match v with
          | .bool true => exs (fun s ρ σ K => ex tab cp κ k s ρ σ K) a ρ σ K
          | .bool false => exs (fun s ρ σ K => ex tab cp κ k s ρ σ K) b ρ σ K
          | _ => False)) = onB fun b' σ => if b' = true then exs (fun s ρ σ K => ex tab cp κ k s ρ σ K) a ρ σ K else exs (fun s ρ σ K => ex tab cp κ k s ρ σ K) b ρ σ K := by
    funext v σ
    unfold onB
    cases v <;> first | rfl | skip
    rename_i b'
    cases b' <;> rfl
  rw [q] at e
  exact e
theorem ex_ok {w : World} {mg mb : Str → Option Value} {n : Nat} {cp : CP} (hcp : CpOk w mg mb (n + 3) cp) (c : Fx) (hw : c.w = w) (Z : Act c.w mg mb (n + 3) c.A c.h₀ c.L) : ∀ (k' k : Nat) (s : S) (st : Stmt), chkS k' c.sc c.q s st = true → XS c (fun ρ σ K => ex tab cp c.κ k s ρ σ K) (exec st c.env) := by
  subst hw
  intro k'
  induction k' with
  | zero => intro k s st hc; cases hc
  | succ k' ih =>
    intro k s st hc
    cases k with
    | zero => exact XS.no fun _ _ _ h => h
    | succ k =>
      have IHx : ∀ ρ x e, chkX 40 c.sc c.q x e = true → SX (withR c ρ) (fun σ K => ev tab cp c.κ 40 x ρ σ K) (eval e c.env) := fun ρ x e h => (ev_ok hcp 40 40 (withR c ρ) x e rfl Z h).1
      have IHb : ∀ ρ x e, chkX 40 c.sc c.q x e = true → SB (withR c ρ) (fun σ K => ev tab cp c.κ 40 x ρ σ K) (isTrue e c.env (eval e c.env)) := fun ρ x e h => (ev_ok hcp 40 40 (withR c ρ) x e rfl Z h).2
      have IHs : ∀ l ss, allS (chkS k' c.sc c.q) l ss = true → XS c (fun ρ σ K => exs (fun s ρ σ K => ex tab cp c.κ k s ρ σ K) l ρ σ K) (execs ss c.env) := fun l ss h => exs_ok (fun s st hc => ih k s st hc) l ss h
      cases s with
      | bad => exact XS.no fun _ _ _ h => h
      | ret x => exact onRet_e (z := st) hc fun _ _ hc => onS_e hc fun _ hc => XS.ret (f := fun ρ σ K => ev tab cp c.κ 40 x ρ σ K) fun ρ => IHx ρ _ _ hc
      | ifS cx a b =>
        exact onIf_e (z := st) hc fun _ _ _ _ hc => XS.eq (XS.ifS (f := fun ρ σ K => ev tab cp c.κ 40 cx ρ σ K) (fun ρ => IHb ρ _ _ (a1 hc)) (IHs _ _ (a1 (a2 hc))) (IHs _ _ (a2 (a2 hc)))) fun ρ σ K e => ex_ifS e
      | asg j r =>
        refine onA1_e (st := st) hc fun t e p hc => ?_
        refine onName_e (z := t) hc fun s np hc => ?_
        have h1 := a1 hc
        have hc := a2 hc
        cases r with
        | newl => exact onLst_e (z := e) (a2 hc) fun _ _ h => nil_e h (XS.newl h1 (a1 hc))
        | dcopy x =>
          exact onNC_e (z := e) (a2 hc) fun _ _ _ _ h => on1_e h fun _ h => XS.dcopy (g := fun ρ σ K => ev tab cp c.κ 40 x ρ σ K) Z h1 (a1 hc) (eq_of_beq (a1 h)) (a1 (a2 h)) (not_t (a1 (a2 (a2 h)))) fun ρ => IHx ρ _ _ (a2 (a2 (a2 h)))
        | newi cl l =>
          exact onNC_e (z := e) (a2 hc) fun _ _ _ _ h => XS.newi (G := fun ρ x σ K => ev tab cp c.κ 40 x ρ σ K) Z h1 (a1 hc) (a1 h) (not_t (a1 (a2 h))) (a1 (a2 (a2 h))) IHx (a2 (a2 (a2 h)))
        | x x =>
          have h2 := a1 hc
          have h4 := a2 (a2 hc)
          have h3 := Bool.or_eq_true_iff.mp (a1 (a2 hc))
          clear hc
          cases hcmp : isComp e with
          | false => exact XS.asg (f := fun ρ σ K => ev tab cp c.κ 40 x ρ σ K) h1 h2 hcmp fun ρ => IHx ρ _ _ h4
          | true =>
            have h3 := h3.resolve_left (by rw [hcmp]; exact Bool.false_ne_true)
            have h31 := a1 h3
            have h32 := a2 h3
            clear h3 hcmp
            obtain ⟨elt, gs, scope, pos, rfl, g1⟩ := onLc_t h32
            obtain ⟨gg, rfl, g2⟩ := on1_t g1
            obtain ⟨tg, src, cs, ia⟩ := gg
            obtain rfl : ia = 0 := eq_of_beq (a1 g2)
            obtain ⟨y, py, rfl, _⟩ := onName_t (z := tg) (a2 g2)
            clear g1 g2 h32
            refine @lc_e (fun x => XS c (fun ρ σ K => ex tab cp c.κ (k + 1) (.asg j (.x x)) ρ σ K) _) 39 c.sc c.q x elt src y py pos cs scope h4 ?_ fun el i it ifs q => ?_
            · exact XS.no fun _ _ _ h => h
            have q1 := a1 q
            have q2 := a1 (a2 q)
            have q4 := a1 (a2 (a2 (a2 q)))
            have q5 := a1 (a2 (a2 (a2 (a2 q))))
            have q6 := a1 (a2 (a2 (a2 (a2 (a2 q)))))
            have q7 := a1 (a2 (a2 (a2 (a2 (a2 (a2 q))))))
            have q8 := a2 (a2 (a2 (a2 (a2 (a2 (a2 q))))))
            clear q
            have HI : ∀ ρ, SX (withR c ρ) (fun σ K => ev tab cp c.κ 39 it ρ σ K) (eval src c.env) := fun ρ => (ev_ok hcp 39 39 (withR c ρ) it src rfl Z q6).1
            have HE : ∀ (ρ : Rho) C t, SX (inC (withR c ρ) scope (closL c.env.cells scope.names []) C [(i, .t t)]) (fun σ K => ev tab cp c.κ 39 el [(i, .t t)] σ K) (eval elt (compEnvC scope (closL c.env.cells scope.names []) C c.env)) :=
                fun ρ C t => (ev_ok hcp 39 39 (inC (withR c ρ) scope (closL c.env.cells scope.names []) C [(i, .t t)]) el elt rfl Z q7).1
            cases ifs with
            | nil => cases cs with
              | nil =>
                refine XS.eq (XS.asgC (j := j) (ft := fun _ σ K => K (.bool true) σ) Z h1 h2 h31 q1 q2 (comp_of q4) q5 HI HE (fun ρ => tests_nil (c := withR c ρ))) fun ρ σ K e => ?_
                rw [ex_asg] at e
                exact ev_comp0 (k := 39) e
              | cons _ _ => exact (Bool.false_ne_true q8).elim
            | cons cx r => cases cs with
              | nil => exact (Bool.false_ne_true q8).elim
              | cons ce rs =>
                have q8 := a2 q8
                cases r with
                | cons _ _ =>
                  refine XS.eq (XS.asgC (j := j) (ft := fun _ _ _ => False) Z h1 h2 h31 q1 q2 (comp_of q4) q5 HI HE (fun _ _ _ _ _ _ _ _ _ _ _ _ _ _ _ e _ => e.elim)) fun ρ σ K e => ?_
                  rw [ex_asg] at e
                  exact ev_comp2 (k := 39) e
                | nil => cases rs with
                  | cons _ _ => exact (Bool.false_ne_true (a2 q8)).elim
                  | nil =>
                    refine XS.eq (XS.asgC (j := j) (ft := fun t σ K => ev tab cp c.κ 39 cx [(i, .t t)] σ K) Z h1 h2 h31 q1 q2 (comp_of q4) q5 HI HE (fun ρ => tests_one (c := withR c ρ) (ft := fun t σ K => ev tab cp c.κ 39 cx [(i, .t t)] σ K) fun C t => (ev_ok hcp 39 39 (inC (withR c ρ) scope (closL c.env.cells scope.names []) C [(i, .t t)]) cx ce rfl Z (a1 q8)).2)) fun ρ σ K e => ?_
                    rw [ex_asg] at e
                    exact ev_comp1 (k := 39) e
      | asgT is l =>
        refine onA1_e (st := st) hc fun t e p hc => onTup_e (z := t) hc fun es _ _ hc => onTup_e (z := e) hc fun vs _ _ hc => ?_
        obtain ⟨i, j, a, b, p, p', v, v', rfl, rfl, rfl, T⟩ := two_of' (a1 hc)
        exact XS.asgT (G := fun ρ x σ K => ev tab cp c.κ 40 x ρ σ K) Z T IHx (a2 hc)
      | unpk is x =>
        exact onA1_e (st := st) hc fun t e p hc => onTup_e (z := t) hc fun es _ _ hc => XS.unpk (f := fun ρ σ K => ev tab cp c.κ 40 x ρ σ K) Z (a1 hc) (not_t (a1 (a2 (a2 hc)))) (a1 (a2 (a2 (a2 hc)))) fun ρ => IHx ρ _ _ (a2 (a2 (a2 (a2 hc))))
      | setA x a v =>
        exact onA1_e (st := st) hc fun t e p hc => onAttr_e (z := t) hc fun _ _ _ hc => XS.setA (f := fun ρ σ K => ev tab cp c.κ 40 v ρ σ K) (g := fun ρ σ K => ev tab cp c.κ 40 x ρ σ K) Z (a1 hc) (not_t (a1 (a2 hc))) (fun ρ => IHx ρ _ _ (a2 (a2 (a2 hc)))) fun ρ => IHx ρ _ _ (a1 (a2 (a2 hc)))
      | setAL i a v =>
        exact onA1_e (st := st) hc fun t e p hc => onAttr_e (z := t) hc fun _ _ _ hc => XS.setAL (f := fun ρ σ K => ev tab cp c.κ 40 v ρ σ K) Z (a1 hc) (a1 (a2 hc)) (not_t (a1 (a2 (a2 hc)))) fun ρ => IHx ρ _ _ (a2 (a2 (a2 hc)))
      | setS x j v =>
        exact onA1_e (st := st) hc fun t e p hc => onSub_e (z := t) hc fun _ _ _ hc => XS.setS (f := fun ρ σ K => ev tab cp c.κ 40 v ρ σ K) (g := fun ρ σ K => ev tab cp c.κ 40 x ρ σ K) (f' := fun ρ σ K => ev tab cp c.κ 40 j ρ σ K) Z (not_t (a1 (a2 hc))) (fun ρ => IHx ρ _ _ (a2 (a2 (a2 (a2 hc))))) (fun ρ => IHx ρ _ _ (a1 (a2 (a2 hc)))) fun ρ => IHx ρ _ _ (a1 (a2 (a2 (a2 hc))))
      | putD i j v =>
        exact onA1_e (st := st) hc fun t e p hc => onSub_e (z := t) hc fun _ _ _ hc => XS.putD (f := fun ρ σ K => ev tab cp c.κ 40 v ρ σ K) (f' := fun ρ σ K => ev tab cp c.κ 40 j ρ σ K) (a1 (a2 (a2 hc))) (not_t (a1 (a2 hc))) (fun ρ => IHx ρ _ _ (a2 (a2 (a2 (a2 hc))))) fun ρ => IHx ρ _ _ (a1 (a2 (a2 (a2 hc))))
      | app i x => exact onM1_e (st := st) hc fun _ _ _ _ _ _ hc => XS.app (f := fun ρ σ K => ev tab cp c.κ 40 x ρ σ K) (meth_is (a1 hc)) (not_t (a1 (a2 hc))) fun ρ => IHx ρ _ _ (a2 (a2 hc))
      | ext i x => exact onM1_e (st := st) hc fun _ _ _ _ _ _ hc => XS.ext (f := fun ρ σ K => ev tab cp c.κ 40 x ρ σ K) (meth_is (a1 hc)) (not_t (a1 (a2 hc))) fun ρ => IHx ρ _ _ (a2 (a2 hc))
      | upd i x => exact onM1_e (st := st) hc fun _ _ _ _ _ _ hc => XS.upd (f := fun ρ σ K => ev tab cp c.κ 40 x ρ σ K) (meth_is (a1 hc)) (not_t (a1 (a2 hc))) fun ρ => IHx ρ _ _ (a2 (a2 hc))
      | appC x v =>
        exact onM1_e (st := st) hc fun _ _ _ _ _ _ hc => XS.appC (f := fun ρ σ K => ev tab cp c.κ 40 v ρ σ K) (g := fun ρ σ K => ev tab cp c.κ 40 x ρ σ K) (eq_of_beq (a1 hc)) (a1 (a2 hc)) (a1 (a2 (a2 hc))) (not_t (a1 (a2 (a2 (a2 hc))))) (fun ρ => IHx ρ _ _ (a1 (a2 (a2 (a2 (a2 hc)))))) fun ρ => IHx ρ _ _ (a2 (a2 (a2 (a2 (a2 hc)))))
      | forS is one x b =>
        exact onFor_e (z := st) hc fun _ _ _ _ _ hc => nil_e (a1 hc) (XS.forS (f := fun ρ σ K => ev tab cp c.κ 40 x ρ σ K) Z (a1 (a2 hc)) (a1 (a2 (a2 hc))) (fun ρ => IHx ρ _ _ (a1 (a2 (a2 (a2 hc))))) (IHs _ _ (a2 (a2 (a2 (a2 hc))))))
      | forR i x b =>
        exact onFor_e (z := st) hc fun _ e _ _ _ hc => nil_e (a1 hc) (onNC_e (z := e) (a2 hc) fun _ _ _ _ hc => on1_e hc fun _ hc => XS.forR (x := fun ρ σ K => ev tab cp c.κ 40 x ρ σ K) Z (a1 hc) (eq_of_beq (a1 (a2 hc))) (a1 (a2 (a2 hc))) (not_t (a1 (a2 (a2 (a2 hc))))) (fun ρ => IHx ρ _ _ (a1 (a2 (a2 (a2 (a2 hc)))))) (IHs _ _ (a2 (a2 (a2 (a2 (a2 hc)))))))
      | forZ is x y b =>
        exact onFor_e (z := st) hc fun _ e _ _ _ hc => nil_e (a1 hc) (onNC_e (z := e) (a2 hc) fun _ _ _ _ hc => on2_e hc fun _ _ hc => XS.forZ (x := fun ρ σ K => ev tab cp c.κ 40 x ρ σ K) (y := fun ρ σ K => ev tab cp c.κ 40 y ρ σ K) Z (a1 hc) (eq_of_beq (a1 (a2 hc))) (a1 (a2 (a2 hc))) (not_t (a1 (a2 (a2 (a2 hc))))) (not_t (a1 (a2 (a2 (a2 (a2 hc)))))) (fun ρ => IHx ρ _ _ (a1 (a2 (a2 (a2 (a2 (a2 hc))))))) (fun ρ => IHx ρ _ _ (a1 (a2 (a2 (a2 (a2 (a2 (a2 hc)))))))) (IHs _ _ (a2 (a2 (a2 (a2 (a2 (a2 (a2 hc)))))))))
      | whl m cx b =>
        refine onWhl_e (z := st) hc fun _ _ _ _ hc => nil_e (a1 hc) (XS.eq (XS.whl (mm := m) (f := fun ρ σ K => ev tab cp c.κ 40 cx ρ σ K) (fun ρ => IHb ρ _ _ (a1 (a2 hc))) (IHs _ _ (a2 (a2 hc)))) fun ρ σ K e => ?_)
        rw [ex_whl] at e
        exact e
      | whlL m x b => exact onWhl_e (z := st) hc fun _ _ _ _ hc => nil_e (a1 hc) (XS.whlL (f := fun ρ σ K => ev tab cp c.κ 40 x ρ σ K) (a1 (a2 hc)) (fun ρ => IHx ρ _ _ (a1 (a2 (a2 hc)))) (IHs _ _ (a2 (a2 (a2 hc)))))
      | skipC i x =>
        exact onA1_e (st := st) hc fun t e p hc => onName_e (z := t) hc fun _ _ hc => XS.skipC (f := fun ρ σ K => ev tab cp c.κ 40 x ρ σ K) (a1 hc) (a1 (a2 hc)) fun ρ => IHx ρ _ _ (a2 (a2 hc))
      | expr x => exact onExp_e (z := st) hc fun _ _ hc => XS.expr (f := fun ρ σ K => ev tab cp c.κ 40 x ρ σ K) (not_t (a1 hc)) fun ρ => IHx ρ _ _ (a2 hc)
      | cont => exact cont_e hc fun _ => XS.cont
noncomputable def laqB : Bool := (List.range 3).all fun k => (List.range 3).all fun k' => !(laQ k ++ (".<locals>." : Str) ++ ("<lambda>" : Str) == laQ k')
theorem laqB_ : laqB = true := by kernel_rfl
noncomputable def clsPB (c : Nat) : Bool := match gs[c]? with
  | some (.clsP i) => (match gs[i]? with
    | some (.fn _) => gA[i]? == lk gIl c
    | _ => false)
  | _ => true
theorem clsPB_ : ((List.range 88).all clsPB) = true := by kernel_rfl
theorem clsP_fn {c i : Nat} (hg : gs[c]? = some (.clsP i)) : ∃ f, gs[i]? = some (.fn f) ∧ gA[i]? = lk gIl c := by
  have h := List.all_eq_true.mp clsPB_ c (List.mem_range.mpr (gs_lt hg))
  unfold clsPB at h
  rw [hg] at h
  have h : (match gs[i]? with
    | some (.fn _) => gA[i]? == lk gIl c
    | _ => false) = true := h
  cases hf : gs[i]? with
  | none => rw [hf] at h; exact nT h
  | some gi => rw [hf] at h; cases gi with
    | fn f => exact ⟨f, rfl, eq_of_beq h⟩
    | _ => exact nT h
section
variable {w : World} {fz : Fz} {hm : Hm}
theorem zip_rev (ps : List Nat) : ∀ (ts : List T) (ws : List Value), RepL w fz hm ts ws → ps.Nodup → (∀ i ∈ ps, i < nsz) → ∀ i t, lk (ps.zip ts) i = some t → ∃ v, ((ps.map sN).zip ws).reverse.lookup (sN i) = some v ∧ Rep w fz hm t v := by
  induction ps with
  | nil => exact fun ts ws rl hn hz i t h => nS h
  | cons j ps ih =>
    intro ts ws rl hn hz i t h
    cases ts with
    | nil => exact nS h
    | cons u ts =>
    refine rl.cons_e fun v ws ru rs => ?_
    rw [List.nodup_cons] at hn
    rw [List.map_cons, List.zip_cons_cons, List.reverse_cons, List.lookup_append]
    have h : (match Nat.beq j i with | true => some u | false => lk (ps.zip ts) i) = some t := h
    cases q : Nat.beq j i with
    | true =>
      rw [q] at h; cases h
      cases Nat.eq_of_beq_eq_true q
      have hni : ((ps.map sN).zip ws).reverse.lookup (sN j) = none := by
        rw [List.lookup_eq_none_iff]
        intro p hp
        rw [List.mem_reverse] at hp
        obtain ⟨k, hk, e⟩ := List.mem_map.mp (zipNames ps ws _ (List.mem_map_of_mem (f := Prod.fst) hp))
        rw [bne_iff_ne]
        intro z
        rw [← e] at z
        exact hn.1 (sN_inj (hz j (.head _)) (hz k (.tail _ hk)) z ▸ hk)
      rw [hni]
      exact ⟨v, by rw [List.lookup_cons, beq_self_eq_true]; rfl, ru⟩
    | false =>
      rw [q] at h
      obtain ⟨v', e, r⟩ := ih ts ws rs hn.2 (fun i hi => hz i (.tail _ hi)) i t h
      exact ⟨v', by rw [e]; rfl, r⟩
end
section
variable {w : World} {mg mb : Str → Option Value} {n : Nat} {A : Around} {h₀ h : Heap} {L : Addr} {m : Str → Option Value} {fz : Fz} {hm : Hm} {σ : Sg} {g : Array GenState} {d : Drawn} {tk : Nat} {os : OsState} {E : Value → Shared → Prop} {cp : CP}
theorem lam_call {k : Nat} {l : LamI} {cl : List (Nat × T)} {v : Value} {args : List T} {vs : List Value} {bs : List (Nat × T)} {K : T → Sg → Prop} {Q : Value → Shared → Prop} (hcp : CpOk w mg mb n cp) (hl : lms[k]? = some l) (hb : bindP l.ps [] args = some bs)
    (Z : Act w mg mb (n + 1) A h₀ L) (F : Fr h₀ L h m) (X : W w h₀ L h fz hm σ) (r : Rep w fz hm (.lam k cl) v) (rl : RepL w fz hm args vs) (he : ev tab cp cl 40 l.body (lvs bs) σ K) (hQ : Res w h₀ L g d os h fz hm Q K) :
    wpAny (model pw w) A (PySem.call v vs []) Q E ⟨h, g, d, tk, os⟩ := by
  obtain ⟨q1, q2, rfl⟩ := bindP_some hb
  generalize hfu : (40 : Nat) = fu at he
  refine r.lam_e fun l' f c' a b s p q clos pm ctv oc vs' t h1 h2 h3 h4 h5 h6 h7 h8 h9 => ?_
  · rw [hl] at h1
    cases h1
    obtain ⟨nb, h3⟩ := h3
    unfold lamOk at h2
    have hk3 : k < 3 := Nat.le_of_ble_eq_true (a1 h2)
    have hq := a1 (a2 (a2 (a2 h2)))
    have hpar := a1 (a2 (a2 (a2 (a2 h2))))
    have hnames := a1 (a2 (a2 (a2 (a2 (a2 h2)))))
    have hfr := a2 (a2 (a2 (a2 (a2 (a2 h2)))))
    have PF := par_of hpar
    have hXh := Z.X.keeps F.keep
    have hlen := rl.length
    have hps : vs.length = l.ps.length := by simp only [List.length_nil] at q2; lia
    have hnd : (l.ps.map sN).Nodup := List.pairwise_map.mpr (PF.nodup.imp_of_mem fun hx hy ne e => ne (sN_inj (PF.kinds _ hx).1 (PF.kinds _ hy).1 e))
    have hloc : ∀ i ∈ l.ps, s.names.lookup (sN i) = some .local := fun i hi => beq_iff_eq.mp (PF.kinds i hi).2
    have hnc : ∀ x ∈ s.names, x.2 ≠ .cell := fun x hx e => by
      have := List.all_eq_true.mp hnames x hx
      rw [e] at this
      simp at this
    refine wpAny_call (kla_callFunE (by have := Z.hd; lia) (X.fzo _ _ h4) rfl PF.co PF.ge rfl ⟨c', oc, vs', t, rfl, X.fzo _ _ h5, h6, h7⟩ ?_)
    refine bind_go (names := l.ps.map sN) (dl := []) PF.pos PF.names PF.kwo PF.va PF.kwa (by rw [List.length_map, hps]; exact Nat.le_refl _) hnd (Nat.zero_le _) (by rw [List.length_map, hps]; exact Nat.le_add_right _ _) ⟨none, rfl, fun Q hQ => wpAny_pure hQ⟩ ?_
    rw [List.drop_nil, List.append_nil]
    refine wpAny_newFunctionEnv hnc (fun x hx => ?_) (fun h1 hns hsb => ?_) PF.fn
    · obtain ⟨i, hi, e⟩ := List.mem_map.mp (zipNames l.ps vs _ (List.mem_map_of_mem (f := Prod.fst) hx))
      rw [← e]; exact hloc i hi
    · have keep : ∀ b o, h.get? b = some o → h1.get? b = some o := fun b o e => hsb.extBut b o (Nat.ne_of_lt (Heap.lt_size e)) (Heap.get?_push_of_some _ e)
      refine ⟨((Z.T.nolimit).keeps F.keep).keeps keep, ?_⟩
      obtain ⟨Z', st⟩ := Z.enter ⟨h, g, d, tk, os⟩ rfl F X (env' := newEnv s h.objs.size mainGlobals clos (laQ k ++ (".<locals>." : Str)) (some f) (.ref c') none builtinsNs) rfl PF.fn
      have X1 : W w (hideAll h (mtL hm)) h.objs.size h1 fz hm σ := X.into.keeps keep
      have F1 : Fr (hideAll h (mtL hm)) h.objs.size h1 (fun x => ((l.ps.map sN).zip vs).reverse.lookup x) := ⟨hns, fun b o e => keep _ _ (of_hideAll _ e), Nat.le_of_eq (hideAll_size _ _)⟩
      have x1 : Ext h fz hm h1 fz hm := Ext.keeps fz hm keep
      simp only [List.drop_nil, List.append_nil] at he
      let cF : Fx := Fx.mk w (A.deeper (newEnv s h.objs.size mainGlobals clos (laQ k ++ (".<locals>." : Str)) (some f) (.ref c') none builtinsNs)) (hideAll h (mtL hm)) h.objs.size g d os (newEnv s h.objs.size mainGlobals clos (laQ k ++ (".<locals>." : Str)) (some f) (.ref c') none builtinsNs) s (laQ k ++ (".<locals>." : Str)) cl (lvs (l.ps.zip args))
      have N : En cF h1 fz hm := by
        refine ⟨rfl, PF.fn, rfl, rfl, rfl, fun i v e _ => ?_, fun x hx => ?_, ⟨_, hns, fun i t e hi => ?_⟩, X.fresh_mt (get_none_size h), fun k' hk' e => ?_⟩
        · obtain ⟨cc, o, v', z1, z2, z3, z4⟩ := h8.lk e
          exact ⟨cc, o, v', z1, z2, z3, z4⟩
        · exact absurd rfl (hnc _ (mem_of_lookup (beq_iff_eq.mp hx)))
        · obtain ⟨t', e', hl'⟩ := lk_lvs e
          cases e'
          obtain ⟨v', z1, z2⟩ := zip_rev l.ps args vs rl PF.nodup (fun i hi => (PF.kinds i hi).1) i t hl'
          exact ⟨v', z1, z2⟩
        · have z := List.all_eq_true.mp (List.all_eq_true.mp laqB_ k (List.mem_range.mpr hk3)) k' (List.mem_range.mpr hk')
          have e : laQ k ++ (".<locals>." : Str) ++ ("<lambda>" : Str) = laQ k' := e
          rw [e] at z
          simp at z
      refine kla_codeExpr ((ev_ok hcp nb fu cF l.body b rfl Z' h3).1 _ h1 fz hm σ _ _ _ K F1 X1 N he fun t v h' tk' fz' hm' σ' a r X' x' => ?_)
      exact hQ t v h' tk' fz' hm' σ' a r (X.back F (x1.trans x') X') (x1.trans x')
end
noncomputable def goB (g : Nat) : Bool := match gs[g]? with
  | some (.fn _) => !(Nat.beq g 84)
  | some (.cls _) => !(Nat.beq g 84)
  | some (.clsP _) => !(Nat.beq g 84)
  | some .orc => false
  | _ => true
theorem goB_ : ((List.range 88).all goB) = true := by kernel_rfl
abbrev noO : Nat → CP := fun _ => noCp
abbrev CALL (d : Nat) : CP := callP tab noO d
theorem callP_glob {d gi : Nat} {args : List T} {σ : Sg} {K : T → Sg → Prop} : CALL (d + 1) (.glob gi) args σ K = (match gs[gi]? with
      | some (.fn f) => runF tab (CALL d) f args σ K
      | some (.cls c) => ctorP tab c args σ fun fs σ => K (.inst gi fs) σ
      | some (.clsP i) => CALL d (.glob i) (.own σ.length :: args) (σ ++ [.inst gi []]) fun r σ' => (match r with
        | .none => K (.own σ.length) σ'
        | _ => False)
      | some .orc => noO gi (.glob gi) args σ K
      | _ => False) := rfl
theorem callP_lam {d k : Nat} {cl : List (Nat × T)} {args : List T} {σ : Sg} {K : T → Sg → Prop} : CALL (d + 1) (.lam k cl) args σ K = (match lms[k]? with
      | some l => (match bindP l.ps [] args with
        | some bs => ev tab (CALL d) cl 40 l.body (lvs bs) σ K
        | Option.none => False)
      | Option.none => False) := rfl
section
variable {w : World} {mg mb : Str → Option Value} {n : Nat} {A : Around} {h₀ h : Heap} {L : Addr} {m : Str → Option Value} {fz : Fz} {hm : Hm} {σ : Sg} {g : Array GenState} {d : Drawn} {tk : Nat} {os : OsState} {E : Value → Shared → Prop} {cp : CP}
theorem fn_code {gi : Nat} {f : FnI} {a : Addr} {args : List T} {vs : List Value} {K : T → Sg → Prop} {R : Result → Shared → Prop} (hcp : CpOk w mg mb (n + 3) cp) (hg : gs[gi]? = some (.fn f)) (ha : gA[gi]? = some a) (Z : Act w mg mb (n + 3 + 1) A h₀ L) (F : Fr h₀ L h m) (X : W w h₀ L h fz hm σ) (rl : RepL w fz hm args vs)
    (he : runF tab cp f args σ K) (hQ : ∀ t v h' tk' fz' hm' σ', K t σ' → Rep w fz' hm' t v → W w h₀ L h' fz' hm' σ' → Ext h fz hm h' fz' hm' → R (.ok (.ret v)) ⟨h', g, d, tk', os⟩) :
    codeAny (model pw w) A (.call (.ref a) ⟨vs, []⟩) R ⟨h, g, d, tk, os⟩ :=
  fn_call hg (gs_lt hg) ha Z F X rl he hQ fun env κ Z' => exs_ok (c := fxOf w A h hm g d os gi env κ) (G := fun s ρ σ K => ex tab cp κ 20 s ρ σ K) (fun s st hc => ex_ok hcp (fxOf w A h hm g d os gi env κ) rfl Z' 20 20 s st hc) _ _ (fn_chk hg (gs_lt hg)).body
end
theorem call_ok {w : World} {mg mb : Str → Option Value} : ∀ d, CpOk w mg mb (d + 4) (CALL d) := by
  intro d
  induction d using Nat.strongRecOn with
  | _ d IH =>
  cases d with
  | zero => exact ⟨fun _ _ _ _ h => h.elim, fun _ _ _ _ _ _ _ _ _ _ _ _ _ _ _ _ _ _ _ _ _ _ _ _ h _ => h.elim⟩
  | succ d =>
    have ih := IH d (Nat.lt_succ_self d)
    refine ⟨fun f args σ K he => ?_, fun A h₀ L g dr os Z m h fz hm σ tk Q E K f args vf vs F X rf rl he hQ => ?_⟩
    · cases f with
      | glob gi =>
        rw [callP_glob] at he
        have hlt : gi < 88 := by
          cases q : gs[gi]? with
          | none => rw [q] at he; exact he.elim
          | some x => exact gs_lt q
        have hB := List.all_eq_true.mp goB_ gi (List.mem_range.mpr hlt)
        unfold goB at hB
        have fin : (!(Nat.beq gi 84)) = true → calls (.glob gi) = true := fun h => Bool.and_eq_true_iff.mpr ⟨h, Nat.blt_eq.mpr hlt⟩
        cases q : gs[gi]? with
        | none => rw [q] at he; exact he.elim
        | some x =>
          rw [q] at he hB
          cases x with
          | orc => exact nT hB
          | bare => exact he.elim
          | _ => exact fin hB
      | lam k cl => rfl
      | _ => exact he.elim
    · cases f with
      | glob gi =>
        rw [callP_glob] at he
        refine rf.glob_e fun a ha => ?_
        · cases hg : gs[gi]? with
          | none => rw [hg] at he; exact he.elim
          | some x => rw [hg] at he; cases x with
          | fn f =>
            exact wpAny_call (fn_code (n := d + 1) ih hg ha Z F X rl he fun t v h' tk' fz' hm' σ' k r X' x' => hQ t v h' tk' fz' hm' σ' k r X' x')
          | cls ci =>
            exact cls_val (n := d + 2) hg ha Z F X rl he hQ
          | clsP i =>
            obtain ⟨hC, -⟩ := clsP_isC hg
            obtain ⟨f, hgi, hfa⟩ := clsP_fn hg
            obtain ⟨C, fI, D⟩ := cls_of w.params hC
            have := D.at_
            rw [ha] at this
            cases this
            cases d with
            | zero => exact he.elim
            | succ e =>
              replace he : CALL (e + 1) (.glob i) (.own σ.length :: args) (σ ++ [.inst gi []]) (fun r σ' => match r with
                | .none => K (.own σ.length) σ'
                | _ => False) := he
              rw [callP_glob, hgi] at he
              refine wpAny_call (cls_call (n := e + 1 + 4) D hC Z F X fun h2 fz2 p hs1 hp1 hp2 F2 X2 x2 Z2 => ?_)
              have hl := X.len
              have hown : (hm ++ [p])[σ.length]? = some p := by rw [← hl, List.getElem?_append_right (Nat.le_refl _), Nat.sub_self]; rfl
              have up : ∀ (j : Nat) (q : Addr × Addr), hm[j]? = some q → (hm ++ [p])[j]? = some q := fun j q e => by rw [List.getElem?_append_left (List.getElem?_eq_some_iff.mp e).1]; exact e
              have rl2 : RepL w fz2 (hm ++ [p]) (.own σ.length :: args) (.ref p.1 :: vs) := .cons (.own hown) (rl.mono x2.sub up)
              refine fn_code (n := e + 1) (IH e (by omega)) hgi (by rw [hfa]; exact D.ini) Z2 F2 X2 rl2 he fun t v h' tk' fz' hm' σ' k r X' x' => ?_
              cases r with
              | none => exact ⟨rfl, hQ (.own σ.length) _ h' tk' fz' hm' σ' k (.own (x'.hmi _ _ hown)) X' (x2.trans x')⟩
              | _ => exact k.elim
          | _ => exact he.elim
      | lam k cl =>
        rw [callP_lam] at he
        cases hl : lms[k]? with
        | none => rw [hl] at he; exact he.elim
        | some l => rw [hl] at he; cases hb : bindP l.ps [] args with
          | none =>
            have he : (match bindP l.ps [] args with
              | some bs => ev tab (CALL d) cl 40 l.body (lvs bs) σ K
              | Option.none => False) := he
            rw [hb] at he; exact he.elim
          | some bs =>
            have he : (match bindP l.ps [] args with
              | some bs => ev tab (CALL d) cl 40 l.body (lvs bs) σ K
              | Option.none => False) := he
            rw [hb] at he
            exact lam_call (n := d + 4) ih hl hb Z F X rf rl he hQ
      | _ => exact he.elim
local macro_rules | `(tactic| walk_at "st") => `(tactic| (repeat ((conv => whnf); refine ⟨by first | exact rfl | exact True.intro | exact Nat.le_of_ble_eq_true rfl | exact ⟨rfl, Nat.le_of_ble_eq_true rfl⟩ | exact ⟨Nat.le_of_ble_eq_true rfl, Nat.le_of_ble_eq_true rfl⟩ | decide, ?_⟩)))
noncomputable abbrev cVar (n : Nat) : T := .inst 37 [(14, .sym n)]
noncomputable abbrev cLit (i : Int) : T := .inst 38 [(9, .sym 85), (11, .int i)]
noncomputable abbrev cApp (f : T) (l : List T) : T := .inst 39 [(97, f), (17, .lst l)]
noncomputable abbrev cLam (i : Nat) (b : T) : T := .inst 40 [(98, .lst [.sym i]), (35, b)]
noncomputable abbrev cLet1 (x : Nat) (e b : T) : T := .inst 41 [(47, .lst [.tup [.sym x, e]]), (35, b), (100, .bool false)]
noncomputable abbrev cAlt (key : T) (names : List T) (b : T) : T := .inst 42 [(104, key), (37, .lst names), (35, b)]
noncomputable abbrev cCase (v : T) (n : Nat) (alts : List T) (o : T) : T := .inst 43 [(11, v), (14, .sym n), (103, .lst alts), (106, o)]
noncomputable abbrev cCon (n : Nat) (l : List T) : T := .inst 44 [(14, .sym n), (17, .lst l)]
noncomputable abbrev cPrim (l : List T) : T := .inst 45 [(120, .sym 87), (17, .lst l)]
structure Gives (N : Nat) (f : T) (args : List T) (v : T) : Prop where
  run : ∀ (d : Nat) (σ : Sg) (K : T → Sg → Prop), K v σ → CALL (d + N) f args σ K
theorem callG {d N gi : Nat} {args : List T} {σ : Sg} {K : T → Sg → Prop} : CALL (d + (N + 1)) (.glob gi) args σ K = (match gs[gi]? with
      | some (.fn f) => runF tab (CALL (d + N)) f args σ K
      | some (.cls c) => ctorP tab c args σ fun fs σ => K (.inst gi fs) σ
      | some (.clsP i) => CALL (d + N) (.glob i) (.own σ.length :: args) (σ ++ [.inst gi []]) fun r σ' => (match r with
        | .none => K (.own σ.length) σ'
        | _ => False)
      | some .orc => noO gi (.glob gi) args σ K
      | _ => False) := callP_glob (d := d + N)
theorem up_eq {d N M : Nat} (hl : N ≤ M) : d + (M - N) + N = d + M := by rw [Nat.add_assoc, Nat.sub_add_cancel hl]
theorem Gives.up {N M : Nat} {f : T} {args : List T} {v : T} (h : Gives N f args v) (hl : N ≤ M) : Gives M f args v := Gives.mk fun d σ K k => by
  have := h.run (d + (M - N)) σ K k
  have e : d + (M - N) + N = d + M := up_eq hl
  rw [e] at this; exact this
abbrev Ev (N : Nat) (c : T) (env : List (Nat × T)) (v : T) : Prop := Gives N (.glob 21) [c, .dct env] v
section
variable {N : Nat} {env : List (Nat × T)}
theorem ev_lit {i : Int} : Ev 1 (cLit i) env (.int i) := Gives.mk fun d σ K h => by
  rw [callP_glob]
  walk_at "st"
  conv => whnf
  exact h
theorem ev_var {n : Nat} {c : T} {e : List (Nat × T)} {v : T} (hl : lk env n = some (.tup [c, .dct e])) (h : Ev N c e v) : Ev (N + 1) (cVar n) env v := Gives.mk fun d σ K k => by
  first | rw [callP_glob] | rw [callG]
  walk_at "st"
  conv => whnf
  rw [hl]
  walk_at "st"
  conv => whnf
  rw [hl]
  walk_at "st"
  conv => whnf
  rw [hl]
  walk_at "st"
  conv => whnf
  exact h.run d σ K k
theorem ev_way {n : Nat} (hl : lk env n = none) : Ev 1 (cVar n) env (.tup [.sym 57, .sym n]) := Gives.mk fun d σ K k => by
  first | rw [callP_glob] | rw [callG]
  walk_at "st"
  conv => whnf
  rw [hl]
  walk_at "st"
  conv => whnf
  exact k
theorem ev_nil {n : Nat} : Ev 1 (cCon n []) env (.tup [.sym 94, .sym n, .lst []]) := Gives.mk fun d σ K k => by
  first | rw [callP_glob] | rw [callG]
  walk_at "st"
  conv => whnf
  exact k
theorem ev_con {n : Nat} {a b : T} : Ev 1 (cCon n [a, b]) env (.tup [.sym 94, .sym n, .lst [.tup [a, .dct env], .tup [b, .dct env]]]) := Gives.mk fun d σ K k => by
  first | rw [callP_glob] | rw [callG]
  walk_at "st"
  conv => whnf
  exact k
theorem ev_lam {i : Nat} {b : T} : Ev 1 (cLam i b) env (.tup [.sym 97, .lst [.sym i], b, .dct env]) := Gives.mk fun d σ K k => by
  first | rw [callP_glob] | rw [callG]
  walk_at "st"
  conv => whnf
  exact k
theorem ev_let {x : Nat} {e b v : T} (hn : env.length < 1000) (h : Ev N b (pt env x (.tup [e, .dct env])) v) : Ev (N + 1) (cLet1 x e b) env v := Gives.mk fun d σ K k => by
  first | rw [callP_glob] | rw [callG]
  walk_at "st"
  conv => whnf
  refine ⟨hn, ?_⟩
  walk_at "st"
  conv => whnf
  refine ⟨hn, ?_⟩
  walk_at "st"
  conv => whnf
  exact h.run d σ K k
theorem ev_prim {a b : T} {i j : Int} (h : Ev N a env (.int i)) (h' : Ev N b env (.int j)) : Ev (N + 1) (cPrim [a, b]) env (.int (i + j)) := Gives.mk fun d σ K k => by
  first | rw [callP_glob] | rw [callG]
  walk_at "st"
  conv => whnf
  refine h.run d σ _ ?_
  walk_at "st"
  conv => whnf
  refine h'.run d σ _ ?_
  walk_at "st"
  conv => whnf
  exact k
theorem ev_app {f : T} {l : List T} {v : T} (h : Gives N (.glob 23) [cApp f l, .dct env] v) : Ev (N + 1) (cApp f l) env v := Gives.mk fun d σ K k => by
  first | rw [callP_glob] | rw [callG]
  walk_at "st"
  conv => whnf
  exact h.run d σ K k
theorem ev_case {c o : T} {n : Nat} {l : List T} {v : T} (h : Gives N (.glob 25) [cCase c n l o, .dct env] v) : Ev (N + 1) (cCase c n l o) env v := Gives.mk fun d σ K k => by
  first | rw [callP_glob] | rw [callG]
  walk_at "st"
  conv => whnf
  exact h.run d σ K k
end
local macro_rules | `(tactic| walk_at "go") => `(tactic| (walk_at "st"; conv => whnf))
noncomputable def lC : List T → T
  | [] => cCon 49 []
  | c :: r => cCon 51 [c, lC r]
noncomputable def lV (env : List (Nat × T)) : List T → T
  | [] => .tup [.sym 94, .sym 49, .lst []]
  | c :: r => .tup [.sym 94, .sym 51, .lst [.tup [c, .dct env], .tup [lC r, .dct env]]]
section
variable {N : Nat} {env : List (Nat × T)}
theorem ev_lC : ∀ l : List T, Ev 1 (lC l) env (lV env l)
  | [] => ev_nil
  | _ :: _ => ev_con
abbrev All (N : Nat) (v : T) (cs : List T) : Prop := Gives N (.glob 24) [v] (.lst cs)
theorem all_items {cs : List T} : All 1 (.tup [.sym 8, .lst cs]) cs := Gives.mk fun d σ K k => by
  first | rw [callP_glob] | rw [callG]
  walk_at "go"
  exact k
theorem all_list {l cs : List T} (h : Gives N (.glob 22) [.tup (.sym 94 :: l)] (.lst cs)) : All (N + 1) (.tup (.sym 94 :: l)) cs := Gives.mk fun d σ K k => by
  first | rw [callP_glob] | rw [callG]
  walk_at "go"
  exact h.run d σ _ k
theorem list0 : Gives 1 (.glob 22) [lV env []] (.lst []) := Gives.mk fun d σ K k => by
  first | rw [callP_glob] | rw [callG]
  walk_at "go"
  exact k
theorem list1 {a : T} (h : Ev N (lC []) env (lV env [])) : Gives (N + 1) (.glob 22) [lV env [a]] (.lst [.tup [a, .dct env]]) := Gives.mk fun d σ K k => by
  first | rw [callP_glob] | rw [callG]
  walk_at "go"
  refine h.run d σ _ ?_
  walk_at "go"
  exact k
theorem list2 {a b : T} (h : Ev N (lC []) env (lV env [])) (h' : Ev N (lC [b]) env (lV env [b])) : Gives (N + 1) (.glob 22) [lV env [a, b]] (.lst [.tup [a, .dct env], .tup [b, .dct env]]) := Gives.mk fun d σ K k => by
  first | rw [callP_glob] | rw [callG]
  walk_at "go"
  refine h'.run d σ _ ?_
  walk_at "go"
  refine h.run d σ _ ?_
  walk_at "go"
  exact k
noncomputable def Tells (N : Nat) (c : T) (env : List (Nat × T)) (cs : List T) : Prop := ∃ v, Ev N c env v ∧ All N v cs
theorem Tells.up {M : Nat} {c : T} {cs : List T} (h : Tells N c env cs) (hl : N ≤ M) : Tells M c env cs := let ⟨v, a, b⟩ := h; ⟨v, a.up hl, b.up hl⟩
theorem tells_lC {l : List T} (h : l.length ≤ 2) : Tells 3 (lC l) env (l.map fun c => .tup [c, .dct env]) := by
  refine ⟨_, (ev_lC l).up (by decide), ?_⟩
  match l, h with
  | [], _ => exact (all_list (list0 (env := env))).up (by decide)
  | [a], _ => exact all_list (list1 (ev_lC []))
  | [a, b], _ => exact all_list (list2 (ev_lC []) (ev_lC [b]))
noncomputable abbrev thn (d a b : T) : T := cApp (cVar 63) [d, a, b]
noncomputable abbrev bnd (d a b : T) : T := cApp (cVar 62) [d, a, b]
noncomputable abbrev fl (d a : T) : T := cApp (cVar 68) [d, a]
noncomputable abbrev wayV : T := .tup [.sym 57, .sym 101]
theorem called_fail {w a : T} (hw : Ev N w env wayV) : Gives (N + 1) (.glob 23) [fl w a, .dct env] (.tup [.sym 8, .lst []]) := Gives.mk fun d σ K k => by
  rw [callG]
  walk_at "go"
  refine hw.run d σ _ ?_
  walk_at "go"
  exact k
section
variable {w a b va vb : T} {ds : List T} {x y : T}
theorem called_thn0 (hw : Ev N w env wayV) (h1 : Ev N a env va) (h2 : All N va []) : Gives (N + 1) (.glob 23) [thn w a b, .dct env] (.tup [.sym 8, .lst []]) := Gives.mk fun d σ K k => by
  rw [callG]
  walk_at "go"
  refine hw.run d σ _ ?_
  walk_at "go"
  refine h1.run d σ _ ?_
  walk_at "go"
  refine h2.run d σ _ ?_
  walk_at "go"
  exact k
theorem called_thn1 (hw : Ev N w env wayV) (h1 : Ev N a env va) (h2 : All N va [x]) (h3 : Ev N b env vb) (h4 : All N vb ds) (hl : ds.length < 1000) : Gives (N + 1) (.glob 23) [thn w a b, .dct env] (.tup [.sym 8, .lst ds]) := Gives.mk fun d σ K k => by
  rw [callG]
  walk_at "go"
  refine hw.run d σ _ ?_
  walk_at "go"
  refine h1.run d σ _ ?_
  walk_at "go"
  refine h2.run d σ _ ?_
  walk_at "go"
  refine h3.run d σ _ ?_
  walk_at "go"
  refine h4.run d σ _ ?_
  walk_at "go"
  refine ⟨by show 0 + ds.length < 1000000; lia, ?_⟩
  walk_at "go"
  exact k
theorem called_thn2 (hw : Ev N w env wayV) (h1 : Ev N a env va) (h2 : All N va [x, y]) (h3 : Ev N b env vb) (h4 : All N vb ds) (hl : ds.length < 1000) : Gives (N + 1) (.glob 23) [thn w a b, .dct env] (.tup [.sym 8, .lst (ds ++ ds)]) := Gives.mk fun d σ K k => by
  rw [callG]
  walk_at "go"
  refine hw.run d σ _ ?_
  walk_at "go"
  refine h1.run d σ _ ?_
  walk_at "go"
  refine h2.run d σ _ ?_
  walk_at "go"
  refine h3.run d σ _ ?_
  walk_at "go"
  refine h4.run d σ _ ?_
  walk_at "go"
  refine ⟨by show 0 + ds.length < 1000000; lia, ?_⟩
  walk_at "go"
  refine h3.run d σ _ ?_
  walk_at "go"
  refine h4.run d σ _ ?_
  walk_at "go"
  refine ⟨by show ([] ++ ds).length + ds.length < 1000000; rw [List.nil_append]; lia, ?_⟩
  walk_at "go"
  exact k
end
end
section
variable {N : Nat} {env : List (Nat × T)}
theorem with1 {i : Nat} {x : T} (h : env.length < 900) : Gives 1 (.glob 20) [.dct env, .dct [(i, x)]] (.dct (pt env i x)) := Gives.mk fun d σ K k => by
  rw [callP_glob]
  walk_at "go"
  refine ⟨by lia, ?_⟩
  walk_at "go"
  refine ⟨by show env.length + 1 < 1000; lia, ?_⟩
  walk_at "go"
  exact k
theorem lit_ {k : T} {v : T} : Gives 1 (.glob 38) [k, v] (.inst 38 [(9, k), (11, v)]) := Gives.mk fun d σ K k => by
  rw [callP_glob]
  walk_at "go"
  exact k
theorem with0 (h : env.length < 900) : Gives 1 (.glob 20) [.dct env, .dct []] (.dct env) := Gives.mk fun d σ K k => by
  rw [callP_glob]
  walk_at "go"
  refine ⟨by lia, ?_⟩
  walk_at "go"
  refine ⟨by show env.length + 0 < 1000; lia, ?_⟩
  walk_at "go"
  exact k
section
variable {w a b va : T} {ds es : List T} {x y vx vy : T} {i : Nat} {bd : T}
theorem called_bnd0 (hw : Ev N w env wayV) (h1 : Ev N a env va) (h2 : All N va []) : Gives (N + 1) (.glob 23) [bnd w a b, .dct env] (.tup [.sym 8, .lst []]) := Gives.mk fun d σ K k => by
  rw [callG]
  walk_at "go"
  refine hw.run d σ _ ?_
  walk_at "go"
  refine h1.run d σ _ ?_
  walk_at "go"
  refine h2.run d σ _ ?_
  walk_at "go"
  exact k
noncomputable def calledB : List S := match g_law_called with
  | .fn f => (match f.body with
    | [_, _, _, _, .forS _ _ _ b, _] => b
    | _ => [])
  | _ => []
noncomputable def rA (c : T) (env : List (Nat × T)) (args : List T) (acc : List T) : Rho := [(27, .t c), (96, .t (.dct env)), (14, .t (.sym 62)), (17, .t (.lst args)), (24, .l acc)]
noncomputable def rB (c : T) (env : List (Nat × T)) (args : List T) (acc : List T) (x : T) (i : Nat) (bd : T) : Rho := [(27, .t c), (96, .t (.dct env)), (14, .t (.sym 62)), (17, .t (.lst args)), (24, .l acc), (64, .t x), (9, .t (.sym 97)), (98, .t (.lst [.sym i])), (35, .t bd), (99, .t (.dct env))]
abbrev bodyF (d : Nat) (bs : List S) : T → Rho → Sg → (Fl → Rho → Sg → Prop) → Prop := fun t ρ σ K => match bindOne [64] true t ρ with
  | some ρ => exs (fun s ρ σ K => ex tab (CALL d) [] 19 s ρ σ K) bs ρ σ K
  | none => False
theorem body_A {c : T} {acc : List T} {d : Nat} {σ : Sg} {K : Fl → Rho → Sg → Prop} (hN : 1 ≤ N) (he : env.length < 900) (h3 : Ev N b env (.tup [.sym 97, .lst [.sym i], bd, .dct env])) (hx : Ev N bd (pt env i x) vx) (hx' : All N vx ds) (hl : acc.length + ds.length < 1000000)
    (k : K .next (rB c env [w, a, b] (acc ++ ds) x i bd) σ) : bodyF (d + N) calledB x (rA c env [w, a, b] acc) σ K := by
  walk_at "go"
  refine h3.run d σ _ ?_
  walk_at "go"
  refine ((with1 he).up hN).run d σ _ ?_
  walk_at "go"
  refine hx.run d σ _ ?_
  walk_at "go"
  refine hx'.run d σ _ ?_
  walk_at "go"
  refine ⟨hl, ?_⟩
  walk_at "go"
  exact k
theorem body_B {c : T} {acc : List T} {d : Nat} {σ : Sg} {K : Fl → Rho → Sg → Prop} (hN : 1 ≤ N) (he : env.length < 900) (h3 : Ev N b env (.tup [.sym 97, .lst [.sym i], bd, .dct env])) (hx : Ev N bd (pt env i x) vx) (hx' : All N vx ds) (hl : acc.length + ds.length < 1000000)
    (k : K .next (rB c env [w, a, b] (acc ++ ds) x i bd) σ) : bodyF (d + N) calledB x (rB c env [w, a, b] acc y i bd) σ K := by
  walk_at "go"
  refine h3.run d σ _ ?_
  walk_at "go"
  refine ((with1 he).up hN).run d σ _ ?_
  walk_at "go"
  refine hx.run d σ _ ?_
  walk_at "go"
  refine hx'.run d σ _ ?_
  walk_at "go"
  refine ⟨hl, ?_⟩
  walk_at "go"
  exact k
theorem forL1 {F : T → Rho → Sg → (Fl → Rho → Sg → Prop) → Prop} {ρ : Rho} {σ : Sg} {K : Fl → Rho → Sg → Prop} (h : F x ρ σ fun fl ρ σ => (match fl with
    | .next => K .next ρ σ
    | .cont => K .next ρ σ
    | .ret v => K (.ret v) ρ σ)) : forL F [x] ρ σ K := h
theorem forL2 {F : T → Rho → Sg → (Fl → Rho → Sg → Prop) → Prop} {ρ : Rho} {σ : Sg} {K : Fl → Rho → Sg → Prop} (h : F x ρ σ fun fl ρ σ => (match fl with
    | .next => forL F [y] ρ σ K
    | .cont => forL F [y] ρ σ K
    | .ret v => K (.ret v) ρ σ)) : forL F [x, y] ρ σ K := h
theorem called_bnd1 (hN : 1 ≤ N) (he : env.length < 900) (hw : Ev N w env wayV) (h1 : Ev N a env va) (h2 : All N va [x]) (h3 : Ev N b env (.tup [.sym 97, .lst [.sym i], bd, .dct env])) (hx : Ev N bd (pt env i x) vx) (hx' : All N vx ds) (hl : ds.length < 1000) :
    Gives (N + 1) (.glob 23) [bnd w a b, .dct env] (.tup [.sym 8, .lst ds]) := Gives.mk fun d σ K k => by
  rw [callG]
  walk_at "go"
  refine hw.run d σ _ ?_
  walk_at "go"
  refine h1.run d σ _ ?_
  walk_at "go"
  refine h2.run d σ _ ?_
  dsimp only [itemsP]
  refine forL1 (F := bodyF (d + N) calledB) (ρ := rA (bnd w a b) env [w, a, b] []) (body_A hN he h3 hx hx' (by show 0 + _ < _; lia) ?_)
  walk_at "go"
  exact k
theorem called_bnd2 (hN : 1 ≤ N) (he : env.length < 900) (hw : Ev N w env wayV) (h1 : Ev N a env va) (h2 : All N va [x, y]) (h3 : Ev N b env (.tup [.sym 97, .lst [.sym i], bd, .dct env])) (hx : Ev N bd (pt env i x) vx) (hx' : All N vx ds) (hl : ds.length < 1000)
    (hy : Ev N bd (pt env i y) vy) (hy' : All N vy es) (hl' : es.length < 1000) :
    Gives (N + 1) (.glob 23) [bnd w a b, .dct env] (.tup [.sym 8, .lst (ds ++ es)]) := Gives.mk fun d σ K k => by
  rw [callG]
  walk_at "go"
  refine hw.run d σ _ ?_
  walk_at "go"
  refine h1.run d σ _ ?_
  walk_at "go"
  refine h2.run d σ _ ?_
  dsimp only [itemsP]
  refine forL2 (F := bodyF (d + N) calledB) (ρ := rA (bnd w a b) env [w, a, b] []) (body_A hN he h3 hx hx' (by show 0 + _ < _; lia) ?_)
  dsimp only
  refine forL1 (F := bodyF (d + N) calledB) (body_B hN he h3 hy hy' (by rw [List.nil_append]; lia) ?_)
  walk_at "go"
  exact k
theorem chosen_lit {c o bd v : T} {k j : Int} (hN : 1 ≤ N) (he : env.length < 900) (hc : Ev N c env (.int j)) (hb : (k == j) = true) (h : Ev N bd (pt env 89 (.tup [cLit j, .dct []])) v) :
    Gives (N + 1) (.glob 25) [cCase c 89 [cAlt (.tup [.sym 90, .sym 85, .int k]) [] bd] o, .dct env] v := Gives.mk fun d σ K kk => by
  rw [callG]
  walk_at "go"
  refine hc.run d σ _ ?_
  walk_at "go"
  refine ⟨by lia, ?_⟩
  walk_at "go"
  refine (lit_.up hN).run d σ _ ?_
  walk_at "go"
  refine ⟨by lia, ?_⟩
  walk_at "go"
  rw [hb]
  walk_at "go"
  exact h.run d σ _ kk
theorem chosen_other {c o bd v : T} {k j : Int} (hN : 1 ≤ N) (he : env.length < 900) (hc : Ev N c env (.int j)) (hb : (k == j) = false) (h : Ev N o (pt env 89 (.tup [cLit j, .dct []])) v) :
    Gives (N + 1) (.glob 25) [cCase c 89 [cAlt (.tup [.sym 90, .sym 85, .int k]) [] bd] o, .dct env] v := Gives.mk fun d σ K kk => by
  rw [callG]
  walk_at "go"
  refine hc.run d σ _ ?_
  walk_at "go"
  refine ⟨by lia, ?_⟩
  walk_at "go"
  refine (lit_.up hN).run d σ _ ?_
  walk_at "go"
  refine ⟨by lia, ?_⟩
  walk_at "go"
  rw [hb]
  walk_at "go"
  exact h.run d σ _ kk
theorem chosen_con {c o bd v f f' : T} {n m : Nat} (he : env.length < 900) (hc : Ev N c env (.tup [.sym 94, .sym 88, .lst [f, f']])) (h : Ev N bd (pt (pt env n f) m f') v) :
    Gives (N + 1) (.glob 25) [cCase c 89 [cAlt (.tup [.sym 94, .sym 88]) [.sym n, .sym m] bd] o, .dct env] v := Gives.mk fun d σ K kk => by
  rw [callG]
  walk_at "go"
  refine hc.run d σ _ ?_
  walk_at "go"
  refine ⟨by lia, ?_⟩
  walk_at "go"
  refine ⟨by lia, ?_⟩
  walk_at "go"
  refine ⟨by have := pt_len env n f; lia, ?_⟩
  walk_at "go"
  exact h.run d σ _ kk
end
end
inductive Tld where
  | sum (ns : List Nat) (k : Int)
  | nums (l : List Int)
inductive Rw where
  | letR (x : Nat) (n : Int)
  | say (u : Tld)
  | pair (x : Nat) (b : Bool) (l : List (Int × Int))
  | var (x : Nat) (u : Tld)
  | lit (u : Tld)
  | any (u : Tld)
noncomputable def Tld.core : Tld → T
  | .sum ns k => lC [ns.foldl (fun f n => cPrim [cVar n, f]) (cLit k)]
  | .nums l => lC (l.map cLit)
noncomputable def prC (l : List (Int × Int)) : T := lC (l.map fun p => cCon 88 [cLit p.1, cLit p.2])
noncomputable def itm (k : Nat) : Nat := 150 + 2 * k
noncomputable abbrev litAlt (b : T) : T := cAlt (.tup [.sym 90, .sym 85, .int 1]) [] b
noncomputable abbrev failC (tx : T) : T := fl (cVar 101) tx
noncomputable def core (tx : T) : List Rw → Nat → Tld → T
  | [], _, t => t.core
  | .letR x n :: rs, k, t => cLet1 x (cLit n) (core tx rs k t)
  | .say u :: rs, k, t => thn (cVar 101) u.core (core tx rs k t)
  | .pair x false l :: rs, k, t => bnd (cVar 101) (prC l) (cLam (itm k) (cCase (cVar (itm k)) 89 [cAlt (.tup [.sym 94, .sym 88]) [.sym x, .sym 93] (core tx rs (k + 1) t)] (cVar 116)))
  | .pair x true l :: rs, k, t => bnd (cVar 101) (prC l) (cLam (itm k) (cCase (cVar (itm k)) 89 [cAlt (.tup [.sym 94, .sym 88]) [.sym x, .sym 93] (cCase (cVar 93) 89 [litAlt (core tx rs (k + 1) t)] (failC tx))] (failC tx)))
  | .var x u :: rs, k, t => bnd (cVar 101) u.core (cLam (itm k) (cLet1 x (cVar (itm k)) (core tx rs (k + 1) t)))
  | .lit u :: rs, k, t => bnd (cVar 101) u.core (cLam (itm k) (cCase (cVar (itm k)) 89 [litAlt (core tx rs (k + 1) t)] (failC tx)))
  | .any u :: rs, k, t => bnd (cVar 101) u.core (cLam (itm k) (core tx rs (k + 1) t))
abbrev Kn := List (Nat × Int)
noncomputable def vl (kn : Kn) (n : Nat) : Int := (lk kn n).getD 0
noncomputable def Tld.plain (kn : Kn) : Tld → List Int
  | .sum ns k => [(ns.map (vl kn)).sum + k]
  | .nums l => l
noncomputable def bnds : List Rw → Tld → Kn → List Int
  | [], t, kn => t.plain kn
  | .letR x n :: rs, t, kn => bnds rs t (pt kn x n)
  | .say u :: rs, t, kn => (u.plain kn).flatMap fun _ => bnds rs t kn
  | .pair x b l :: rs, t, kn => l.flatMap fun p => if (b && !(1 == p.2)) = true then [] else bnds rs t (pt kn x p.1)
  | .var x u :: rs, t, kn => (u.plain kn).flatMap fun i => bnds rs t (pt kn x i)
  | .lit u :: rs, t, kn => (u.plain kn).flatMap fun i => if (1 == i) = true then bnds rs t kn else []
  | .any u :: rs, t, kn => (u.plain kn).flatMap fun _ => bnds rs t kn
noncomputable def isX (x : Nat) : Prop := x % 2 = 1 ∧ 149 ≤ x
noncomputable def WfT (dom : List Nat) : Tld → Prop
  | .sum ns _ => ns.length ≤ 3 ∧ ∀ n ∈ ns, n ∈ dom
  | .nums l => l.length ≤ 2
noncomputable def Wf : List Rw → List Nat → Tld → Prop
  | [], dom, t => WfT dom t
  | .letR x _ :: rs, dom, t => isX x ∧ Wf rs (dom ++ [x]) t
  | .say u :: rs, dom, t => WfT dom u ∧ Wf rs dom t
  | .pair x _ l :: rs, dom, t => isX x ∧ l.length ≤ 2 ∧ Wf rs (dom ++ [x]) t
  | .var x u :: rs, dom, t => isX x ∧ WfT dom u ∧ Wf rs (dom ++ [x]) t
  | .lit u :: rs, dom, t => WfT dom u ∧ Wf rs dom t
  | .any u :: rs, dom, t => WfT dom u ∧ Wf rs dom t
inductive All2 {α β : Type} (R : α → β → Prop) : List α → List β → Prop
  | nil : All2 R [] []
  | cons {a : α} {b : β} {l : List α} {r : List β} : R a b → All2 R l r → All2 R (a :: l) (b :: r)
theorem All2.length {α β : Type} {R : α → β → Prop} {l : List α} {r : List β} (h : All2 R l r) : l.length = r.length := by
  induction h with
  | nil => rfl
  | cons _ _ ih => rw [List.length_cons, List.length_cons, ih]
theorem All2.mono {α β : Type} {R S : α → β → Prop} {l : List α} {r : List β} (h : All2 R l r) (hs : ∀ a b, R a b → S a b) : All2 S l r := by
  induction h with
  | nil => exact .nil
  | cons a _ ih => exact .cons (hs _ _ a) ih
theorem All2.append {α β : Type} {R : α → β → Prop} {l l' : List α} {r r' : List β} (h : All2 R l r) (h' : All2 R l' r') : All2 R (l ++ l') (r ++ r') := by
  induction h with
  | nil => exact h'
  | cons a _ ih => exact .cons a ih
theorem plain_len {kn : Kn} {dom : List Nat} : ∀ {u : Tld}, WfT dom u → (u.plain kn).length ≤ 2
  | .sum _ _, _ => Nat.le_succ _
  | .nums _, h => h
theorem flat_len {α β : Type} {f : α → List β} {m : Nat} : ∀ (l : List α), l.length ≤ 2 → (∀ a, (f a).length ≤ m) → (l.flatMap f).length ≤ 2 * m
  | [], _, _ => Nat.zero_le _
  | [a], _, h => by have := h a; simp; lia
  | [a, b], _, h => by have h1 := h a; have h2 := h b; simp; lia
  | _ :: _ :: _ :: _, h, _ => by simp at h
theorem bnds_len : ∀ (rs : List Rw) {dom : List Nat} {t : Tld} {kn : Kn}, Wf rs dom t → (bnds rs t kn).length ≤ 2 ^ (rs.length + 1)
  | [], dom, t, kn, h => plain_len (u := t) h
  | .letR x n :: rs, dom, t, kn, h => by
    have := bnds_len rs (kn := pt kn x n) h.2
    show (bnds rs t (pt kn x n)).length ≤ _
    rw [List.length_cons, Nat.pow_succ]; lia
  | .say u :: rs, dom, t, kn, h => by
    have := flat_len (f := fun _ => bnds rs t kn) (u.plain kn) (plain_len h.1) fun _ => bnds_len rs h.2
    rw [List.length_cons, Nat.pow_succ, Nat.mul_comm]; exact this
  | .pair x b l :: rs, dom, t, kn, h => by
    have := flat_len (m := 2 ^ (rs.length + 1)) (f := fun p : Int × Int => if (b && !(1 == p.2)) = true then [] else bnds rs t (pt kn x p.1)) l h.2.1 fun p => by
      split
      · exact Nat.zero_le _
      · exact bnds_len rs h.2.2
    rw [List.length_cons, Nat.pow_succ, Nat.mul_comm]; exact this
  | .var x u :: rs, dom, t, kn, h => by
    have := flat_len (f := fun i => bnds rs t (pt kn x i)) (u.plain kn) (plain_len h.2.1) fun _ => bnds_len rs h.2.2
    rw [List.length_cons, Nat.pow_succ, Nat.mul_comm]; exact this
  | .lit u :: rs, dom, t, kn, h => by
    have := flat_len (m := 2 ^ (rs.length + 1)) (f := fun i : Int => if (1 == i) = true then bnds rs t kn else []) (u.plain kn) (plain_len h.1) fun p => by
      split
      · exact bnds_len rs h.2
      · exact Nat.zero_le _
    rw [List.length_cons, Nat.pow_succ, Nat.mul_comm]; exact this
  | .any u :: rs, dom, t, kn, h => by
    have := flat_len (f := fun _ => bnds rs t kn) (u.plain kn) (plain_len h.1) fun _ => bnds_len rs h.2
    rw [List.length_cons, Nat.pow_succ, Nat.mul_comm]; exact this
noncomputable def Cl (M : Nat) (c : T) (i : Int) : Prop := ∃ e b, c = .tup [e, .dct b] ∧ Ev M e b (.int i)
theorem Cl.up {M N : Nat} {c : T} {i : Int} (h : Cl M c i) (hl : M ≤ N) : Cl N c i := let ⟨e, b, q, r⟩ := h; ⟨e, b, q, r.up hl⟩
noncomputable def EnvOk (M : Nat) (env : List (Nat × T)) (kn : Kn) : Prop := ∀ x i, lk kn x = some i → ∃ c, lk env x = some c ∧ Cl M c i
section
variable {M N : Nat} {env : List (Nat × T)} {kn : Kn} {dom : List Nat}
theorem EnvOk.up (h : EnvOk M env kn) (hl : M ≤ N) : EnvOk N env kn := fun x i e => let ⟨c, a, b⟩ := h x i e; ⟨c, a, b.up hl⟩
theorem EnvOk.put {x : Nat} {i : Int} {c : T} (h : EnvOk M env kn) (hc : Cl M c i) : EnvOk M (pt env x c) (pt kn x i) := fun y j e => by
  rw [lk_pt] at e ⊢
  by_cases q : x = y
  · rw [if_pos q] at e ⊢; cases e; exact ⟨c, rfl, hc⟩
  · rw [if_neg q] at e ⊢; exact h y j e
theorem EnvOk.other {x : Nat} {c : T} (h : EnvOk M env kn) (hx : ∀ y i, lk kn y = some i → y ≠ x) : EnvOk M (pt env x c) kn := fun y j e => by
  rw [lk_pt, if_neg fun q => hx y j e q.symm]; exact h y j e
theorem fold_ev {ns : List Nat} (hn : ∀ n ∈ ns, ∃ i, lk kn n = some i) (h : EnvOk M env kn) : ∀ {f : T} {a : Int} {N : Nat}, M + 1 ≤ N → Ev N f env (.int a) → Ev (N + ns.length) (ns.foldl (fun f n => cPrim [cVar n, f]) f) env (.int ((ns.map (vl kn)).sum + a)) := by
  induction ns with
  | nil => intro f a N _ hf; simpa using hf
  | cons n ns ih =>
    intro f a N hN hf
    obtain ⟨i, hi⟩ := hn n (.head _)
    obtain ⟨c, hc, e, b, rfl, hev⟩ := h n i hi
    have h1 : Ev N (cVar n) env (.int i) := (ev_var hc hev).up hN
    have := ih (fun m hm => hn m (.tail _ hm)) (N := N + 1) (by lia) (ev_prim h1 hf)
    rw [List.foldl_cons, List.length_cons, List.map_cons, List.sum_cons]
    have e1 : N + (ns.length + 1) = N + 1 + ns.length := by lia
    have e2 : vl kn n = i := by unfold vl; rw [hi]; rfl
    rw [e1, e2]
    have e3 : i + (ns.map (vl kn)).sum + a = (ns.map (vl kn)).sum + (i + a) := by lia
    rw [e3]
    exact this
theorem told_tells {u : Tld} (hw : WfT dom u) (hd : ∀ n ∈ dom, ∃ i, lk kn n = some i) (h : EnvOk M env kn) : ∃ cs, cs.length ≤ 2 ∧ Tells 3 u.core env cs ∧ All2 (Cl (M + 8)) cs (u.plain kn) := by
  cases u with
  | sum ns k =>
    refine ⟨_, ?_, tells_lC (by simp), ?_⟩
    · simp
    · refine .cons ⟨_, _, rfl, ?_⟩ .nil
      exact (fold_ev (fun n hn => hd n (hw.2 n hn)) h (N := M + 1) (Nat.le_refl _) (ev_lit.up (by lia))).up (by have := hw.1; lia)
  | nums l =>
    have hl : l.length ≤ 2 := hw
    refine ⟨_, ?_, tells_lC (by simpa using hl), ?_⟩
    · simpa using hl
    · show All2 _ _ l
      clear hl hw
      induction l with
      | nil => exact .nil
      | cons i l ih => exact .cons ⟨_, _, rfl, ev_lit.up (by lia)⟩ ih
end
section
variable {M N : Nat} {env : List (Nat × T)} {kn : Kn} {dom : List Nat} {α : Type} {R : T → α → Prop}
theorem thn_tells {u b : T} {cs ds : List T} {is : List α} {js : List Int} (hN : 1 ≤ N) (hd : lk env 101 = none) (hu : Tells N u env cs) (hb : Tells N b env ds) (hr : All2 R cs is) (hl : is.length ≤ 2) (hds : ds.length < 1000) (hj : All2 (Cl M) ds js) :
    ∃ es, Tells (N + 2) (thn (cVar 101) u b) env es ∧ All2 (Cl M) es (is.flatMap fun _ => js) := by
  have w := (ev_way hd).up hN
  obtain ⟨va, a1, a2⟩ := hu
  obtain ⟨vb, b1, b2⟩ := hb
  cases hr with
  | nil => exact ⟨[], ⟨_, ev_app (called_thn0 w a1 a2), all_items.up (by lia)⟩, .nil⟩
  | cons _ r => cases r with
    | nil => exact ⟨ds, ⟨_, ev_app (called_thn1 w a1 a2 b1 b2 hds), all_items.up (by lia)⟩, by simpa using hj⟩
    | cons _ r => cases r with
      | nil => exact ⟨ds ++ ds, ⟨_, ev_app (called_thn2 w a1 a2 b1 b2 hds), all_items.up (by lia)⟩, by simpa using hj.append hj⟩
      | cons _ _ => simp at hl
theorem bnd_tells {u m : T} {k : Nat} {cs : List T} {is : List α} {g : α → List Int} (hN : 1 ≤ N) (hd : lk env 101 = none) (he : env.length < 900) (hu : Tells N u env cs) (hr : All2 R cs is) (hl : is.length ≤ 2)
    (hb : ∀ c i, R c i → ∃ ds, Tells N m (pt env k c) ds ∧ ds.length < 1000 ∧ All2 (Cl M) ds (g i)) :
    ∃ es, Tells (N + 2) (bnd (cVar 101) u (cLam k m)) env es ∧ All2 (Cl M) es (is.flatMap g) := by
  have w := (ev_way hd).up hN
  have lam : Ev N (cLam k m) env _ := ev_lam.up hN
  obtain ⟨va, a1, a2⟩ := hu
  cases hr with
  | nil => exact ⟨[], ⟨_, ev_app (called_bnd0 w a1 a2), all_items.up (by lia)⟩, .nil⟩
  | cons h1 r =>
    obtain ⟨ds, ⟨vx, x1, x2⟩, x3, x4⟩ := hb _ _ h1
    cases r with
    | nil => exact ⟨ds, ⟨_, ev_app (called_bnd1 hN he w a1 a2 lam x1 x2 x3), all_items.up (by lia)⟩, by simpa using x4⟩
    | cons h2 r =>
      obtain ⟨es, ⟨vy, y1, y2⟩, y3, y4⟩ := hb _ _ h2
      cases r with
      | nil => exact ⟨ds ++ es, ⟨_, ev_app (called_bnd2 hN he w a1 a2 lam x1 x2 x3 y1 y2 y3), all_items.up (by lia)⟩, by simpa using x4.append y4⟩
      | cons _ _ => simp at hl
theorem tells_fail {tx : T} (hd : lk env 101 = none) (hN : 3 ≤ N) : Tells N (failC tx) env [] := ⟨_, (ev_app (called_fail (ev_way hd))).up hN, all_items.up (by lia)⟩
theorem tells_let {x : Nat} {e b : T} {ds : List T} (he : env.length < 900) (h : Tells N b (pt env x (.tup [e, .dct env])) ds) : Tells (N + 1) (cLet1 x e b) env ds :=
  let ⟨v, a, b⟩ := h; ⟨v, ev_let (by lia) a, b.up (by lia)⟩
theorem tells_lit {c o bd : T} {ds : List T} {j : Int} (hN : 1 ≤ N) (he : env.length < 900) (hc : Ev N c env (.int j)) (hb : (1 == j) = true) (h : Tells N bd (pt env 89 (.tup [cLit j, .dct []])) ds) : Tells (N + 2) (cCase c 89 [litAlt bd] o) env ds :=
  let ⟨v, a, b⟩ := h; ⟨v, ev_case (chosen_lit hN he hc hb a), b.up (by lia)⟩
theorem tells_other {c o bd : T} {ds : List T} {j : Int} (hN : 1 ≤ N) (he : env.length < 900) (hc : Ev N c env (.int j)) (hb : (1 == j) = false) (h : Tells N o (pt env 89 (.tup [cLit j, .dct []])) ds) : Tells (N + 2) (cCase c 89 [litAlt bd] o) env ds :=
  let ⟨v, a, b⟩ := h; ⟨v, ev_case (chosen_other hN he hc hb a), b.up (by lia)⟩
theorem tells_con {c o bd f f' : T} {n m : Nat} {ds : List T} (he : env.length < 900) (hc : Ev N c env (.tup [.sym 94, .sym 88, .lst [f, f']])) (h : Tells N bd (pt (pt env n f) m f') ds) : Tells (N + 2) (cCase c 89 [cAlt (.tup [.sym 94, .sym 88]) [.sym n, .sym m] bd] o) env ds :=
  let ⟨v, a, b⟩ := h; ⟨v, ev_case (chosen_con he hc a), b.up (by lia)⟩
theorem pt_none {x y : Nat} {c : T} (h : lk env y = none) (hx : x ≠ y) : lk (pt env x c) y = none := by rw [lk_pt, if_neg hx]; exact h
theorem pt_self {x : Nat} {c : T} : lk (pt env x c) x = some c := by rw [lk_pt, if_pos rfl]
noncomputable def KX (kn : Kn) : Prop := ∀ x i, lk kn x = some i → isX x
theorem KX.put {x : Nat} {i : Int} (h : KX kn) (hx : isX x) : KX (pt kn x i) := fun y j e => by
  rw [lk_pt] at e
  by_cases q : x = y
  · exact q ▸ hx
  · rw [if_neg q] at e; exact h y j e
theorem dom_put {x : Nat} {i : Int} (h : ∀ n ∈ dom, ∃ i, lk kn n = some i) : ∀ n ∈ dom ++ [x], ∃ j, lk (pt kn x i) n = some j := fun n hn => by
  rw [lk_pt]
  by_cases q : x = n
  · exact ⟨i, if_pos q⟩
  · rw [if_neg q]
    rcases List.mem_append.mp hn with hn | hn
    · exact h n hn
    · exact absurd (List.mem_singleton.mp hn).symm q
theorem isX.ne {x : Nat} (h : isX x) {y : Nat} (hy : y < 149 ∨ y % 2 = 0) : x ≠ y := fun e => hy.elim (fun q => absurd h.2 (Nat.not_le.mpr (e ▸ q))) fun q => by
  have z := h.1
  rw [e, q] at z; cases z
theorem core_tells (tx : T) : ∀ (rs : List Rw) (dom : List Nat) (t : Tld) (k : Nat) (env : List (Nat × T)) (kn : Kn) (M : Nat), Wf rs dom t → (∀ n ∈ dom, ∃ i, lk kn n = some i) → EnvOk M env kn → KX kn → lk env 101 = none → env.length + 4 * rs.length ≤ 800 → rs.length ≤ 8 →
    ∃ cs, Tells (M + 20 * (rs.length + 1)) (core tx rs k t) env cs ∧ All2 (Cl (M + 20 * (rs.length + 1))) cs (bnds rs t kn)
  | [], dom, t, k, env, kn, M, hw, hd, he, hk, hn, hl, h8 => by
    obtain ⟨cs, _, h2, h3⟩ := told_tells (u := t) hw hd he
    exact ⟨cs, h2.up (by lia), h3.mono fun _ _ c => c.up (by simp)⟩
  | .letR x n :: rs, dom, t, k, env, kn, M, hw, hd, he, hk, hn, hl, h8 => by
    simp only [List.length_cons] at hl h8 ⊢
    have hp := pt_len env x (.tup [cLit n, .dct env])
    obtain ⟨cs, h1, h2⟩ := core_tells tx rs (dom ++ [x]) t k (pt env x (.tup [cLit n, .dct env])) (pt kn x n) (M + 1) hw.2 (dom_put hd) ((he.up (Nat.le_succ M)).put ⟨_, _, rfl, ev_lit.up (by lia)⟩) (hk.put hw.1) (pt_none hn (hw.1.ne (by lia))) (by lia) (by lia)
    exact ⟨cs, (tells_let (by lia) h1).up (by lia), h2.mono fun _ _ c => c.up (by lia)⟩
  | .say u :: rs, dom, t, k, env, kn, M, hw, hd, he, hk, hn, hl, h8 => by
    simp only [List.length_cons] at hl h8 ⊢
    obtain ⟨cu, u1, u2, u3⟩ := told_tells (u := u) hw.1 hd he
    obtain ⟨cs, h1, h2⟩ := core_tells tx rs dom t k env kn M hw.2 hd he hk hn (by lia) (by lia)
    have hb := bnds_len rs (kn := kn) hw.2
    have h9 : 2 ^ (rs.length + 1) ≤ 2 ^ 9 := Nat.pow_le_pow_right (by decide) (by lia)
    obtain ⟨es, e1, e2⟩ := thn_tells (N := M + 20 * (rs.length + 1)) (M := M + 20 * (rs.length + 1)) (by lia) hn (u2.up (by lia)) h1 u3 (plain_len hw.1) (by rw [h2.length]; lia) h2
    exact ⟨es, e1.up (by lia), e2.mono fun _ _ c => c.up (by lia)⟩
  | .any u :: rs, dom, t, k, env, kn, M, hw, hd, he, hk, hn, hl, h8 => by
    simp only [List.length_cons] at hl h8 ⊢
    obtain ⟨cu, u1, u2, u3⟩ := told_tells (u := u) hw.1 hd he
    have hb := bnds_len rs (kn := kn) hw.2
    have h9 : 2 ^ (rs.length + 1) ≤ 2 ^ 9 := Nat.pow_le_pow_right (by decide) (by lia)
    obtain ⟨es, e1, e2⟩ := bnd_tells (N := M + 20 * (rs.length + 1)) (M := M + 20 * (rs.length + 1)) (k := itm k) (m := core tx rs (k + 1) t) (g := fun _ => bnds rs t kn) (by lia) hn (by lia) (u2.up (by lia)) u3 (plain_len hw.1) fun c i hc => by
      have hp := pt_len env (itm k) c
      obtain ⟨cs, h1, h2⟩ := core_tells tx rs dom t (k + 1) (pt env (itm k) c) kn M hw.2 hd (he.other fun y i e => (hk y i e).ne (by unfold itm; lia)) hk (pt_none hn (by unfold itm; lia)) (by lia) (by lia)
      exact ⟨cs, h1, by rw [h2.length]; lia, h2⟩
    exact ⟨es, e1.up (by lia), e2.mono fun _ _ c => c.up (by lia)⟩
  | .var x u :: rs, dom, t, k, env, kn, M, hw, hd, he, hk, hn, hl, h8 => by
    simp only [List.length_cons] at hl h8 ⊢
    obtain ⟨cu, u1, u2, u3⟩ := told_tells (u := u) hw.2.1 hd he
    have hb := fun kn => bnds_len rs (kn := kn) hw.2.2
    have h9 : 2 ^ (rs.length + 1) ≤ 2 ^ 9 := Nat.pow_le_pow_right (by decide) (by lia)
    obtain ⟨es, e1, e2⟩ := bnd_tells (N := M + 10 + 20 * (rs.length + 1)) (M := M + 10 + 20 * (rs.length + 1)) (k := itm k) (m := cLet1 x (cVar (itm k)) (core tx rs (k + 1) t)) (g := fun i => bnds rs t (pt kn x i)) (by lia) hn (by lia) (u2.up (by lia)) u3 (plain_len hw.2.1) fun c i hc => by
      have hp := pt_len env (itm k) c
      have hp2 := pt_len (pt env (itm k) c) x (.tup [cVar (itm k), .dct (pt env (itm k) c)])
      obtain ⟨e, b, rfl, hev⟩ := hc
      have he1 : EnvOk M (pt env (itm k) (.tup [e, .dct b])) kn := he.other fun y i e => (hk y i e).ne (by unfold itm; lia)
      obtain ⟨cs, h1, h2⟩ := core_tells tx rs (dom ++ [x]) t (k + 1) (pt (pt env (itm k) (.tup [e, .dct b])) x (.tup [cVar (itm k), .dct (pt env (itm k) (.tup [e, .dct b]))])) (pt kn x i) (M + 9) hw.2.2 (dom_put hd)
        ((he1.up (by lia)).put ⟨_, _, rfl, ev_var pt_self hev⟩) (hk.put hw.1) (pt_none (pt_none hn (by unfold itm; lia)) (hw.1.ne (by lia))) (by lia) (by lia)
      exact ⟨cs, (tells_let (by lia) h1).up (by lia), by rw [h2.length]; have := hb (pt kn x i); lia, h2.mono fun _ _ c => c.up (by lia)⟩
    exact ⟨es, e1.up (by lia), e2.mono fun _ _ c => c.up (by lia)⟩
  | .lit u :: rs, dom, t, k, env, kn, M, hw, hd, he, hk, hn, hl, h8 => by
    simp only [List.length_cons] at hl h8 ⊢
    obtain ⟨cu, u1, u2, u3⟩ := told_tells (u := u) hw.1 hd he
    have hb := bnds_len rs (kn := kn) hw.2
    have h9 : 2 ^ (rs.length + 1) ≤ 2 ^ 9 := Nat.pow_le_pow_right (by decide) (by lia)
    obtain ⟨es, e1, e2⟩ := bnd_tells (N := M + 10 + 20 * (rs.length + 1)) (M := M + 10 + 20 * (rs.length + 1)) (k := itm k) (m := cCase (cVar (itm k)) 89 [litAlt (core tx rs (k + 1) t)] (failC tx)) (g := fun i : Int => if (1 == i) = true then bnds rs t kn else []) (by lia) hn (by lia) (u2.up (by lia)) u3 (plain_len hw.1) fun c i hc => by
      have hp := pt_len env (itm k) c
      obtain ⟨e, b, rfl, hev⟩ := hc
      have hp2 := pt_len (pt env (itm k) (.tup [e, .dct b])) 89 (.tup [cLit i, .dct []])
      have he1 : EnvOk M (pt env (itm k) (.tup [e, .dct b])) kn := he.other fun y i e => (hk y i e).ne (by unfold itm; lia)
      have he2 : EnvOk M (pt (pt env (itm k) (.tup [e, .dct b])) 89 (.tup [cLit i, .dct []])) kn := he1.other fun y i e => (hk y i e).ne (by lia)
      have hn2 : lk (pt (pt env (itm k) (.tup [e, .dct b])) 89 (.tup [cLit i, .dct []])) 101 = none := pt_none (pt_none hn (by unfold itm; lia)) (by decide)
      have hv : Ev (M + 8 + 1) (cVar (itm k)) (pt env (itm k) (.tup [e, .dct b])) (.int i) := ev_var pt_self hev
      cases q : ((1 : Int) == i) with
      | true =>
        obtain ⟨cs, h1, h2⟩ := core_tells tx rs dom t (k + 1) _ kn M hw.2 hd he2 hk hn2 (by lia) (by lia)
        exact ⟨cs, (tells_lit (N := M + 8 + 20 * (rs.length + 1)) (by lia) (by lia) (hv.up (by lia)) q (h1.up (by lia))).up (by lia), by rw [h2.length]; lia, by rw [if_pos rfl]; exact h2.mono fun _ _ c => c.up (by lia)⟩
      | false =>
        exact ⟨[], (tells_other (N := M + 8 + 20 * (rs.length + 1)) (by lia) (by lia) (hv.up (by lia)) q (tells_fail hn2 (by lia))).up (by lia), by decide, by rw [if_neg (fun z => nomatch z)]; exact .nil⟩
    exact ⟨es, e1.up (by lia), e2.mono fun _ _ c => c.up (by lia)⟩
  | .pair x bb l :: rs, dom, t, k, env, kn, M, hw, hd, he, hk, hn, hl, h8 => by
    simp only [List.length_cons] at hl h8 ⊢
    have hb := fun kn => bnds_len rs (kn := kn) hw.2.2
    have h9 : 2 ^ (rs.length + 1) ≤ 2 ^ 9 := Nat.pow_le_pow_right (by decide) (by lia)
    have hu : Tells 3 (prC l) env (l.map fun p => .tup [cCon 88 [cLit p.1, cLit p.2], .dct env]) := by
      have := tells_lC (env := env) (l := l.map fun p => cCon 88 [cLit p.1, cLit p.2]) (by simpa using hw.2.1)
      rw [List.map_map] at this; exact this
    have hr : All2 (fun (c : T) (p : Int × Int) => c = .tup [cCon 88 [cLit p.1, cLit p.2], .dct env]) (l.map fun p => .tup [cCon 88 [cLit p.1, cLit p.2], .dct env]) l := by
      clear hu hw
      induction l with
      | nil => exact .nil
      | cons p l ih => exact .cons rfl ih
    obtain ⟨es, e1, e2⟩ := bnd_tells (N := M + 10 + 20 * (rs.length + 1)) (M := M + 10 + 20 * (rs.length + 1)) (k := itm k) (m := match bb with
        | false => cCase (cVar (itm k)) 89 [cAlt (.tup [.sym 94, .sym 88]) [.sym x, .sym 93] (core tx rs (k + 1) t)] (cVar 116)
        | true => cCase (cVar (itm k)) 89 [cAlt (.tup [.sym 94, .sym 88]) [.sym x, .sym 93] (cCase (cVar 93) 89 [litAlt (core tx rs (k + 1) t)] (failC tx))] (failC tx))
        (g := fun p : Int × Int => if (bb && !(1 == p.2)) = true then [] else bnds rs t (pt kn x p.1)) (by lia) hn (by lia) (hu.up (by lia)) hr hw.2.1 fun c p hc => by
      subst hc
      obtain ⟨a, b⟩ := p
      have hp := pt_len env (itm k) (.tup [cCon 88 [cLit a, cLit b], .dct env])
      generalize hE1 : pt env (itm k) (.tup [cCon 88 [cLit a, cLit b], .dct env]) = E1
      rw [hE1] at hp
      have hv : Ev 2 (cVar (itm k)) E1 (.tup [.sym 94, .sym 88, .lst [.tup [cLit a, .dct env], .tup [cLit b, .dct env]]]) := ev_var (by rw [← hE1]; exact pt_self) ev_con
      have he1 : EnvOk M E1 kn := by rw [← hE1]; exact he.other fun y i e => (hk y i e).ne (by unfold itm; lia)
      have hn1 : lk E1 101 = none := by rw [← hE1]; exact pt_none hn (by unfold itm; lia)
      have hp2 := pt_len E1 x (.tup [cLit a, .dct env])
      have hp3 := pt_len (pt E1 x (.tup [cLit a, .dct env])) 93 (.tup [cLit b, .dct env])
      generalize hE2 : pt (pt E1 x (.tup [cLit a, .dct env])) 93 (.tup [cLit b, .dct env]) = E2
      rw [hE2] at hp3
      have hkx := hk.put (i := a) hw.1
      have he2 : EnvOk (M + 1) E2 (pt kn x a) := by rw [← hE2]; exact ((he1.up (Nat.le_succ M)).put ⟨_, _, rfl, ev_lit.up (by lia)⟩).other fun y i e => (hkx y i e).ne (by lia)
      have hn2 : lk E2 101 = none := by rw [← hE2]; exact pt_none (pt_none hn1 (hw.1.ne (by lia))) (by decide)
      have hbb := hb (pt kn x a)
      cases bb with
      | false =>
        obtain ⟨cs, h1, h2⟩ := core_tells tx rs (dom ++ [x]) t (k + 1) E2 (pt kn x a) (M + 1) hw.2.2 (dom_put hd) he2 hkx hn2 (by lia) (by lia)
        refine ⟨cs, (tells_con (N := M + 8 + 20 * (rs.length + 1)) (by lia) (hv.up (by lia)) (by rw [hE2]; exact h1.up (by lia))).up (by lia), by rw [h2.length]; lia, ?_⟩
        exact h2.mono fun _ _ c => c.up (by lia)
      | true =>
        have hq : Ev 2 (cVar 93) E2 (.int b) := ev_var (by rw [← hE2]; exact pt_self) ev_lit
        have hp4 := pt_len E2 89 (.tup [cLit b, .dct []])
        have he3 : EnvOk (M + 1) (pt E2 89 (.tup [cLit b, .dct []])) (pt kn x a) := he2.other fun y i e => (hkx y i e).ne (by lia)
        have hn3 : lk (pt E2 89 (.tup [cLit b, .dct []])) 101 = none := pt_none hn2 (by decide)
        dsimp only
        cases q : ((1 : Int) == b) with
        | true =>
          obtain ⟨cs, h1, h2⟩ := core_tells tx rs (dom ++ [x]) t (k + 1) (pt E2 89 (.tup [cLit b, .dct []])) (pt kn x a) (M + 1) hw.2.2 (dom_put hd) he3 hkx hn3 (by lia) (by lia)
          refine ⟨cs, (tells_con (N := M + 8 + 20 * (rs.length + 1)) (by lia) (hv.up (by lia)) (by rw [hE2]; exact (tells_lit (N := M + 6 + 20 * (rs.length + 1)) (by lia) (by lia) (hq.up (by lia)) q (h1.up (by lia))).up (by lia))).up (by lia), by rw [h2.length]; lia, ?_⟩
          exact h2.mono fun _ _ c => c.up (by lia)
        | false =>
          refine ⟨[], (tells_con (N := M + 8 + 20 * (rs.length + 1)) (by lia) (hv.up (by lia)) (by rw [hE2]; exact (tells_other (N := M + 6 + 20 * (rs.length + 1)) (by lia) (by lia) (hq.up (by lia)) q (tells_fail hn3 (by lia))).up (by lia))).up (by lia), by decide, ?_⟩
          exact .nil
    refine ⟨es, ?_, e2.mono fun _ _ c => c.up (by lia)⟩
    cases bb with
    | false => exact e1.up (by lia)
    | true => exact e1.up (by lia)
end
structure GivesR (P : Sg → Prop) (N : Nat) (f : T) (args : List T) (v : T) : Prop where
  run : ∀ (d : Nat) (σ : Sg) (K : T → Sg → Prop), P σ → K v σ → CALL (d + N) f args σ K
theorem GivesR.up {P : Sg → Prop} {N M : Nat} {f : T} {args : List T} {v : T} (h : GivesR P N f args v) (hl : N ≤ M) : GivesR P M f args v := GivesR.mk fun d σ K p k => by
  have := h.run (d + (M - N)) σ K p k
  have e : d + (M - N) + N = d + M := up_eq hl
  rw [e] at this; exact this
noncomputable def knL (kn : Kn) : List (Nat × T) := kn.map fun p => (p.1, .int p.2)
theorem knL_len {kn : Kn} : (knL kn).length = kn.length := List.length_map _
theorem lk_knL : ∀ {kn : Kn} {x : Nat} {i : Int}, lk kn x = some i → lk (knL kn) x = some (.int i)
  | (j, v) :: r, x, i, h => by
    have h : (match Nat.beq j x with | true => some v | false => lk r x) = some i := h
    show (match Nat.beq j x with | true => some (T.int v) | false => lk (knL r) x) = _
    cases q : Nat.beq j x with
    | true => rw [q] at h; cases h; rfl
    | false => rw [q] at h; exact lk_knL h
theorem pt_knL : ∀ {kn : Kn} {x : Nat} {i : Int}, pt (knL kn) x (.int i) = knL (pt kn x i)
  | [], _, _ => rfl
  | (j, v) :: r, x, i => by
    show (match Nat.beq j x with | true => (j, T.int i) :: knL r | false => (j, T.int v) :: pt (knL r) x (.int i)) = knL (match Nat.beq j x with | true => (j, i) :: r | false => (j, v) :: pt r x i)
    cases Nat.beq j x with
    | true => rfl
    | false => rw [pt_knL]; rfl
noncomputable def Tld.t : Tld → T
  | .sum ns k => .tup [.sym 86, .lst (ns.map .sym), .int k]
  | .nums l => .tup [.sym 8, .lst (l.map .int)]
noncomputable abbrev prT (p : Int × Int) : T := .tup [.int p.1, .int p.2]
noncomputable def prL (l : List (Int × Int)) : T := .tup [.sym 8, .lst (l.map prT)]
noncomputable def Rw.t : Rw → T
  | .letR x n => .tup [.sym 110, .sym x, .int n]
  | .say u => .tup [.sym 111, u.t]
  | .pair x false l => .tup [.sym 112, .tup [.sym 46, .sym x, .none], prL l]
  | .pair x true l => .tup [.sym 112, .tup [.sym 46, .sym x, .int 1], prL l]
  | .var x u => .tup [.sym 112, .tup [.sym 113, .sym x], u.t]
  | .lit u => .tup [.sym 112, .tup [.sym 90, .int 1], u.t]
  | .any u => .tup [.sym 112, .tup [.sym 114], u.t]
section
variable {N : Nat} {kn : Kn} {dom : List Nat}
theorem plain_items {l : List T} (h : l.length < 1000000) : Gives 1 (.glob 31) [.tup [.sym 8, .lst l], .dct (knL kn)] (.lst l) := Gives.mk fun d σ K k => by
  rw [callP_glob]
  walk_at "go"
  refine ⟨h, ?_⟩
  walk_at "go"
  exact k
theorem plain_sum0 {k : Int} : Gives 1 (.glob 31) [.tup [.sym 86, .lst [], .int k], .dct (knL kn)] (.lst [.int (0 + k)]) := Gives.mk fun d σ K k => by
  rw [callP_glob]
  walk_at "go"
  exact k
theorem plain_sum1 {k i : Int} {a : Nat} (ha : lk (knL kn) a = some (.int i)) : Gives 1 (.glob 31) [.tup [.sym 86, .lst [.sym a], .int k], .dct (knL kn)] (.lst [.int ((i + 0) + k)]) := Gives.mk fun d σ K k => by
  rw [callP_glob]
  walk_at "go"
  rw [ha]
  walk_at "go"
  exact k
theorem plain_sum2 {k i j : Int} {a b : Nat} (ha : lk (knL kn) a = some (.int i)) (hb : lk (knL kn) b = some (.int j)) : Gives 1 (.glob 31) [.tup [.sym 86, .lst [.sym a, .sym b], .int k], .dct (knL kn)] (.lst [.int ((i + (j + 0)) + k)]) := Gives.mk fun d σ K k => by
  rw [callP_glob]
  walk_at "go"
  rw [ha]
  walk_at "go"
  rw [hb]
  walk_at "go"
  exact k
theorem plain_sum3 {k i j l : Int} {a b c : Nat} (ha : lk (knL kn) a = some (.int i)) (hb : lk (knL kn) b = some (.int j)) (hc : lk (knL kn) c = some (.int l)) : Gives 1 (.glob 31) [.tup [.sym 86, .lst [.sym a, .sym b, .sym c], .int k], .dct (knL kn)] (.lst [.int ((i + (j + (l + 0))) + k)]) := Gives.mk fun d σ K k => by
  rw [callP_glob]
  walk_at "go"
  rw [ha]
  walk_at "go"
  rw [hb]
  walk_at "go"
  rw [hc]
  walk_at "go"
  exact k
theorem vl_of {n : Nat} {i : Int} (h : lk kn n = some i) : vl kn n = i := by unfold vl; rw [h]; rfl
theorem plain_gives {u : Tld} (hw : WfT dom u) (hd : ∀ n ∈ dom, ∃ i, lk kn n = some i) : Gives 1 (.glob 31) [u.t, .dct (knL kn)] (.lst ((u.plain kn).map .int)) := by
  cases u with
  | sum ns k =>
    obtain ⟨h1, h2⟩ := hw
    have hh : ∀ n ∈ ns, lk (knL kn) n = some (.int (vl kn n)) := fun n hn => by
      obtain ⟨i, hi⟩ := hd n (h2 n hn)
      rw [vl_of hi]; exact lk_knL hi
    match ns, h1, hh with
    | [], _, _ => exact plain_sum0
    | [a], _, hh => exact plain_sum1 (hh a (by simp))
    | [a, b], _, hh => exact plain_sum2 (hh a (by simp)) (hh b (by simp))
    | [a, b, c], _, hh => exact plain_sum3 (hh a (by simp)) (hh b (by simp)) (hh c (by simp))
    | _ :: _ :: _ :: _ :: _, h1, _ => simp at h1
  | nums l =>
    have hl : l.length ≤ 2 := hw
    exact plain_items (by rw [List.length_map]; lia)
section
variable {v : T} {i c : Int} {x : Nat}
theorem take_any : Gives 1 (.glob 30) [.tup [.sym 114], v] (.dct []) := Gives.mk fun d σ K k => by
  rw [callP_glob]
  walk_at "go"
  exact k
theorem take_var : Gives 1 (.glob 30) [.tup [.sym 113, .sym x], v] (.dct [(x, v)]) := Gives.mk fun d σ K k => by
  rw [callP_glob]
  walk_at "go"
  exact k
theorem take_lit (h : (i == 1) = true) : Gives 1 (.glob 30) [.tup [.sym 90, .int 1], .int i] (.dct []) := Gives.mk fun d σ K k => by
  rw [callP_glob]
  walk_at "go"
  rw [h]
  walk_at "go"
  exact k
theorem take_litN (h : (i == 1) = false) : Gives 1 (.glob 30) [.tup [.sym 90, .int 1], .int i] .none := Gives.mk fun d σ K k => by
  rw [callP_glob]
  walk_at "go"
  rw [h]
  walk_at "go"
  exact k
theorem take_pair : Gives 1 (.glob 30) [.tup [.sym 46, .sym x, .none], prT (i, c)] (.dct [(x, .int i)]) := Gives.mk fun d σ K k => by
  rw [callP_glob]
  walk_at "go"
  exact k
theorem take_pairL (h : (1 == c) = true) : Gives 1 (.glob 30) [.tup [.sym 46, .sym x, .int 1], prT (i, c)] (.dct [(x, .int i)]) := Gives.mk fun d σ K k => by
  rw [callP_glob]
  walk_at "go"
  rw [h]
  walk_at "go"
  exact k
theorem take_pairN (h : (1 == c) = false) : Gives 1 (.glob 30) [.tup [.sym 46, .sym x, .int 1], prT (i, c)] .none := Gives.mk fun d σ K k => by
  rw [callP_glob]
  walk_at "go"
  rw [h]
  walk_at "go"
  exact k
end
end
abbrev HasL (r : Nat) (L : List T) : Sg → Prop := fun σ => σ[r]? = some (.lst L)
noncomputable def bindsB : List S := match g_law_binds with
  | .fn f => (match f.body with
    | [_, _, _, _, .forS _ _ _ b, _] => b
    | _ => [])
  | _ => []
noncomputable def bA (r : Nat) (a : Nat) (kn : Kn) (row : T) (acc : List T) : Rho := [(41, .t (.own r)), (60, .t (.int (Int.ofNat a))), (12, .t (.dct (knL kn))), (65, .t row), (24, .l acc)]
noncomputable def bB (r : Nat) (a : Nat) (kn : Kn) (row : T) (acc : List T) (x told : T) : Rho := [(41, .t (.own r)), (60, .t (.int (Int.ofNat a))), (12, .t (.dct (knL kn))), (65, .t row), (24, .l acc), (64, .t x), (13, .t told)]
section
variable {N r a : Nat} {L : List T} {kn kn' : Kn} {row x u p told told' : T} {acc ds : List T} {d : Nat} {σ : Sg} {K : Fl → Rho → Sg → Prop} {more : List (Nat × T)}
theorem bsay_A (hP : HasL r L σ) (hN : 1 ≤ N) (hk : kn.length < 900) (h : GivesR (HasL r L) N (.glob 32) [.own r, .int (Int.ofNat (a + 1)), .dct (knL kn)] (.lst ds)) (hl : acc.length + ds.length < 1000000)
    (k : K .next (bB r a kn (.tup [.sym 111, u]) (acc ++ ds) x (.dct [])) σ) : bodyF (d + N) bindsB x (bA r a kn (.tup [.sym 111, u]) acc) σ K := by
  walk_at "go"
  refine ((with0 (env := knL kn) (by rw [knL_len]; exact hk)).up hN).run d σ _ ?_
  walk_at "go"
  refine h.run d σ _ hP ?_
  walk_at "go"
  refine ⟨hl, ?_⟩
  walk_at "go"
  exact k
theorem bdraw_A (hP : HasL r L σ) (ht : Gives N (.glob 30) [p, x] (.dct more)) (hw : Gives N (.glob 20) [.dct (knL kn), .dct more] (.dct (knL kn'))) (h : GivesR (HasL r L) N (.glob 32) [.own r, .int (Int.ofNat (a + 1)), .dct (knL kn')] (.lst ds)) (hl : acc.length + ds.length < 1000000)
    (k : K .next (bB r a kn (.tup [.sym 112, p, u]) (acc ++ ds) x (.dct more)) σ) : bodyF (d + N) bindsB x (bA r a kn (.tup [.sym 112, p, u]) acc) σ K := by
  walk_at "go"
  refine ht.run d σ _ ?_
  walk_at "go"
  refine hw.run d σ _ ?_
  walk_at "go"
  refine h.run d σ _ hP ?_
  walk_at "go"
  refine ⟨hl, ?_⟩
  walk_at "go"
  exact k
theorem bnone_A (ht : Gives N (.glob 30) [p, x] .none) (k : K .next (bB r a kn (.tup [.sym 112, p, u]) acc x .none) σ) : bodyF (d + N) bindsB x (bA r a kn (.tup [.sym 112, p, u]) acc) σ K := by
  walk_at "go"
  refine ht.run d σ _ ?_
  walk_at "go"
  exact k
theorem bsay_B {x0 : T} (hP : HasL r L σ) (hN : 1 ≤ N) (hk : kn.length < 900) (h : GivesR (HasL r L) N (.glob 32) [.own r, .int (Int.ofNat (a + 1)), .dct (knL kn)] (.lst ds)) (hl : acc.length + ds.length < 1000000)
    (k : K .next (bB r a kn (.tup [.sym 111, u]) (acc ++ ds) x (.dct [])) σ) : bodyF (d + N) bindsB x (bB r a kn (.tup [.sym 111, u]) acc x0 told') σ K := by
  walk_at "go"
  refine ((with0 (env := knL kn) (by rw [knL_len]; exact hk)).up hN).run d σ _ ?_
  walk_at "go"
  refine h.run d σ _ hP ?_
  walk_at "go"
  refine ⟨hl, ?_⟩
  walk_at "go"
  exact k
theorem bdraw_B {x0 : T} (hP : HasL r L σ) (ht : Gives N (.glob 30) [p, x] (.dct more)) (hw : Gives N (.glob 20) [.dct (knL kn), .dct more] (.dct (knL kn'))) (h : GivesR (HasL r L) N (.glob 32) [.own r, .int (Int.ofNat (a + 1)), .dct (knL kn')] (.lst ds)) (hl : acc.length + ds.length < 1000000)
    (k : K .next (bB r a kn (.tup [.sym 112, p, u]) (acc ++ ds) x (.dct more)) σ) : bodyF (d + N) bindsB x (bB r a kn (.tup [.sym 112, p, u]) acc x0 told') σ K := by
  walk_at "go"
  refine ht.run d σ _ ?_
  walk_at "go"
  refine hw.run d σ _ ?_
  walk_at "go"
  refine h.run d σ _ hP ?_
  walk_at "go"
  refine ⟨hl, ?_⟩
  walk_at "go"
  exact k
theorem bnone_B {x0 : T} (ht : Gives N (.glob 30) [p, x] .none) (k : K .next (bB r a kn (.tup [.sym 112, p, u]) acc x .none) σ) : bodyF (d + N) bindsB x (bB r a kn (.tup [.sym 112, p, u]) acc x0 told') σ K := by
  walk_at "go"
  refine ht.run d σ _ ?_
  walk_at "go"
  exact k
end
section
variable {N r : Nat} {L : List T} {kn kn' : Kn} {row u p : T} {ds es : List T}
theorem binds_let {a : Nat} {x : Nat} {n : Int} {v : T} (hr : L[a]? = some (.tup [.sym 110, .sym x, .int n])) (ha : a < 1000) (hN : 1 ≤ N) (hk : kn.length < 900) (h : GivesR (HasL r L) N (.glob 32) [.own r, .int (Int.ofNat (a + 1)), .dct (knL (pt kn x n))] v) :
    GivesR (HasL r L) (N + 1) (.glob 32) [.own r, .int (Int.ofNat a), .dct (knL kn)] v := GivesR.mk fun d σ K hP k => by
  rw [callG]
  walk_at "go"
  rw [hP]
  walk_at "go"
  rw [hr]
  conv => whnf
  refine ⟨by omega, ?_⟩
  walk_at "go"
  refine ((with1 (env := knL kn) (i := x) (x := .int n) (by rw [knL_len]; exact hk)).up hN).run d σ _ ?_
  walk_at "go"
  rw [pt_knL]
  exact h.run d σ _ hP k
theorem binds_last {a : Nat} {v : T} (hr : L[a]? = some (.tup [.sym 111, u])) (ha : a < 1000) (hL : L.length < 1000) (hq : (Int.ofNat a == (L.length : Int) - 1) = true) (h : Gives N (.glob 31) [u, .dct (knL kn)] v) :
    GivesR (HasL r L) (N + 1) (.glob 32) [.own r, .int (Int.ofNat a), .dct (knL kn)] v := GivesR.mk fun d σ K hP k => by
  rw [callG]
  walk_at "go"
  rw [hP]
  walk_at "go"
  rw [hr]
  conv => whnf
  refine ⟨by omega, ?_⟩
  walk_at "go"
  rw [hP]
  conv => whnf
  refine ⟨by omega, ?_⟩
  walk_at "go"
  rw [hq]
  walk_at "go"
  exact h.run d σ _ k
end
structure Step (r : Nat) (L : List T) (a : Nat) (kn : Kn) (row : T) (N : Nat) (x : T) (ds : List T) : Prop where
  A : ∀ (acc : List T) (d : Nat) (σ : Sg) (K : Fl → Rho → Sg → Prop), HasL r L σ → acc.length < 10000 → (∀ told, K .next (bB r a kn row (acc ++ ds) x told) σ) → bodyF (d + N) bindsB x (bA r a kn row acc) σ K
  B : ∀ (acc : List T) (x0 t0 : T) (d : Nat) (σ : Sg) (K : Fl → Rho → Sg → Prop), HasL r L σ → acc.length < 10000 → (∀ told, K .next (bB r a kn row (acc ++ ds) x told) σ) → bodyF (d + N) bindsB x (bB r a kn row acc x0 t0) σ K
section
variable {N r a : Nat} {L : List T} {kn kn' : Kn} {x y u p : T} {ds es : List T} {more : List (Nat × T)}
theorem step_say (hN : 1 ≤ N) (hk : kn.length < 900) (h : GivesR (HasL r L) N (.glob 32) [.own r, .int (Int.ofNat (a + 1)), .dct (knL kn)] (.lst ds)) (hl : ds.length < 10000) : Step r L a kn (.tup [.sym 111, u]) N x ds :=
  ⟨fun acc d σ K hP ha k => bsay_A hP hN hk h (by lia) (k _), fun acc x0 t0 d σ K hP ha k => bsay_B hP hN hk h (by lia) (k _)⟩
theorem step_draw (ht : Gives N (.glob 30) [p, x] (.dct more)) (hw : Gives N (.glob 20) [.dct (knL kn), .dct more] (.dct (knL kn'))) (h : GivesR (HasL r L) N (.glob 32) [.own r, .int (Int.ofNat (a + 1)), .dct (knL kn')] (.lst ds)) (hl : ds.length < 10000) : Step r L a kn (.tup [.sym 112, p, u]) N x ds :=
  ⟨fun acc d σ K hP ha k => bdraw_A hP ht hw h (by lia) (k _), fun acc x0 t0 d σ K hP ha k => bdraw_B hP ht hw h (by lia) (k _)⟩
theorem step_none (ht : Gives N (.glob 30) [p, x] .none) : Step r L a kn (.tup [.sym 112, p, u]) N x [] :=
  ⟨fun acc d σ K hP ha k => bnone_A ht (by have := k .none; rw [List.append_nil] at this; exact this), fun acc x0 t0 d σ K hP ha k => bnone_B ht (by have := k .none; rw [List.append_nil] at this; exact this)⟩
theorem binds_say0 (hr : L[a]? = some (.tup [.sym 111, u])) (ha : a < 1000) (hL : L.length < 1000) (hq : (Int.ofNat a == (L.length : Int) - 1) = false) (h : Gives N (.glob 31) [u, .dct (knL kn)] (.lst [])) :
    GivesR (HasL r L) (N + 1) (.glob 32) [.own r, .int (Int.ofNat a), .dct (knL kn)] (.lst []) := GivesR.mk fun d σ K hP k => by
  rw [callG]
  walk_at "go"
  rw [hP]
  walk_at "go"
  rw [hr]
  conv => whnf
  refine ⟨by lia, ?_⟩
  walk_at "go"
  rw [hP]
  conv => whnf
  refine ⟨by lia, ?_⟩
  walk_at "go"
  rw [hq]
  walk_at "go"
  refine h.run d σ _ ?_
  walk_at "go"
  exact k
theorem binds_say1 (hr : L[a]? = some (.tup [.sym 111, u])) (ha : a < 1000) (hL : L.length < 1000) (hq : (Int.ofNat a == (L.length : Int) - 1) = false) (h : Gives N (.glob 31) [u, .dct (knL kn)] (.lst [x])) (sx : Step r L a kn (.tup [.sym 111, u]) N x ds) :
    GivesR (HasL r L) (N + 1) (.glob 32) [.own r, .int (Int.ofNat a), .dct (knL kn)] (.lst ds) := GivesR.mk fun d σ K hP k => by
  rw [callG]
  walk_at "go"
  rw [hP]
  walk_at "go"
  rw [hr]
  conv => whnf
  refine ⟨by lia, ?_⟩
  walk_at "go"
  rw [hP]
  conv => whnf
  refine ⟨by lia, ?_⟩
  walk_at "go"
  rw [hq]
  walk_at "go"
  refine h.run d σ _ ?_
  dsimp only [itemsP]
  refine forL1 (F := bodyF (d + N) bindsB) (ρ := bA r a kn (.tup [.sym 111, u]) []) (sx.A [] d σ _ hP (by decide) fun told => ?_)
  walk_at "go"
  exact k
theorem binds_say2 (hr : L[a]? = some (.tup [.sym 111, u])) (ha : a < 1000) (hL : L.length < 1000) (hq : (Int.ofNat a == (L.length : Int) - 1) = false) (h : Gives N (.glob 31) [u, .dct (knL kn)] (.lst [x, y])) (sx : Step r L a kn (.tup [.sym 111, u]) N x ds) (sy : Step r L a kn (.tup [.sym 111, u]) N y es) (hl : ds.length < 10000) :
    GivesR (HasL r L) (N + 1) (.glob 32) [.own r, .int (Int.ofNat a), .dct (knL kn)] (.lst (ds ++ es)) := GivesR.mk fun d σ K hP k => by
  rw [callG]
  walk_at "go"
  rw [hP]
  walk_at "go"
  rw [hr]
  conv => whnf
  refine ⟨by lia, ?_⟩
  walk_at "go"
  rw [hP]
  conv => whnf
  refine ⟨by lia, ?_⟩
  walk_at "go"
  rw [hq]
  walk_at "go"
  refine h.run d σ _ ?_
  dsimp only [itemsP]
  refine forL2 (F := bodyF (d + N) bindsB) (ρ := bA r a kn (.tup [.sym 111, u]) []) (sx.A [] d σ _ hP (by decide) fun told => ?_)
  dsimp only
  refine forL1 (F := bodyF (d + N) bindsB) (sy.B _ _ _ d σ _ hP (by rw [List.nil_append]; exact hl) fun told => ?_)
  walk_at "go"
  exact k
theorem binds_draw0 (hr : L[a]? = some (.tup [.sym 112, p, u])) (ha : a < 1000) (hL : L.length < 1000) (hq : (Int.ofNat a == (L.length : Int) - 1) = false) (h : Gives N (.glob 31) [u, .dct (knL kn)] (.lst [])) :
    GivesR (HasL r L) (N + 1) (.glob 32) [.own r, .int (Int.ofNat a), .dct (knL kn)] (.lst []) := GivesR.mk fun d σ K hP k => by
  rw [callG]
  walk_at "go"
  rw [hP]
  walk_at "go"
  rw [hr]
  conv => whnf
  refine ⟨by lia, ?_⟩
  walk_at "go"
  rw [hP]
  conv => whnf
  refine ⟨by lia, ?_⟩
  walk_at "go"
  rw [hq]
  walk_at "go"
  refine h.run d σ _ ?_
  walk_at "go"
  exact k
theorem binds_draw1 (hr : L[a]? = some (.tup [.sym 112, p, u])) (ha : a < 1000) (hL : L.length < 1000) (hq : (Int.ofNat a == (L.length : Int) - 1) = false) (h : Gives N (.glob 31) [u, .dct (knL kn)] (.lst [x])) (sx : Step r L a kn (.tup [.sym 112, p, u]) N x ds) :
    GivesR (HasL r L) (N + 1) (.glob 32) [.own r, .int (Int.ofNat a), .dct (knL kn)] (.lst ds) := GivesR.mk fun d σ K hP k => by
  rw [callG]
  walk_at "go"
  rw [hP]
  walk_at "go"
  rw [hr]
  conv => whnf
  refine ⟨by lia, ?_⟩
  walk_at "go"
  rw [hP]
  conv => whnf
  refine ⟨by lia, ?_⟩
  walk_at "go"
  rw [hq]
  walk_at "go"
  refine h.run d σ _ ?_
  dsimp only [itemsP]
  refine forL1 (F := bodyF (d + N) bindsB) (ρ := bA r a kn (.tup [.sym 112, p, u]) []) (sx.A [] d σ _ hP (by decide) fun told => ?_)
  walk_at "go"
  exact k
theorem binds_draw2 (hr : L[a]? = some (.tup [.sym 112, p, u])) (ha : a < 1000) (hL : L.length < 1000) (hq : (Int.ofNat a == (L.length : Int) - 1) = false) (h : Gives N (.glob 31) [u, .dct (knL kn)] (.lst [x, y])) (sx : Step r L a kn (.tup [.sym 112, p, u]) N x ds) (sy : Step r L a kn (.tup [.sym 112, p, u]) N y es) (hl : ds.length < 10000) :
    GivesR (HasL r L) (N + 1) (.glob 32) [.own r, .int (Int.ofNat a), .dct (knL kn)] (.lst (ds ++ es)) := GivesR.mk fun d σ K hP k => by
  rw [callG]
  walk_at "go"
  rw [hP]
  walk_at "go"
  rw [hr]
  conv => whnf
  refine ⟨by lia, ?_⟩
  walk_at "go"
  rw [hP]
  conv => whnf
  refine ⟨by lia, ?_⟩
  walk_at "go"
  rw [hq]
  walk_at "go"
  refine h.run d σ _ ?_
  dsimp only [itemsP]
  refine forL2 (F := bodyF (d + N) bindsB) (ρ := bA r a kn (.tup [.sym 112, p, u]) []) (sx.A [] d σ _ hP (by decide) fun told => ?_)
  dsimp only
  refine forL1 (F := bodyF (d + N) bindsB) (sy.B _ _ _ d σ _ hP (by rw [List.nil_append]; exact hl) fun told => ?_)
  walk_at "go"
  exact k
end
section
variable {N r a : Nat} {L : List T} {kn kn' : Kn} {u p : T} {α : Type} {f : α → T} {g : α → List Int} {is : List α}
theorem loop_say (hr : L[a]? = some (.tup [.sym 111, u])) (ha : a < 1000) (hL : L.length < 1000) (hq : (Int.ofNat a == (L.length : Int) - 1) = false) (hi : is.length ≤ 2) (h : Gives N (.glob 31) [u, .dct (knL kn)] (.lst (is.map f))) (st : ∀ i, Step r L a kn (.tup [.sym 111, u]) N (f i) ((g i).map .int)) (gl : ∀ i, (g i).length < 10000) :
    GivesR (HasL r L) (N + 1) (.glob 32) [.own r, .int (Int.ofNat a), .dct (knL kn)] (.lst ((is.flatMap g).map .int)) := by
  match is, hi, h with
  | [], _, h => exact binds_say0 hr ha hL hq h
  | [i], _, h =>
    have := binds_say1 hr ha hL hq h (st i)
    rw [List.flatMap_cons, List.flatMap_nil, List.append_nil]; exact this
  | [i, j], _, h =>
    have := binds_say2 hr ha hL hq h (st i) (st j) (by rw [List.length_map]; exact gl i)
    rw [List.flatMap_cons, List.flatMap_cons, List.flatMap_nil, List.append_nil, List.map_append]; exact this
  | _ :: _ :: _ :: _, h, _ => simp at h
theorem loop_draw (hr : L[a]? = some (.tup [.sym 112, p, u])) (ha : a < 1000) (hL : L.length < 1000) (hq : (Int.ofNat a == (L.length : Int) - 1) = false) (hi : is.length ≤ 2) (h : Gives N (.glob 31) [u, .dct (knL kn)] (.lst (is.map f))) (st : ∀ i, Step r L a kn (.tup [.sym 112, p, u]) N (f i) ((g i).map .int)) (gl : ∀ i, (g i).length < 10000) :
    GivesR (HasL r L) (N + 1) (.glob 32) [.own r, .int (Int.ofNat a), .dct (knL kn)] (.lst ((is.flatMap g).map .int)) := by
  match is, hi, h with
  | [], _, h => exact binds_draw0 hr ha hL hq h
  | [i], _, h =>
    have := binds_draw1 hr ha hL hq h (st i)
    rw [List.flatMap_cons, List.flatMap_nil, List.append_nil]; exact this
  | [i, j], _, h =>
    have := binds_draw2 hr ha hL hq h (st i) (st j) (by rw [List.length_map]; exact gl i)
    rw [List.flatMap_cons, List.flatMap_cons, List.flatMap_nil, List.append_nil, List.map_append]; exact this
  | _ :: _ :: _ :: _, h, _ => simp at h
end
noncomputable def rowsT (rs : List Rw) (t : Tld) : List T := rs.map Rw.t ++ [.tup [.sym 111, t.t]]
theorem rowsT_len {rs : List Rw} {t : Tld} : (rowsT rs t).length = rs.length + 1 := by unfold rowsT; simp
section
variable {r : Nat} {L : List T}
theorem at_head {pre : List T} {x : T} {tl : List T} (h : L = pre ++ (x :: tl)) : L[pre.length]? = some x := by rw [h]; simp
theorem q_false {pre : List T} {x : T} {rs : List Rw} {t : Tld} (h : L = pre ++ (x :: rowsT rs t)) : (Int.ofNat pre.length == (L.length : Int) - 1) = false := by
  have := rowsT_len (rs := rs) (t := t)
  rw [h, beq_eq_false_iff_ne]
  intro e
  have e : (pre.length : Int) = _ := e
  rw [List.length_append, List.length_cons, this] at e
  lia
theorem q_true {pre : List T} {x : T} (h : L = pre ++ [x]) : (Int.ofNat pre.length == (L.length : Int) - 1) = true := by
  rw [h, beq_iff_eq]
  show (pre.length : Int) = _
  rw [List.length_append, List.length_singleton]
  lia
theorem one_comm (i : Int) : (i == 1) = ((1 : Int) == i) := by rw [Bool.eq_iff_iff, beq_iff_eq, beq_iff_eq]; exact ⟨Eq.symm, Eq.symm⟩
theorem binds_gives (hL : L.length < 1000) : ∀ (rs : List Rw) (pre : List T) (dom : List Nat) (t : Tld) (kn : Kn), L = pre ++ rowsT rs t → Wf rs dom t → (∀ n ∈ dom, ∃ i, lk kn n = some i) → kn.length + rs.length ≤ 800 → rs.length ≤ 8 →
    GivesR (HasL r L) (2 + rs.length) (.glob 32) [.own r, .int (Int.ofNat pre.length), .dct (knL kn)] (.lst ((bnds rs t kn).map .int)) := by
  intro rs
  induction rs with
  | nil =>
    intro pre dom t kn hl hw hd hk h8
    have hp : pre.length < 1000 := by rw [hl, List.length_append] at hL; lia
    exact (binds_last (at_head (tl := []) hl) hp hL (q_true hl) (plain_gives hw hd)).up (by lia)
  | cons row rs ih =>
    intro pre dom t kn hl hw hd hk h8
    have hl : L = pre ++ (row.t :: rowsT rs t) := hl
    have hp : pre.length < 1000 := by rw [hl, List.length_append] at hL; lia
    have hr := at_head hl
    have hq := q_false hl
    simp only [List.length_cons] at hk h8 ⊢
    have hl' : L = (pre ++ [row.t]) ++ rowsT rs t := by rw [hl, List.append_assoc]; rfl
    have hpl : (pre ++ [row.t]).length = pre.length + 1 := by simp
    have IH : ∀ (dom : List Nat) (kn : Kn), Wf rs dom t → (∀ n ∈ dom, ∃ i, lk kn n = some i) → kn.length + rs.length ≤ 800 → GivesR (HasL r L) (2 + rs.length) (.glob 32) [.own r, .int (Int.ofNat (pre.length + 1)), .dct (knL kn)] (.lst ((bnds rs t kn).map .int)) := fun dom kn a b c => by
      have := ih (pre ++ [row.t]) dom t kn hl' a b c (by lia)
      rw [hpl] at this; exact this
    have h9 : 2 ^ (rs.length + 1) ≤ 2 ^ 9 := Nat.pow_le_pow_right (by decide) (by lia)
    have len : ∀ {dom : List Nat} {kn : Kn}, Wf rs dom t → (bnds rs t kn).length < 10000 := fun {dom kn} h => by have := bnds_len rs (kn := kn) h; lia
    have e : 2 + (rs.length + 1) = 2 + rs.length + 1 := by lia
    rw [e]
    have ptl := fun x i => pt_len kn x (i : Int)
    cases row with
    | letR x n =>
      have := ptl x n
      exact binds_let hr hp (by lia) (by lia) (IH _ (pt kn x n) hw.2 (dom_put hd) (by lia))
    | say u =>
      exact loop_say (g := fun _ => bnds rs t kn) hr hp hL hq (plain_len hw.1) ((plain_gives hw.1 hd).up (by lia)) (fun _ => step_say (by lia) (by lia) (IH _ kn hw.2 hd (by lia)) (by rw [List.length_map]; exact len hw.2)) fun _ => len hw.2
    | any u =>
      exact loop_draw (g := fun _ => bnds rs t kn) hr hp hL hq (plain_len hw.1) ((plain_gives hw.1 hd).up (by lia)) (fun _ => step_draw (take_any.up (by lia)) ((with0 (by rw [knL_len]; lia)).up (by lia)) (IH _ kn hw.2 hd (by lia)) (by rw [List.length_map]; exact len hw.2)) fun _ => len hw.2
    | var x u =>
      refine loop_draw (g := fun i => bnds rs t (pt kn x i)) hr hp hL hq (plain_len hw.2.1) ((plain_gives hw.2.1 hd).up (by lia)) (fun i => ?_) fun _ => len hw.2.2
      have := ptl x i
      exact step_draw (kn' := pt kn x i) (take_var.up (by lia)) (by rw [← pt_knL]; exact (with1 (by rw [knL_len]; lia)).up (by lia)) (IH _ _ hw.2.2 (dom_put hd) (by lia)) (by rw [List.length_map]; exact len hw.2.2)
    | lit u =>
      refine loop_draw (g := fun i : Int => if (1 == i) = true then bnds rs t kn else []) hr hp hL hq (plain_len hw.1) ((plain_gives hw.1 hd).up (by lia)) (fun i => ?_) fun i => ?_
      · cases q : ((1 : Int) == i) with
        | true =>
          rw [if_pos rfl]
          exact step_draw ((take_lit (by rw [one_comm]; exact q)).up (by lia)) ((with0 (by rw [knL_len]; lia)).up (by lia)) (IH _ kn hw.2 hd (by lia)) (by rw [List.length_map]; exact len hw.2)
        | false =>
          rw [if_neg fun z => nomatch z]
          exact step_none ((take_litN (by rw [one_comm]; exact q)).up (by lia))
      · split
        · exact len hw.2
        · decide
    | pair x b l =>
      have hpq : Gives (2 + rs.length) (.glob 31) [prL l, .dct (knL kn)] (.lst (l.map prT)) := (plain_items (by rw [List.length_map]; have := hw.2.1; lia)).up (by lia)
      have glen : ∀ p : Int × Int, (if (b && !(1 == p.2)) = true then [] else bnds rs t (pt kn x p.1)).length < 10000 := fun p => by
        split
        · decide
        · exact len hw.2.2
      have hw1 : ∀ i : Int, Gives (2 + rs.length) (.glob 20) [.dct (knL kn), .dct [(x, .int i)]] (.dct (knL (pt kn x i))) := fun i => by rw [← pt_knL]; exact (with1 (by rw [knL_len]; lia)).up (by lia)
      cases b with
      | false =>
        refine loop_draw (f := prT) (g := fun p : Int × Int => if (false && !(1 == p.2)) = true then [] else bnds rs t (pt kn x p.1)) hr hp hL hq hw.2.1 hpq (fun p => ?_) glen
        have := ptl x p.1
        exact step_draw (take_pair.up (by lia)) (hw1 p.1) (IH _ _ hw.2.2 (dom_put hd) (by lia)) (by rw [List.length_map]; exact len hw.2.2)
      | true =>
        refine loop_draw (f := prT) (g := fun p : Int × Int => if (true && !(1 == p.2)) = true then [] else bnds rs t (pt kn x p.1)) hr hp hL hq hw.2.1 hpq (fun p => ?_) glen
        have := ptl x p.1
        cases q : ((1 : Int) == p.2) with
        | true =>
          rw [if_neg fun z => nomatch z]
          exact step_draw ((take_pairL q).up (by lia)) (hw1 p.1) (IH _ _ hw.2.2 (dom_put hd) (by lia)) (by rw [List.length_map]; exact len hw.2.2)
        | false =>
          rw [if_pos (show (true && !false) = true from rfl)]
          exact step_none ((take_pairN q).up (by lia))
end
theorem c36 {v34 v35 v119 : T} : Gives 1 (.glob 36) [v34, v35, v119] (.inst 36 [(34, v34), (35, v35), (119, v119)]) := Gives.mk fun d σ K k => by
  rw [callP_glob]
  walk_at "go"
  exact k
theorem c37 {v14 : T} : Gives 1 (.glob 37) [v14] (.inst 37 [(14, v14)]) := Gives.mk fun d σ K k => by
  rw [callP_glob]
  walk_at "go"
  exact k
theorem c39 {v97 v17 : T} : Gives 1 (.glob 39) [v97, v17] (.inst 39 [(97, v97), (17, v17)]) := Gives.mk fun d σ K k => by
  rw [callP_glob]
  walk_at "go"
  exact k
theorem c40 {v98 v35 : T} : Gives 1 (.glob 40) [v98, v35] (.inst 40 [(98, v98), (35, v35)]) := Gives.mk fun d σ K k => by
  rw [callP_glob]
  walk_at "go"
  exact k
theorem c41 {v47 v35 v100 : T} : Gives 1 (.glob 41) [v47, v35, v100] (.inst 41 [(47, v47), (35, v35), (100, v100)]) := Gives.mk fun d σ K k => by
  rw [callP_glob]
  walk_at "go"
  exact k
theorem c42 {v104 v37 v35 : T} : Gives 1 (.glob 42) [v104, v37, v35] (.inst 42 [(104, v104), (37, v37), (35, v35)]) := Gives.mk fun d σ K k => by
  rw [callP_glob]
  walk_at "go"
  exact k
theorem c43 {v11 v14 v103 v106 : T} : Gives 1 (.glob 43) [v11, v14, v103, v106] (.inst 43 [(11, v11), (14, v14), (103, v103), (106, v106)]) := Gives.mk fun d σ K k => by
  rw [callP_glob]
  walk_at "go"
  exact k
theorem c44 {v14 v17 : T} : Gives 1 (.glob 44) [v14, v17] (.inst 44 [(14, v14), (17, v17)]) := Gives.mk fun d σ K k => by
  rw [callP_glob]
  walk_at "go"
  exact k
theorem c45 {v120 v17 : T} : Gives 1 (.glob 45) [v120, v17] (.inst 45 [(120, v120), (17, v17)]) := Gives.mk fun d σ K k => by
  rw [callP_glob]
  walk_at "go"
  exact k
theorem c59 {v67 : T} : Gives 1 (.glob 59) [v67] (.inst 59 [(67, v67)]) := Gives.mk fun d σ K k => by
  rw [callP_glob]
  walk_at "go"
  exact k
theorem c60 {v14 : T} : Gives 1 (.glob 60) [v14] (.inst 60 [(14, v14)]) := Gives.mk fun d σ K k => by
  rw [callP_glob]
  walk_at "go"
  exact k
theorem c61 {v66 v70 v29 v122 v123 v124 : T} : Gives 1 (.glob 61) [v66, v70, v29, v122, v123, v124] (.inst 61 [(66, v66), (70, v70), (29, v29), (122, v122), (123, v123), (124, v124)]) := Gives.mk fun d σ K k => by
  rw [callP_glob]
  walk_at "go"
  exact k
theorem c47 {v14 v33 : T} : Gives 1 (.glob 47) [v14, v33] (.inst 47 [(99, .none), (14, v14), (33, v33), (32, .lst [])]) := Gives.mk fun d σ K k => by
  rw [callP_glob]
  walk_at "go"
  exact k
theorem c48 {v34 v22 : T} : Gives 1 (.glob 48) [v34, v22] (.inst 48 [(99, .none), (34, v34), (22, v22)]) := Gives.mk fun d σ K k => by
  rw [callP_glob]
  walk_at "go"
  exact k
theorem c49 {v26 v30 : T} : Gives 1 (.glob 49) [v26, v30] (.inst 49 [(99, .none), (26, v26), (30, v30)]) := Gives.mk fun d σ K k => by
  rw [callP_glob]
  walk_at "go"
  exact k
theorem c50 {v121 v47 : T} : Gives 1 (.glob 50) [v121, v47] (.inst 50 [(99, .none), (121, v121), (47, v47), (48, .lst [])]) := Gives.mk fun d σ K k => by
  rw [callP_glob]
  walk_at "go"
  exact k
theorem c51 {v7 v25 : T} : Gives 1 (.glob 51) [v7, v25] (.inst 51 [(99, .none), (7, v7), (25, v25)]) := Gives.mk fun d σ K k => by
  rw [callP_glob]
  walk_at "go"
  exact k
theorem c52 {v25 : T} : Gives 1 (.glob 52) [v25] (.inst 52 [(99, .none), (25, v25)]) := Gives.mk fun d σ K k => by
  rw [callP_glob]
  walk_at "go"
  exact k
theorem c53 {v47 : T} : Gives 1 (.glob 53) [v47] (.inst 53 [(99, .none), (47, v47)]) := Gives.mk fun d σ K k => by
  rw [callP_glob]
  walk_at "go"
  exact k
theorem c54 {v14 : T} : Gives 1 (.glob 54) [v14] (.inst 54 [(99, .none), (14, v14)]) := Gives.mk fun d σ K k => by
  rw [callP_glob]
  walk_at "go"
  exact k
theorem c55 : Gives 1 (.glob 55) [] (.inst 55 [(99, .none)]) := Gives.mk fun d σ K k => by
  rw [callP_glob]
  walk_at "go"
  exact k
theorem c56 {v9 v11 : T} : Gives 1 (.glob 56) [v9, v11] (.inst 56 [(99, .none), (9, v9), (11, v11)]) := Gives.mk fun d σ K k => by
  rw [callP_glob]
  walk_at "go"
  exact k
theorem c57 {v14 v17 v99 : T} : Gives 1 (.glob 57) [v14, v17, v99] (.inst 57 [(99, v99), (14, v14), (17, v17)]) := Gives.mk fun d σ K k => by
  rw [callP_glob]
  walk_at "go"
  exact k
theorem c58 {v8 : T} : Gives 1 (.glob 58) [v8] (.inst 58 [(99, .none), (8, v8)]) := Gives.mk fun d σ K k => by
  rw [callP_glob]
  walk_at "go"
  exact k
theorem c38 {v9 v11 : T} : Gives 1 (.glob 38) [v9, v11] (.inst 38 [(9, v9), (11, v11)]) := lit_
noncomputable abbrev pVar (x : Nat) : T := .inst 54 [(99, .none), (14, .sym x)]
noncomputable abbrev pWild : T := .inst 55 [(99, .none)]
noncomputable abbrev pLit (i : Int) : T := .inst 56 [(99, .none), (9, .sym 85), (11, .int i)]
noncomputable abbrev pTup (a b : T) : T := .inst 58 [(99, .none), (8, .lst [a, b])]
noncomputable abbrev nGen (p u : T) : T := .inst 51 [(99, .none), (7, p), (25, u)]
noncomputable abbrev nSay (u : T) : T := .inst 52 [(99, .none), (25, u)]
noncomputable abbrev nB0 : T := .inst 50 [(99, .none), (121, .lst []), (47, .lst []), (48, .lst [])]
noncomputable abbrev nRhs (n : Int) : T := .inst 49 [(99, .none), (26, .lst [.tup [.none, .tup [.sym 84, .int n]]]), (30, nB0)]
noncomputable abbrev nClause (n : Int) : T := .inst 48 [(99, .none), (34, .lst []), (22, nRhs n)]
noncomputable abbrev nBind (x : Nat) (n : Int) : T := .inst 47 [(99, .none), (14, .sym x), (33, .lst [nClause n]), (32, .lst [])]
noncomputable abbrev nBinds (x : Nat) (n : Int) : T := .inst 50 [(99, .none), (121, .lst []), (47, .lst [nBind x n]), (48, .lst [.lst [nBind x n]])]
noncomputable abbrev nLet (x : Nat) (n : Int) : T := .inst 53 [(99, .none), (47, nBinds x n)]
noncomputable def Rw.pt : Rw → T
  | .pair x false _ => pTup (pVar x) pWild
  | .pair x true _ => pTup (pVar x) (pLit 1)
  | .var x _ => pVar x
  | .lit _ => pLit 1
  | _ => pWild
noncomputable def Rw.st : Rw → T
  | .letR x n => nLet x n
  | .say u => nSay u.t
  | .pair x false l => nGen (pTup (pVar x) pWild) (prL l)
  | .pair x true l => nGen (pTup (pVar x) (pLit 1)) (prL l)
  | .var x u => nGen (pVar x) u.t
  | .lit u => nGen (pLit 1) u.t
  | .any u => nGen pWild u.t
section
variable {N x : Nat} {n : Int} {u p : T}
theorem pat_any (h : 1 ≤ N) : Gives (N + 1) (.glob 28) [.tup [.sym 114]] pWild := Gives.mk fun d σ K k => by
  rw [callG]
  walk_at "go"
  refine (c55.up h).run d σ _ ?_
  walk_at "go"
  exact k
theorem pat_var (h : 1 ≤ N) : Gives (N + 1) (.glob 28) [.tup [.sym 113, .sym x]] (pVar x) := Gives.mk fun d σ K k => by
  rw [callG]
  walk_at "go"
  refine (c54.up h).run d σ _ ?_
  walk_at "go"
  exact k
theorem pat_lit (h : 1 ≤ N) : Gives (N + 1) (.glob 28) [.tup [.sym 90, .int n]] (pLit n) := Gives.mk fun d σ K k => by
  rw [callG]
  walk_at "go"
  refine (c56.up h).run d σ _ ?_
  walk_at "go"
  exact k
theorem pat_pair (h : 1 ≤ N) : Gives (N + 1) (.glob 28) [.tup [.sym 46, .sym x, .none]] (pTup (pVar x) pWild) := Gives.mk fun d σ K k => by
  rw [callG]
  walk_at "go"
  refine (c54.up h).run d σ _ ?_
  walk_at "go"
  refine (c55.up h).run d σ _ ?_
  walk_at "go"
  refine (c58.up h).run d σ _ ?_
  walk_at "go"
  exact k
theorem pat_pairL (h : 1 ≤ N) : Gives (N + 1) (.glob 28) [.tup [.sym 46, .sym x, .int n]] (pTup (pVar x) (pLit n)) := Gives.mk fun d σ K k => by
  rw [callG]
  walk_at "go"
  refine (c54.up h).run d σ _ ?_
  walk_at "go"
  refine (c56.up h).run d σ _ ?_
  walk_at "go"
  refine (c58.up h).run d σ _ ?_
  walk_at "go"
  exact k
theorem st_draw {q : T} (h : 1 ≤ N) (hp : Gives N (.glob 28) [q] p) : Gives (N + 1) (.glob 29) [.tup [.sym 112, q, u]] (nGen p u) := Gives.mk fun d σ K k => by
  rw [callG]
  walk_at "go"
  refine hp.run d σ _ ?_
  walk_at "go"
  refine (c51.up h).run d σ _ ?_
  walk_at "go"
  exact k
theorem st_say (h : 1 ≤ N) : Gives (N + 1) (.glob 29) [.tup [.sym 111, u]] (nSay u) := Gives.mk fun d σ K k => by
  rw [callG]
  walk_at "go"
  refine (c52.up h).run d σ _ ?_
  walk_at "go"
  exact k
theorem st_let (h : 1 ≤ N) : Gives (N + 1) (.glob 29) [.tup [.sym 110, .sym x, .int n]] (nLet x n) := Gives.mk fun d σ K k => by
  rw [callG]
  walk_at "go"
  refine (c50.up h).run d σ _ ?_
  walk_at "go"
  refine (c49.up h).run d σ _ ?_
  walk_at "go"
  refine (c48.up h).run d σ _ ?_
  walk_at "go"
  refine (c47.up h).run d σ _ ?_
  walk_at "go"
  refine (c53.up h).run d σ _ ?_
  walk_at "go"
  exact k
end
theorem st_gives : ∀ w : Rw, Gives 3 (.glob 29) [w.t] w.st
  | .letR _ _ => st_let (by decide)
  | .say _ => st_say (by decide)
  | .pair _ false _ => st_draw (by decide) (pat_pair (by decide))
  | .pair _ true _ => st_draw (by decide) (pat_pairL (by decide))
  | .var _ _ => st_draw (by decide) (pat_var (by decide))
  | .lit _ => st_draw (by decide) (pat_lit (by decide))
  | .any _ => st_draw (by decide) (pat_any (by decide))
section
variable {N : Nat} {m u : T} {n k : Int}
theorem core_num (h : 1 ≤ N) : Gives (N + 1) (.glob 18) [m, .tup [.sym 84, .int n]] (cLit n) := Gives.mk fun d σ K k => by
  rw [callG]
  walk_at "go"
  refine (c38.up h).run d σ _ ?_
  walk_at "go"
  exact k
theorem core_sum0 (h : 1 ≤ N) : Gives (N + 1) (.glob 18) [m, .tup [.sym 86, .lst [], .int k]] (cCon 51 [(cLit k), cCon 49 []]) := Gives.mk fun d σ K kk => by
  rw [callG]
  walk_at "go"
  refine (c38.up h).run d σ _ ?_
  walk_at "go"
  refine (c44.up h).run d σ _ ?_
  walk_at "go"
  refine (c44.up h).run d σ _ ?_
  walk_at "go"
  exact kk
theorem core_sum1 {a : Nat} (h : 1 ≤ N) : Gives (N + 1) (.glob 18) [m, .tup [.sym 86, .lst [.sym a], .int k]] (cCon 51 [(cPrim [cVar a, (cLit k)]), cCon 49 []]) := Gives.mk fun d σ K kk => by
  rw [callG]
  walk_at "go"
  refine (c38.up h).run d σ _ ?_
  walk_at "go"
  refine (c37.up h).run d σ _ ?_
  walk_at "go"
  refine (c45.up h).run d σ _ ?_
  walk_at "go"
  refine (c44.up h).run d σ _ ?_
  walk_at "go"
  refine (c44.up h).run d σ _ ?_
  walk_at "go"
  exact kk
theorem core_sum2 {a b : Nat} (h : 1 ≤ N) : Gives (N + 1) (.glob 18) [m, .tup [.sym 86, .lst [.sym a, .sym b], .int k]] (cCon 51 [(cPrim [cVar b, (cPrim [cVar a, (cLit k)])]), cCon 49 []]) := Gives.mk fun d σ K kk => by
  rw [callG]
  walk_at "go"
  refine (c38.up h).run d σ _ ?_
  walk_at "go"
  refine (c37.up h).run d σ _ ?_
  walk_at "go"
  refine (c45.up h).run d σ _ ?_
  walk_at "go"
  refine (c37.up h).run d σ _ ?_
  walk_at "go"
  refine (c45.up h).run d σ _ ?_
  walk_at "go"
  refine (c44.up h).run d σ _ ?_
  walk_at "go"
  refine (c44.up h).run d σ _ ?_
  walk_at "go"
  exact kk
theorem core_sum3 {a b c : Nat} (h : 1 ≤ N) : Gives (N + 1) (.glob 18) [m, .tup [.sym 86, .lst [.sym a, .sym b, .sym c], .int k]] (cCon 51 [(cPrim [cVar c, (cPrim [cVar b, (cPrim [cVar a, (cLit k)])])]), cCon 49 []]) := Gives.mk fun d σ K kk => by
  rw [callG]
  walk_at "go"
  refine (c38.up h).run d σ _ ?_
  walk_at "go"
  refine (c37.up h).run d σ _ ?_
  walk_at "go"
  refine (c45.up h).run d σ _ ?_
  walk_at "go"
  refine (c37.up h).run d σ _ ?_
  walk_at "go"
  refine (c45.up h).run d σ _ ?_
  walk_at "go"
  refine (c37.up h).run d σ _ ?_
  walk_at "go"
  refine (c45.up h).run d σ _ ?_
  walk_at "go"
  refine (c44.up h).run d σ _ ?_
  walk_at "go"
  refine (c44.up h).run d σ _ ?_
  walk_at "go"
  exact kk
theorem core_num0 (h : 1 ≤ N) : Gives (N + 1) (.glob 18) [m, .tup [.sym 8, .lst []]] (cCon 49 []) := Gives.mk fun d σ K kk => by
  rw [callG]
  walk_at "go"
  refine (c44.up h).run d σ _ ?_
  walk_at "go"
  exact kk
theorem core_num1 {a : Int} (h : 1 ≤ N) : Gives (N + 1) (.glob 18) [m, .tup [.sym 8, .lst [.int a]]] (cCon 51 [cLit a, (cCon 49 [])]) := Gives.mk fun d σ K kk => by
  rw [callG]
  walk_at "go"
  refine (c44.up h).run d σ _ ?_
  walk_at "go"
  refine (c38.up h).run d σ _ ?_
  walk_at "go"
  refine (c44.up h).run d σ _ ?_
  walk_at "go"
  exact kk
theorem core_pr1 {p : Int × Int} (h : 1 ≤ N) : Gives (N + 1) (.glob 18) [m, .tup [.sym 8, .lst [prT p]]] (cCon 51 [cCon 88 [cLit p.1, cLit p.2], (cCon 49 [])]) := Gives.mk fun d σ K kk => by
  rw [callG]
  walk_at "go"
  refine (c44.up h).run d σ _ ?_
  walk_at "go"
  refine (c38.up h).run d σ _ ?_
  walk_at "go"
  refine (c38.up h).run d σ _ ?_
  walk_at "go"
  refine (c44.up h).run d σ _ ?_
  walk_at "go"
  refine (c44.up h).run d σ _ ?_
  walk_at "go"
  exact kk
theorem core_num2 {a b : Int} (h : 1 ≤ N) : Gives (N + 1) (.glob 18) [m, .tup [.sym 8, .lst [.int a, .int b]]] (cCon 51 [cLit a, (cCon 51 [cLit b, (cCon 49 [])])]) := Gives.mk fun d σ K kk => by
  rw [callG]
  walk_at "go"
  refine (c44.up h).run d σ _ ?_
  walk_at "go"
  refine (c38.up h).run d σ _ ?_
  walk_at "go"
  refine (c44.up h).run d σ _ ?_
  walk_at "go"
  refine (c38.up h).run d σ _ ?_
  walk_at "go"
  refine (c44.up h).run d σ _ ?_
  walk_at "go"
  exact kk
theorem core_pr2 {p q : Int × Int} (h : 1 ≤ N) : Gives (N + 1) (.glob 18) [m, .tup [.sym 8, .lst [prT p, prT q]]] (cCon 51 [cCon 88 [cLit p.1, cLit p.2], (cCon 51 [cCon 88 [cLit q.1, cLit q.2], (cCon 49 [])])]) := Gives.mk fun d σ K kk => by
  rw [callG]
  walk_at "go"
  refine (c44.up h).run d σ _ ?_
  walk_at "go"
  refine (c38.up h).run d σ _ ?_
  walk_at "go"
  refine (c38.up h).run d σ _ ?_
  walk_at "go"
  refine (c44.up h).run d σ _ ?_
  walk_at "go"
  refine (c44.up h).run d σ _ ?_
  walk_at "go"
  refine (c38.up h).run d σ _ ?_
  walk_at "go"
  refine (c38.up h).run d σ _ ?_
  walk_at "go"
  refine (c44.up h).run d σ _ ?_
  walk_at "go"
  refine (c44.up h).run d σ _ ?_
  walk_at "go"
  exact kk
theorem core_told {dom : List Nat} {t : Tld} (hw : WfT dom t) (h : 1 ≤ N) : Gives (N + 1) (.glob 18) [m, t.t] t.core := by
  cases t with
  | sum ns k =>
    obtain ⟨h1, -⟩ := hw
    match ns, h1 with
    | [], _ => exact core_sum0 h
    | [a], _ => exact core_sum1 h
    | [a, b], _ => exact core_sum2 h
    | [a, b, c], _ => exact core_sum3 h
    | _ :: _ :: _ :: _ :: _, h1 => simp at h1
  | nums l =>
    have hl : l.length ≤ 2 := hw
    match l, hl with
    | [], _ => exact core_num0 h
    | [a], _ => exact core_num1 h
    | [a, b], _ => exact core_num2 h
    | _ :: _ :: _ :: _, h1 => simp at h1
theorem core_prs {l : List (Int × Int)} (hl : l.length ≤ 2) (h : 1 ≤ N) : Gives (N + 1) (.glob 18) [m, prL l] (prC l) := by
  match l, hl with
  | [], _ => exact core_num0 h
  | [a], _ => exact core_pr1 h
  | [a, b], _ => exact core_pr2 h
  | _ :: _ :: _ :: _, h1 => simp at h1
noncomputable abbrev mk (f : Nat) : T := .inst 61 [(66, .inst 59 [(67, .dct [])]), (70, .none), (29, .own f), (122, .glob 19), (123, .sym 116), (124, .glob 18)]
theorem mk_expr {f : Nat} {v : T} (hv : Gives N (.glob 18) [mk f, u] v) : Gives (N + 1) (.glob 72) [mk f, u] v := Gives.mk fun d σ K k => by
  rw [callG]
  walk_at "go"
  exact hv.run d σ _ k
theorem mk_fail {f : Nat} (h : 1 ≤ N) : Gives (N + 1) (.glob 73) [mk f] (cVar 116) := Gives.mk fun d σ K k => by
  rw [callG]
  walk_at "go"
  refine (c37.up h).run d σ _ ?_
  walk_at "go"
  exact k
theorem always_ : Gives 1 (.glob 3) [.none] (.bool true) := Gives.mk fun d σ K k => by
  rw [callP_glob]
  walk_at "go"
  exact k
theorem takes_var {x : Nat} {kn : T} : Gives 1 (.glob 2) [pVar x, kn] (.bool true) := Gives.mk fun d σ K k => by
  rw [callP_glob]
  walk_at "go"
  exact k
theorem takes_wild {kn : T} : Gives 1 (.glob 2) [pWild, kn] (.bool true) := Gives.mk fun d σ K k => by
  rw [callP_glob]
  walk_at "go"
  exact k
theorem spread_lit {i : Int} : Gives 1 (.glob 1) [pLit i] (pLit i) := Gives.mk fun d σ K k => by
  rw [callP_glob]
  walk_at "go"
  exact k
theorem name2 : Gives 1 (.glob 0) [.int (2 : Nat)] (.sym 88) := Gives.mk fun d σ K k => by
  rw [callP_glob]
  walk_at "go"
  exact k
theorem spread_tup {a b : T} (h : 1 ≤ N) : Gives (N + 1) (.glob 1) [pTup a b] (.inst 57 [(99, .none), (14, .sym 88), (17, .lst [a, b])]) := Gives.mk fun d σ K k => by
  rw [callG]
  walk_at "go"
  refine (name2.up h).run d σ _ ?_
  walk_at "go"
  refine (c57.up h).run d σ _ ?_
  walk_at "go"
  exact k
theorem takes_lit {i : Int} {kn : T} (h : 1 ≤ N) : Gives (N + 1) (.glob 2) [pLit i, kn] (.bool false) := Gives.mk fun d σ K k => by
  rw [callG]
  walk_at "go"
  refine (spread_lit.up h).run d σ _ ?_
  walk_at "go"
  exact k
noncomputable abbrev consT : T := .inst 59 [(67, .dct [])]
theorem sibs : Gives 1 (.glob 79) [consT, .sym 88] (.lst [.sym 88]) := Gives.mk fun d σ K k => by
  rw [callP_glob]
  walk_at "go"
  exact k
theorem takes_tup {a b : T} {p q : Bool} (h : 2 ≤ N) (ha : Gives N (.glob 2) [a, consT] (.bool p)) (hb : Gives N (.glob 2) [b, consT] (.bool q)) : Gives (N + 1) (.glob 2) [pTup a b, consT] (.bool (p && (q && true))) := Gives.mk fun d σ K k => by
  rw [callG]
  walk_at "go"
  refine ((spread_tup (N := 1) (by decide)).up h).run d σ _ ?_
  walk_at "go"
  refine (sibs.up (by lia)).run d σ _ ?_
  walk_at "go"
  refine ha.run d σ _ ?_
  walk_at "go"
  refine hb.run d σ _ ?_
  walk_at "go"
  exact k
end
noncomputable def chL (s : Nat) : T := .inst 38 [(9, .sym 52), (11, .sym s)]
noncomputable def txL : List Nat := [139, 140, 141, 142, 143, 80, 144, 139, 141, 145, 146, 143, 139, 139, 144, 147, 141, 148, 145]
noncomputable def txT : T := txL.foldl (fun f s => cCon 51 [chL s, f]) (cCon 49 [])
section
variable {N : Nat}
noncomputable def textB : List S := match g_text_core with
  | .fn f => (match f.body with
    | [_, .forS _ _ _ b, _] => b
    | _ => [])
  | _ => []
abbrev bodyV (i d : Nat) (bs : List S) : T → Rho → Sg → (Fl → Rho → Sg → Prop) → Prop := fun t ρ σ K => match bindOne [i] true t ρ with
  | some ρ => exs (fun s ρ σ K => ex tab (CALL d) [] 19 s ρ σ K) bs ρ σ K
  | none => False
noncomputable def tA0 (acc : T) : Rho := [(10, .t (.sym 69)), (24, .t acc)]
noncomputable def tA1 (acc : T) (s : T) : Rho := [(10, .t (.sym 69)), (24, .t acc), (50, .t s)]
theorem text_a {s d : Nat} {acc : T} {σ : Sg} {K : Fl → Rho → Sg → Prop} (h : 1 ≤ N) (k : K .next (tA1 (cCon 51 [chL s, acc]) (.sym s)) σ) : bodyV 50 (d + N) textB (.sym s) (tA0 acc) σ K := by
  walk_at "go"
  refine (c38.up h).run d σ _ ?_
  walk_at "go"
  refine (c44.up h).run d σ _ ?_
  walk_at "go"
  exact k
theorem text_b {s d : Nat} {acc s0 : T} {σ : Sg} {K : Fl → Rho → Sg → Prop} (h : 1 ≤ N) (k : K .next (tA1 (cCon 51 [chL s, acc]) (.sym s)) σ) : bodyV 50 (d + N) textB (.sym s) (tA1 acc s0) σ K := by
  walk_at "go"
  refine (c38.up h).run d σ _ ?_
  walk_at "go"
  refine (c44.up h).run d σ _ ?_
  walk_at "go"
  exact k
theorem forL_cons {F : T → Rho → Sg → (Fl → Rho → Sg → Prop) → Prop} {x : T} {r : List T} {ρ : Rho} {σ : Sg} {K : Fl → Rho → Sg → Prop} (h : F x ρ σ fun fl ρ σ => (match fl with
    | .next => forL F r ρ σ K
    | .cont => forL F r ρ σ K
    | .ret v => K (.ret v) ρ σ)) : forL F (x :: r) ρ σ K := h
theorem text_loop (h : 1 ≤ N) {d : Nat} {σ : Sg} {K : Fl → Rho → Sg → Prop} : ∀ (l : List Nat) (acc s0 : T), (∀ s1, K .next (tA1 (l.foldl (fun f s => cCon 51 [chL s, f]) acc) s1) σ) → forL (bodyV 50 (d + N) textB) (l.map .sym) (tA1 acc s0) σ K
  | [], _, s0, k => k s0
  | _ :: l, _, _, k => forL_cons (text_b h (text_loop h l _ _ k))
abbrev exF (d : Nat) : S → Rho → Sg → (Fl → Rho → Sg → Prop) → Prop := fun s ρ σ K => ex tab (CALL d) [] 20 s ρ σ K
theorem exs_cons {f : S → Rho → Sg → (Fl → Rho → Sg → Prop) → Prop} {s : S} {r : List S} {ρ : Rho} {σ : Sg} {K : Fl → Rho → Sg → Prop} (h : f s ρ σ fun fl ρ σ => (match fl with
    | .next => exs f r ρ σ K
    | fl => K fl ρ σ)) : exs f (s :: r) ρ σ K := h
noncomputable def fnB : GI → List S
  | .fn f => f.body
  | _ => []
abbrev finK (K : T → Sg → Prop) : Fl → Rho → Sg → Prop := fun fl _ σ => match fl with
  | .ret t => K t σ
  | .next => K .none σ
  | .cont => False
theorem ex_for {cp : CP} {κ : List (Nat × T)} {n i : Nat} {e : X} {b : List S} {ρ : Rho} {σ : Sg} {K : Fl → Rho → Sg → Prop} : ex tab cp κ (n + 1) (.forS [i] true e b) ρ σ K = (ev tab cp κ 40 e ρ σ fun v σ => itemsP tab v fun l =>
        forL (fun t ρ σ K => match bindOne [i] true t ρ with
          | some ρ => exs (fun s ρ σ K => ex tab cp κ n s ρ σ K) b ρ σ K
          | Option.none => False) l ρ σ K) := rfl
theorem text_for (h : 1 ≤ N) {d : Nat} {σ : Sg} {K : Fl → Rho → Sg → Prop} (k : ∀ s1, K .next (tA1 txT s1) σ) : exF (d + N) (.forS [50] true (.rev (.loc 10)) textB) (tA0 (cCon 49 [])) σ K := by
  show ex tab (CALL (d + N)) [] (19 + 1) _ _ _ _
  rw [ex_for]
  have h1 : ∀ Kc : T → Sg → Prop, Kc (.sym 138) σ → ev tab (CALL (d + N)) [] 40 (.rev (.loc 10)) (tA0 (cCon 49 [])) σ Kc := fun Kc kc => by
    walk_at "go"
    exact kc
  refine h1 _ ?_
  have e : ∀ K' : List T → Prop, K' (txL.map .sym) → itemsP tab (.sym 138) K' := fun K' h => h
  refine e _ ?_
  exact forL_cons (F := bodyV 50 (d + N) textB) (text_a h (text_loop h _ _ _ k))
theorem text_gives (h : 1 ≤ N) : Gives (N + 1) (.glob 11) [.sym 69] txT := Gives.mk fun d σ K k => by
  have e : CALL (d + (N + 1)) (.glob 11) [.sym 69] σ K = exs (exF (d + N)) (fnB g_text_core) [(10, .t (.sym 69))] σ (finK K) := by kernel_rfl
  rw [e]
  refine exs_cons (s := .asg 24 (.x (.call (.con (.glob 44)) [(.con (.sym 49)), (.lst [])]))) (r := [.forS [50] true (.rev (.loc 10)) textB, .ret (.loc 24)]) ?_
  have h1 : ∀ Kc : Fl → Rho → Sg → Prop, Kc .next (tA0 (cCon 49 [])) σ → exF (d + N) (.asg 24 (.x (.call (.con (.glob 44)) [(.con (.sym 49)), (.lst [])]))) [(10, .t (.sym 69))] σ Kc := fun Kc kc => by
    walk_at "go"
    refine (c44.up h).run d σ _ ?_
    walk_at "go"
    exact kc
  refine h1 _ ?_
  refine exs_cons ?_
  refine text_for h fun s1 => ?_
  walk_at "go"
  exact k
section
variable {n : Int} {x f : Nat} {c fall body : T}
theorem bound0 : Gives 1 (.glob 10) [mk f, nB0, c] c := Gives.mk fun d σ K k => by
  rw [callP_glob]
  walk_at "go"
  exact k
theorem guarded_ (h : 3 ≤ N) : Gives (N + 1) (.glob 4) [mk f, nRhs n, fall] (cLit n) := Gives.mk fun d σ K k => by
  rw [callG]
  walk_at "go"
  refine ((mk_expr (N := 2) (core_num (by decide))).up h).run d σ _ ?_
  walk_at "go"
  refine (always_.up (by lia)).run d σ _ ?_
  walk_at "go"
  exact k
theorem lam0_ (h : 4 ≤ N) : Gives (N + 1) (.lam 0 [(21, mk f), (22, nRhs n)]) [fall] (cLit n) := Gives.mk fun d σ K k => by
  have e : d + (N + 1) = d + N + 1 := rfl
  rw [e, callP_lam]
  walk_at "go"
  refine ((guarded_ (N := 3) (by decide)).up h).run d σ _ ?_
  walk_at "go"
  refine (bound0.up (by lia)).run d σ _ ?_
  walk_at "go"
  exact k
theorem rhs_code_ : Gives 1 (.glob 5) [mk f, nRhs n] (.lam 0 [(21, mk f), (22, nRhs n)]) := Gives.mk fun d σ K k => by
  rw [callP_glob]
  walk_at "go"
  exact k
theorem fun_core (h : 5 ≤ N) : Gives (N + 1) (.glob 6) [mk f, nBind x n, .lst []] (cLit n) := Gives.mk fun d σ K k => by
  rw [callG]
  walk_at "go"
  refine (rhs_code_.up (by lia)).run d σ _ ?_
  walk_at "go"
  refine ((mk_fail (N := 1) (by decide)).up (by lia)).run d σ _ ?_
  walk_at "go"
  refine ((lam0_ (N := 4) (by decide)).up h).run d σ _ ?_
  walk_at "go"
  exact k
theorem bind_pairs_ (h : 6 ≤ N) : Gives (N + 1) (.glob 7) [mk f, nBind x n] (.lst [.tup [.sym x, cLit n]]) := Gives.mk fun d σ K k => by
  rw [callG]
  walk_at "go"
  refine ((fun_core (N := 5) (by decide)).up h).run d σ _ ?_
  walk_at "go"
  exact k
theorem group_pairs_ (h : 7 ≤ N) : Gives (N + 1) (.glob 8) [mk f, .lst [nBind x n]] (.lst [.tup [.sym x, cLit n]]) := Gives.mk fun d σ K k => by
  rw [callG]
  walk_at "go"
  refine ((bind_pairs_ (N := 6) (by decide)).up h).run d σ _ ?_
  walk_at "go"
  exact k
theorem lit_groups : Gives 1 (.glob 85) [cLit n] (.lst []) := Gives.mk fun d σ K k => by
  rw [callP_glob]
  walk_at "go"
  exact k
theorem lit_parts : Gives 1 (.glob 86) [cLit n] (.lst []) := Gives.mk fun d σ K k => by
  rw [callP_glob]
  walk_at "go"
  exact k
theorem mid_get (σ : Sg) (a b : Cell) : (σ ++ [a] ++ [b])[σ.length]? = some a := by
  rw [List.append_assoc, List.getElem?_append_right (Nat.le_refl _), Nat.sub_self]; rfl
end
end
section
variable {N : Nat} {n : Int}
theorem free_lit {d : Nat} {σ : Sg} {K : T → Sg → Prop} (h : 1 ≤ N) (k : K (.lst []) (σ ++ [.dct []] ++ [.lst []])) : CALL (d + (N + 1)) (.glob 87) [cLit n] σ K := by
  rw [callG]
  walk_at "go"
  rw [last_get]
  walk_at "go"
  rw [last_get]
  walk_at "go"
  rw [last_set]
  refine (lit_groups.up h).run d _ _ ?_
  walk_at "go"
  refine (lit_parts.up h).run d _ _ ?_
  walk_at "go"
  rw [last_get]
  walk_at "go"
  rw [mid_get]
  walk_at "go"
  exact k
abbrev Adds (σ σ' : Sg) : Prop := ∀ (i : Nat) (c : Cell), σ[i]? = some c → σ'[i]? = some c
theorem adds_two (σ : Sg) (a b : Cell) : Adds σ (σ ++ [a] ++ [b]) := fun i c h => by
  have hi := (List.getElem?_eq_some_iff.mp h).1
  rw [List.append_assoc, List.getElem?_append_left hi]; exact h
structure GivesA (N : Nat) (f : T) (args : List T) (v : T) : Prop where
  run : ∀ (d : Nat) (σ : Sg) (K : T → Sg → Prop), (∀ σ', Adds σ σ' → K v σ') → CALL (d + N) f args σ K
theorem GivesA.up {N M : Nat} {f : T} {args : List T} {v : T} (h : GivesA N f args v) (hl : N ≤ M) : GivesA M f args v := GivesA.mk fun d σ K k => by
  have := h.run (d + (M - N)) σ K k
  have e : d + (M - N) + N = d + M := up_eq hl
  rw [e] at this; exact this
theorem free_ (h : 1 ≤ N) : GivesA (N + 1) (.glob 87) [cLit n] (.lst []) := ⟨fun _ σ _ k => free_lit h (k _ (adds_two σ _ _))⟩
theorem round_ {x : Nat} (h : 2 ≤ N) : GivesA (N + 1) (.glob 34) [.lst [.tup [.sym x, cLit n]]] (.bool false) := GivesA.mk fun d σ K k => by
  rw [callG]
  walk_at "go"
  refine ((free_ (N := 1) (by decide)).up h).run d σ _ fun σ' ha => ?_
  walk_at "go"
  exact k σ' ha
theorem let_pairs_ {x : Nat} {b : T} (h : 3 ≤ N) : GivesA (N + 1) (.glob 9) [.lst [.tup [.sym x, cLit n]], b] (cLet1 x (cLit n) b) := GivesA.mk fun d σ K k => by
  rw [callG]
  walk_at "go"
  refine ((round_ (N := 2) (by decide)).up h).run d σ _ fun σ' ha => ?_
  walk_at "go"
  refine (c41.up (by lia)).run d σ' _ ?_
  walk_at "go"
  exact k σ' ha
theorem bound_let {x f : Nat} {b : T} (h : 8 ≤ N) : GivesA (N + 1) (.glob 10) [mk f, nBinds x n, b] (cLet1 x (cLit n) b) := GivesA.mk fun d σ K k => by
  rw [callG]
  walk_at "go"
  refine ((group_pairs_ (N := 7) (by decide)).up h).run d σ _ ?_
  walk_at "go"
  refine ((let_pairs_ (N := 3) (by decide)).up (by lia)).run d σ _ fun σ' ha => ?_
  walk_at "go"
  exact k σ' ha
noncomputable def num (k : Nat) : List (Nat × T) := match k with
  | 0 => []
  | k + 1 => [(64, .int (Int.ofNat (k + 1)))]
abbrev FS (f m k : Nat) (σ : Sg) : Prop := σ[f]? = some (.inst 63 [(129, .dct []), (130, .own m)]) ∧ σ[m]? = some (.dct (num k))
theorem base_ : Gives 1 (.glob 35) [.sym 64] (.sym 64) := Gives.mk fun d σ K k => by
  rw [callP_glob]
  walk_at "go"
  exact k
end
section
variable {N : Nat} {d f m : Nat} {σ : Sg} {K : T → Sg → Prop}
theorem next0 (h : 1 ≤ N) (hf : σ[f]? = some (.inst 63 [(129, .dct []), (130, .own m)])) (hm : σ[m]? = some (.dct [])) (k : K (.sym 150) (σ.set m (.dct [(64, .int 1)]))) : CALL (d + (N + 1)) (.glob 78) [.own f, .sym 64] σ K := by
  rw [callG]
  walk_at "go"
  refine (base_.up h).run d σ _ ?_
  walk_at "go"
  repeat ((first | rw [hf] | rw [hm]); walk_at "go")
  exact k
theorem next1 (h : 1 ≤ N) (hf : σ[f]? = some (.inst 63 [(129, .dct []), (130, .own m)])) (hm : σ[m]? = some (.dct [(64, .int 1)])) (k : K (.sym 152) (σ.set m (.dct [(64, .int 2)]))) : CALL (d + (N + 1)) (.glob 78) [.own f, .sym 64] σ K := by
  rw [callG]
  walk_at "go"
  refine (base_.up h).run d σ _ ?_
  walk_at "go"
  repeat ((first | rw [hf] | rw [hm]); walk_at "go")
  exact k
theorem next2 (h : 1 ≤ N) (hf : σ[f]? = some (.inst 63 [(129, .dct []), (130, .own m)])) (hm : σ[m]? = some (.dct [(64, .int 2)])) (k : K (.sym 154) (σ.set m (.dct [(64, .int 3)]))) : CALL (d + (N + 1)) (.glob 78) [.own f, .sym 64] σ K := by
  rw [callG]
  walk_at "go"
  refine (base_.up h).run d σ _ ?_
  walk_at "go"
  repeat ((first | rw [hf] | rw [hm]); walk_at "go")
  exact k
theorem next_ {k : Nat} (h : 1 ≤ N) (hk : k < 3) (hF : FS f m k σ) (kk : K (.sym (itm k)) (σ.set m (.dct (num (k + 1))))) : CALL (d + (N + 1)) (.glob 78) [.own f, .sym 64] σ K := by
  match k, hk, hF, kk with
  | 0, _, hF, kk => exact next0 h hF.1 hF.2 kk
  | 1, _, hF, kk => exact next1 h hF.1 hF.2 kk
  | 2, _, hF, kk => exact next2 h hF.1 hF.2 kk
end
abbrev Keeps (m : Nat) (σ σ' : Sg) : Prop := ∀ (i : Nat) (c : Cell), i ≠ m → σ[i]? = some c → σ'[i]? = some c
theorem FS.ne {f m k : Nat} {σ : Sg} (h : FS f m k σ) : f ≠ m := fun e => by
  have h1 := h.1
  rw [e, h.2] at h1
  cases h1
theorem FS.step {f m k : Nat} {σ : Sg} (h : FS f m k σ) : FS f m (k + 1) (σ.set m (.dct (num (k + 1)))) :=
  ⟨by rw [List.getElem?_set_ne h.ne.symm]; exact h.1, by rw [List.getElem?_set_self (List.getElem?_eq_some_iff.mp h.2).1]⟩
theorem keeps_set {m : Nat} {σ : Sg} {c : Cell} : Keeps m σ (σ.set m c) := fun i c' hi e => by rw [List.getElem?_set_ne (Ne.symm hi)]; exact e
theorem FS.adds {f m k : Nat} {σ σ' : Sg} (h : FS f m k σ) (ha : Adds σ σ') : FS f m k σ' := ⟨ha _ _ h.1, ha _ _ h.2⟩
theorem Keeps.trans {m : Nat} {σ σ' σ'' : Sg} (h : Keeps m σ σ') (h' : Keeps m σ' σ'') : Keeps m σ σ'' := fun i c hi e => h' i c hi (h i c hi e)
theorem Adds.keeps {m : Nat} {σ σ' : Sg} (h : Adds σ σ') : Keeps m σ σ' := fun i c _ e => h i c e
structure GivesF (f m k k' N : Nat) (fn : T) (args : List T) (v : T) : Prop where
  run : ∀ (d : Nat) (σ : Sg) (K : T → Sg → Prop), FS f m k σ → (∀ σ', FS f m k' σ' → Keeps m σ σ' → K v σ') → CALL (d + N) fn args σ K
theorem GivesF.up {f m k k' N M : Nat} {fn : T} {args : List T} {v : T} (h : GivesF f m k k' N fn args v) (hl : N ≤ M) : GivesF f m k k' M fn args v := GivesF.mk fun d σ K p kk => by
  have := h.run (d + (M - N)) σ K p kk
  have e : d + (M - N) + N = d + M := up_eq hl
  rw [e] at this; exact this
section
variable {N f m k k' : Nat} {fn b fall sts : T} {at_ it x : Nat} {cl : List (Nat × T)}
theorem lam2_ (hb : GivesF f m k k' N (.glob 13) [mk f, .sym 101, sts, .int (Int.ofNat (at_ + 1))] b) : GivesF f m k k' (N + 1) (.lam 2 [(60, .int (Int.ofNat at_)), (21, mk f), (58, sts), (57, .sym 101)]) [fall] b := GivesF.mk fun d σ K hF kk => by
  have e : d + (N + 1) = d + N + 1 := rfl
  rw [e, callP_lam]
  walk_at "go"
  exact hb.run d σ _ hF kk
noncomputable abbrev rowT (p : T) (cl : List (Nat × T)) : T := .inst 36 [(34, .lst [p]), (35, .lam 2 cl), (119, .bool false)]
theorem mat_var (h : 1 ≤ N) (hb : GivesF f m k k' N (.lam 2 cl) [fall] b) : GivesF f m k k' (N + 1) (.glob 19) [.lst [.sym it], .lst [rowT (pVar x) cl], fall, .dct [], .own f] (cLet1 x (cVar it) b) := GivesF.mk fun d σ K hF kk => by
  rw [callG]
  walk_at "go"
  refine hb.run d σ _ hF fun σ' hF' hk => ?_
  walk_at "go"
  refine (c37.up h).run d σ' _ ?_
  walk_at "go"
  refine (c41.up h).run d σ' _ ?_
  walk_at "go"
  exact kk σ' hF' hk
theorem mat_lit (h : 1 ≤ N) (hb : GivesF f m k k' N (.lam 2 cl) [fall] b) : GivesF f m k k' (N + 1) (.glob 19) [.lst [.sym it], .lst [rowT (pLit 1) cl], fall, .dct [], .own f] (cCase (cVar it) 89 [litAlt b] fall) := GivesF.mk fun d σ K hF kk => by
  rw [callG]
  walk_at "go"
  refine hb.run d σ _ hF fun σ' hF' hk => ?_
  walk_at "go"
  refine (c37.up h).run d σ' _ ?_
  walk_at "go"
  refine (c42.up h).run d σ' _ ?_
  walk_at "go"
  refine (c43.up h).run d σ' _ ?_
  walk_at "go"
  exact kk σ' hF' hk
theorem mat_wild (hb : GivesF f m k k' N (.lam 2 cl) [fall] b) : GivesF f m k k' (N + 1) (.glob 19) [.lst [.sym it], .lst [rowT pWild cl], fall, .dct [], .own f] b := GivesF.mk fun d σ K hF kk => by
  rw [callG]
  walk_at "go"
  refine hb.run d σ _ hF fun σ' hF' hk => ?_
  walk_at "go"
  exact kk σ' hF' hk
theorem mat_pair (h : 1 ≤ N) (hb : GivesF f m k k' N (.lam 2 cl) [fall] b) : GivesF f m k k' (N + 1) (.glob 19) [.lst [.sym it], .lst [rowT (pTup (pVar x) pWild) cl], fall, .dct [], .own f] (cCase (cVar it) 89 [cAlt (.tup [.sym 94, .sym 88]) [.sym x, .sym 93] b] fall) := GivesF.mk fun d σ K hF kk => by
  rw [callG]
  walk_at "go"
  refine hb.run d σ _ hF fun σ' hF' hk => ?_
  walk_at "go"
  refine (c37.up h).run d σ' _ ?_
  walk_at "go"
  refine (c42.up h).run d σ' _ ?_
  walk_at "go"
  refine (c43.up h).run d σ' _ ?_
  walk_at "go"
  exact kk σ' hF' hk
theorem mat_pairL (h : 1 ≤ N) (hb : GivesF f m k k' N (.lam 2 cl) [fall] b) : GivesF f m k k' (N + 1) (.glob 19) [.lst [.sym it], .lst [rowT (pTup (pVar x) (pLit 1)) cl], fall, .dct [], .own f] (cCase (cVar it) 89 [cAlt (.tup [.sym 94, .sym 88]) [.sym x, .sym 93] (cCase (cVar 93) 89 [litAlt b] fall)] fall) := GivesF.mk fun d σ K hF kk => by
  rw [callG]
  walk_at "go"
  refine hb.run d σ _ hF fun σ' hF' hk => ?_
  walk_at "go"
  refine (c37.up h).run d σ' _ ?_
  walk_at "go"
  refine (c42.up h).run d σ' _ ?_
  walk_at "go"
  refine (c43.up h).run d σ' _ ?_
  walk_at "go"
  refine (c37.up h).run d σ' _ ?_
  walk_at "go"
  refine (c42.up h).run d σ' _ ?_
  walk_at "go"
  refine (c43.up h).run d σ' _ ?_
  walk_at "go"
  exact kk σ' hF' hk
theorem mk_match {rows names v : T} (hb : GivesF f m k k' N (.glob 19) [names, rows, fall, .dct [], .own f] v) : GivesF f m k k' (N + 1) (.glob 74) [mk f, names, rows, fall] v := GivesF.mk fun d σ K hF kk => by
  rw [callG]
  walk_at "go"
  exact hb.run d σ _ hF kk
end
section
variable {N f m k k' : Nat} {p u v b mm fall : T} {a x : Nat} {n : Int} {L : List T}
theorem next_F (h : 1 ≤ N) (hk : k < 3) : GivesF f m k (k + 1) (N + 1) (.glob 78) [.own f, .sym 64] (.sym (itm k)) := GivesF.mk fun _ _ _ hF kk => next_ h hk hF (kk _ hF.step keeps_set)
noncomputable abbrev clT (f a : Nat) (L : List T) : List (Nat × T) := [(60, .int (Int.ofNat a)), (21, mk f), (58, .lst L), (57, .sym 101)]
theorem drawn_T (h : 2 ≤ N) (hk3 : k < 3) (ht : Gives N (.glob 2) [p, consT] (.bool true)) (hm : GivesF f m (k + 1) k' N (.glob 74) [mk f, .lst [.sym (itm k)], .lst [rowT p (clT f a L)], cVar 116] mm) :
    GivesF f m k k' (N + 1) (.glob 14) [mk f, .sym 101, p, .lst L, .int (Int.ofNat a)] (cLam (itm k) mm) := GivesF.mk fun d σ K hF kk => by
  rw [callG]
  walk_at "go"
  rw [hF.1]
  walk_at "go"
  refine ((next_F (N := 1) (by decide) hk3).up h).run d σ _ hF fun σ1 hF1 hk1 => ?_
  walk_at "go"
  refine (c36.up (by lia)).run d σ1 _ ?_
  walk_at "go"
  refine ((mk_fail (N := 1) (by decide)).up h).run d σ1 _ ?_
  walk_at "go"
  refine (c59.up (by lia)).run d σ1 _ ?_
  walk_at "go"
  refine ht.run d σ1 _ ?_
  walk_at "go"
  refine hm.run d σ1 _ hF1 fun σ2 hF2 hk2 => ?_
  walk_at "go"
  refine (c40.up (by lia)).run d σ2 _ ?_
  walk_at "go"
  exact kk σ2 hF2 (hk1.trans hk2)
theorem drawn_F (h : 2 ≤ N) (hk3 : k < 3) (ht : Gives N (.glob 2) [p, consT] (.bool false)) (hm : GivesF f m (k + 1) k' N (.glob 74) [mk f, .lst [.sym (itm k)], .lst [rowT p (clT f a L)], failC txT] mm) :
    GivesF f m k k' (N + 1) (.glob 14) [mk f, .sym 101, p, .lst L, .int (Int.ofNat a)] (cLam (itm k) mm) := GivesF.mk fun d σ K hF kk => by
  rw [callG]
  walk_at "go"
  rw [hF.1]
  walk_at "go"
  refine ((next_F (N := 1) (by decide) hk3).up h).run d σ _ hF fun σ1 hF1 hk1 => ?_
  walk_at "go"
  refine (c36.up (by lia)).run d σ1 _ ?_
  walk_at "go"
  refine ((mk_fail (N := 1) (by decide)).up h).run d σ1 _ ?_
  walk_at "go"
  refine (c59.up (by lia)).run d σ1 _ ?_
  walk_at "go"
  refine ht.run d σ1 _ ?_
  walk_at "go"
  refine (c37.up (by lia)).run d σ1 _ ?_
  walk_at "go"
  refine (c37.up (by lia)).run d σ1 _ ?_
  walk_at "go"
  refine ((text_gives (N := 1) (by decide)).up h).run d σ1 _ ?_
  walk_at "go"
  refine (c39.up (by lia)).run d σ1 _ ?_
  walk_at "go"
  refine hm.run d σ1 _ hF1 fun σ2 hF2 hk2 => ?_
  walk_at "go"
  refine (c40.up (by lia)).run d σ2 _ ?_
  walk_at "go"
  exact kk σ2 hF2 (hk1.trans hk2)
theorem done_let (h : 9 ≤ N) (hr : L[a]? = some (nLet x n)) (ha : a < 1000) (hb : GivesF f m k k' N (.glob 13) [mk f, .sym 101, .lst L, .int (Int.ofNat (a + 1))] b) :
    GivesF f m k k' (N + 1) (.glob 13) [mk f, .sym 101, .lst L, .int (Int.ofNat a)] (cLet1 x (cLit n) b) := GivesF.mk fun d σ K hF kk => by
  rw [callG]
  walk_at "go"
  rw [hr]
  conv => whnf
  refine ⟨by lia, ?_⟩
  walk_at "go"
  refine hb.run d σ _ hF fun σ1 hF1 hk1 => ?_
  walk_at "go"
  refine ((bound_let (N := 8) (by decide)).up h).run d σ1 _ fun σ2 ha2 => ?_
  walk_at "go"
  exact kk σ2 (hF1.adds ha2) (hk1.trans ha2.keeps)
theorem done_last (hr : L[a]? = some (nSay u)) (ha : a < 1000) (hL : L.length < 1000) (hq : (Int.ofNat a == (L.length : Int) - 1) = true) (hv : Gives N (.glob 72) [mk f, u] v) :
    GivesF f m k k (N + 1) (.glob 13) [mk f, .sym 101, .lst L, .int (Int.ofNat a)] v := GivesF.mk fun d σ K hF kk => by
  rw [callG]
  walk_at "go"
  rw [hr]
  conv => whnf
  refine ⟨by lia, ?_⟩
  walk_at "go"
  refine hv.run d σ _ ?_
  walk_at "go"
  refine ⟨by lia, ?_⟩
  walk_at "go"
  rw [hq]
  walk_at "go"
  exact kk σ hF fun _ _ _ e => e
theorem done_say (h : 1 ≤ N) (hr : L[a]? = some (nSay u)) (ha : a < 1000) (hL : L.length < 1000) (hq : (Int.ofNat a == (L.length : Int) - 1) = false) (hv : Gives N (.glob 72) [mk f, u] v) (hb : GivesF f m k k' N (.glob 13) [mk f, .sym 101, .lst L, .int (Int.ofNat (a + 1))] b) :
    GivesF f m k k' (N + 1) (.glob 13) [mk f, .sym 101, .lst L, .int (Int.ofNat a)] (thn (cVar 101) v b) := GivesF.mk fun d σ K hF kk => by
  rw [callG]
  walk_at "go"
  rw [hr]
  conv => whnf
  refine ⟨by lia, ?_⟩
  walk_at "go"
  refine hv.run d σ _ ?_
  walk_at "go"
  refine ⟨by lia, ?_⟩
  walk_at "go"
  rw [hq]
  walk_at "go"
  refine (c37.up h).run d σ _ ?_
  walk_at "go"
  refine (c37.up h).run d σ _ ?_
  walk_at "go"
  refine hb.run d σ _ hF fun σ1 hF1 hk1 => ?_
  walk_at "go"
  refine (c39.up h).run d σ1 _ ?_
  walk_at "go"
  exact kk σ1 hF1 hk1
theorem done_draw (h : 1 ≤ N) (hr : L[a]? = some (nGen p u)) (ha : a < 1000) (hL : L.length < 1000) (hq : (Int.ofNat a == (L.length : Int) - 1) = false) (hv : Gives N (.glob 72) [mk f, u] v) (hb : GivesF f m k k' N (.glob 14) [mk f, .sym 101, p, .lst L, .int (Int.ofNat a)] b) :
    GivesF f m k k' (N + 1) (.glob 13) [mk f, .sym 101, .lst L, .int (Int.ofNat a)] (bnd (cVar 101) v b) := GivesF.mk fun d σ K hF kk => by
  rw [callG]
  walk_at "go"
  rw [hr]
  conv => whnf
  refine ⟨by lia, ?_⟩
  walk_at "go"
  refine hv.run d σ _ ?_
  walk_at "go"
  refine ⟨by lia, ?_⟩
  walk_at "go"
  rw [hq]
  walk_at "go"
  refine (c37.up h).run d σ _ ?_
  walk_at "go"
  refine (c37.up h).run d σ _ ?_
  walk_at "go"
  refine hb.run d σ _ hF fun σ1 hF1 hk1 => ?_
  walk_at "go"
  refine (c39.up h).run d σ1 _ ?_
  walk_at "go"
  exact kk σ1 hF1 hk1
end
noncomputable def dr : List Rw → Nat
  | [] => 0
  | .letR _ _ :: rs => dr rs
  | .say _ :: rs => dr rs
  | _ :: rs => dr rs + 1
noncomputable def nodes (rs : List Rw) (t : Tld) : List T := rs.map Rw.st ++ [nSay t.t]
theorem nodes_len {rs : List Rw} {t : Tld} : (nodes rs t).length = rs.length + 1 := by unfold nodes; simp
section
variable {f m : Nat} {L : List T}
theorem q_falseN {pre : List T} {x : T} {rs : List Rw} {t : Tld} (h : L = pre ++ (x :: nodes rs t)) : (Int.ofNat pre.length == (L.length : Int) - 1) = false := by
  have := nodes_len (rs := rs) (t := t)
  rw [h, beq_eq_false_iff_ne]
  intro e
  have e : (pre.length : Int) = _ := e
  rw [List.length_append, List.length_cons, this] at e
  lia
theorem done_gives (hL : L.length < 1000) : ∀ (rs : List Rw) (pre : List T) (dom : List Nat) (t : Tld) (k : Nat), L = pre ++ nodes rs t → Wf rs dom t → k + dr rs ≤ 3 →
    GivesF f m k (k + dr rs) (12 + 6 * rs.length) (.glob 13) [mk f, .sym 101, .lst L, .int (Int.ofNat pre.length)] (core txT rs k t) := by
  intro rs
  induction rs with
  | nil =>
    intro pre dom t k hl hw hk
    have hp : pre.length < 1000 := by rw [hl, List.length_append] at hL; lia
    exact (done_last (N := 3) (at_head (tl := []) hl) hp hL (q_true hl) (mk_expr (core_told (N := 1) hw (by decide)))).up (by simp)
  | cons row rs ih =>
    intro pre dom t k hl hw hk
    have hl : L = pre ++ (row.st :: nodes rs t) := hl
    have hp : pre.length < 1000 := by rw [hl, List.length_append] at hL; lia
    have hr := at_head hl
    have hq := q_falseN hl
    have hl' : L = (pre ++ [row.st]) ++ nodes rs t := by rw [hl, List.append_assoc]; rfl
    have hpl : (pre ++ [row.st]).length = pre.length + 1 := by simp
    have IH : ∀ (dom : List Nat) (k : Nat), Wf rs dom t → k + dr rs ≤ 3 → GivesF f m k (k + dr rs) (12 + 6 * rs.length) (.glob 13) [mk f, .sym 101, .lst L, .int (Int.ofNat (pre.length + 1))] (core txT rs k t) := fun dom k a b => by
      have := ih (pre ++ [row.st]) dom t k hl' a b
      rw [hpl] at this; exact this
    have e : 12 + 6 * (rs.length + 1) = 12 + 6 * rs.length + 6 := by lia
    rw [List.length_cons, e]
    generalize hD : 12 + 6 * rs.length = D at IH
    have h12 : 12 ≤ D := by lia
    have ek : ∀ j, k + (j + 1) = k + 1 + j := fun j => by lia
    have told : ∀ {u : Tld} {dom : List Nat}, WfT dom u → Gives 3 (.glob 72) [mk f, u.t] u.core := fun h => mk_expr (core_told (N := 1) h (by decide))
    cases row with
    | letR x n => exact (done_let (N := D) (by lia) hr hp (IH _ k hw.2 hk)).up (by lia)
    | say u => exact (done_say (N := D) (by lia) hr hp hL hq ((told hw.1).up (by lia)) (IH _ k hw.2 hk)).up (by lia)
    | any u =>
      show GivesF f m k (k + (dr rs + 1)) _ _ _ _
      have hk : k + (dr rs + 1) ≤ 3 := hk
      rw [ek]
      exact (done_draw (N := D + 4) (by lia) hr hp hL hq ((told hw.1).up (by lia)) (drawn_T (N := D + 3) (by lia) (by lia) (takes_wild.up (by lia)) (mk_match (mat_wild (lam2_ (IH _ (k + 1) hw.2 (by lia))))))).up (by lia)
    | var x u =>
      show GivesF f m k (k + (dr rs + 1)) _ _ _ _
      have hk : k + (dr rs + 1) ≤ 3 := hk
      rw [ek]
      exact (done_draw (N := D + 4) (by lia) hr hp hL hq ((told hw.2.1).up (by lia)) (drawn_T (N := D + 3) (by lia) (by lia) (takes_var.up (by lia)) (mk_match (mat_var (by lia) (lam2_ (IH _ (k + 1) hw.2.2 (by lia))))))).up (by lia)
    | lit u =>
      show GivesF f m k (k + (dr rs + 1)) _ _ _ _
      have hk : k + (dr rs + 1) ≤ 3 := hk
      rw [ek]
      exact (done_draw (N := D + 4) (by lia) hr hp hL hq ((told hw.1).up (by lia)) (drawn_F (N := D + 3) (by lia) (by lia) ((takes_lit (N := 1) (by decide)).up (by lia)) (mk_match (mat_lit (by lia) (lam2_ (IH _ (k + 1) hw.2 (by lia))))))).up (by lia)
    | pair x b l =>
      show GivesF f m k (k + (dr rs + 1)) _ _ _ _
      have hk : k + (dr rs + 1) ≤ 3 := hk
      rw [ek]
      have pt : Gives (D + 4) (.glob 72) [mk f, prL l] (prC l) := (mk_expr (core_prs (N := 1) hw.2.1 (by decide))).up (by lia)
      cases b with
      | false =>
        have tk : Gives (D + 3) (.glob 2) [pTup (pVar x) pWild, consT] (.bool true) := (takes_tup (N := 2) (by decide) (takes_var.up (by decide)) (takes_wild.up (by decide))).up (by lia)
        exact (done_draw (N := D + 4) (by lia) hr hp hL hq pt (drawn_T (N := D + 3) (by lia) (by lia) tk (mk_match (mat_pair (by lia) (lam2_ (IH _ (k + 1) hw.2.2 (by lia))))))).up (by lia)
      | true =>
        have tk : Gives (D + 3) (.glob 2) [pTup (pVar x) (pLit 1), consT] (.bool false) := (takes_tup (N := 2) (by decide) (takes_var.up (by decide)) (takes_lit (N := 1) (by decide))).up (by lia)
        exact (done_draw (N := D + 4) (by lia) hr hp hL hq pt (drawn_F (N := D + 3) (by lia) (by lia) tk (mk_match (mat_pairL (by lia) (lam2_ (IH _ (k + 1) hw.2.2 (by lia))))))).up (by lia)
end
section
variable {N : Nat} {d : Nat} {σ : Sg} {K : T → Sg → Prop} {v : T} {fs : List (Nat × T)} {c : Nat} {L : List T}
theorem node_init (ho : okA tab c 99 = true) (hl : fs.length < 900) (k : K .none (σ ++ [.inst c (pt fs 99 v)])) : CALL (d + (N + 1)) (.glob 80) [.own σ.length, v] (σ ++ [.inst c fs]) K := by
  rw [callG]
  walk_at "go"
  rw [last_get]
  conv => whnf
  refine ⟨⟨ho, hl⟩, ?_⟩
  walk_at "go"
  rw [last_set]
  exact k
theorem do_init (h : 1 ≤ N) (k : K .none (σ ++ [.inst 62 [(99, .none), (58, .lst L), (54, .lst [])]])) : CALL (d + (N + 1)) (.glob 81) [.own σ.length, .lst L] (σ ++ [.inst 62 []]) K := by
  obtain ⟨M, rfl⟩ : ∃ M, N = M + 1 := ⟨N - 1, by lia⟩
  rw [callG]
  walk_at "go"
  refine node_init (d := d) (N := M) rfl (by decide) ?_
  walk_at "go"
  rw [last_get]
  walk_at "go"
  rw [last_set]
  rw [last_get]
  walk_at "go"
  rw [last_set]
  exact k
theorem do_ (h : 2 ≤ N) (k : K (.own σ.length) (σ ++ [.inst 62 [(99, .none), (58, .lst L), (54, .lst [])]])) : CALL (d + (N + 1)) (.glob 62) [.lst L] σ K := by
  obtain ⟨M, rfl⟩ : ∃ M, N = M + 1 := ⟨N - 1, by lia⟩
  rw [callG]
  conv => whnf
  refine do_init (d := d) (N := M) (by lia) ?_
  exact k
theorem need_init (k : K .none (σ ++ [.inst 64 [(133, .none), (99, .none), (115, .none)]])) : CALL (d + (N + 1)) (.glob 83) [.own σ.length, .none, .none] (σ ++ [.inst 64 []]) K := by
  rw [callG]
  walk_at "go"
  rw [last_get]
  walk_at "go"
  rw [last_set]
  rw [last_get]
  walk_at "go"
  rw [last_set]
  rw [last_get]
  walk_at "go"
  rw [last_set]
  exact k
theorem need_ (h : 1 ≤ N) (k : K (.own σ.length) (σ ++ [.inst 64 [(133, .none), (99, .none), (115, .none)]])) : CALL (d + (N + 1)) (.glob 64) [.none, .none] σ K := by
  obtain ⟨M, rfl⟩ : ∃ M, N = M + 1 := ⟨N - 1, by lia⟩
  rw [callG]
  conv => whnf
  refine need_init (d := d) (N := M) ?_
  exact k
theorem avoid_ {i : T} : Gives 1 (.glob 77) [i, .glob 84] .none := Gives.mk fun d σ K k => by
  rw [callP_glob]
  walk_at "go"
  exact k
theorem dict_ {w x : T} (h : 1 ≤ N) : Gives (N + 1) (.glob 15) [.inst 60 [(14, .sym 101)], w, x] (cVar 101) := Gives.mk fun d σ K k => by
  rw [callG]
  walk_at "go"
  refine (c37.up h).run d σ _ ?_
  walk_at "go"
  exact k
theorem mid_set (σ : Sg) (a b c : Cell) : (σ ++ [a] ++ [b]).set σ.length c = σ ++ [c] ++ [b] := by
  rw [List.append_assoc, List.set_append_right _ _ (Nat.le_refl _), Nat.sub_self, List.append_assoc]; rfl
theorem fresh_init (h : 1 ≤ N) (k : K .none (σ ++ [.inst 63 [(129, .dct []), (130, .own (σ.length + 1))]] ++ [.dct []])) : CALL (d + (N + 1)) (.glob 82) [.own σ.length] (σ ++ [.inst 63 []]) K := by
  rw [callG]
  walk_at "go"
  rw [last_get]
  walk_at "go"
  rw [last_set]
  rw [mid_get]
  walk_at "go"
  rw [mid_set]
  rw [mid_get]
  walk_at "go"
  refine (avoid_.up h).run d _ _ ?_
  walk_at "go"
  have e : List.length (σ ++ [Cell.inst 63 (pt [] 129 (T.dct []))]) = σ.length + 1 := List.length_append
  rw [e]
  exact k
theorem fresh_ (h : 2 ≤ N) (k : K (.own σ.length) (σ ++ [.inst 63 [(129, .dct []), (130, .own (σ.length + 1))]] ++ [.dct []])) : CALL (d + (N + 1)) (.glob 63) [] σ K := by
  obtain ⟨M, rfl⟩ : ∃ M, N = M + 1 := ⟨N - 1, by lia⟩
  rw [callG]
  conv => whnf
  refine fresh_init (d := d) (N := M) (by lia) ?_
  exact k
section
variable {f m n z k k' : Nat} {b : T}
noncomputable abbrev evT : T := .inst 60 [(14, .sym 101)]
theorem lam1_ {nf : List (Nat × T)} (hn : σ[n]? = some (.inst 62 [(99, .none), (58, .lst L), (54, v)])) (hF : FS f m k σ) (hb : GivesF f m k k' N (.glob 13) [mk f, .sym 101, .lst L, .int (Int.ofNat 0)] b) (kk : ∀ σ', FS f m k' σ' → Keeps m σ σ' → K b σ') :
    CALL (d + (N + 1)) (.lam 1 [(21, mk f), (53, .own n)]) [.sym 101] σ K := by
  have e : d + (N + 1) = d + N + 1 := rfl
  rw [e, callP_lam]
  walk_at "go"
  rw [hn]
  walk_at "go"
  exact hb.run d σ _ hF kk
theorem evid_ (h : 2 ≤ N) (hz : σ[z]? = some (.inst 64 [(133, .none), (99, .none), (115, evT)])) (kk : K (cVar 101) σ) : CALL (d + (N + 1)) (.glob 76) [mk f, .own z] σ K := by
  rw [callG]
  walk_at "go"
  rw [hz]
  walk_at "go"
  refine ((dict_ (N := 1) (by decide)).up h).run d _ _ ?_
  walk_at "go"
  exact kk
end
end
section
variable {N : Nat} {d : Nat} {σ : Sg} {K : T → Sg → Prop} {v : T} {L : List T} {f m n z k k' s : Nat} {b : T}
theorem named_ {cl : List (Nat × T)} (kk : CALL (d + N) (.lam 1 cl) [.sym 101] σ K) : CALL (d + (N + 1)) (.glob 75) [mk f, cVar 101, .sym 56, .lam 1 cl] σ K := by
  rw [callG]
  walk_at "go"
  exact kk
theorem done_top (hn : σ[n]? = some (.inst 62 [(99, .none), (58, .lst L), (54, .lst [.own z])])) (hev : ∀ K : T → Sg → Prop, K (cVar 101) σ → CALL (d + N) (.glob 76) [mk f, .own z] σ K)
    (hnm : CALL (d + N) (.glob 75) [mk f, cVar 101, .sym 56, .lam 1 [(21, mk f), (53, .own n)]] σ K) : CALL (d + (N + 1)) (.glob 12) [mk f, .own n] σ K := by
  rw [callG]
  walk_at "go"
  rw [hn]
  walk_at "go"
  refine hev _ ?_
  walk_at "go"
  exact hnm
theorem done_statements_ (h : 2 ≤ N) (hn : σ[n]? = some (.inst 62 [(99, .none), (58, .lst L), (54, .lst [.own z])])) (hz : σ[z]? = some (.inst 64 [(133, .none), (99, .none), (115, evT)])) (hF : FS f m k σ)
    (hb : GivesF f m k k' N (.glob 13) [mk f, .sym 101, .lst L, .int (Int.ofNat 0)] b) (kk : ∀ σ', FS f m k' σ' → Keeps m σ σ' → K b σ') : CALL (d + (N + 2 + 1)) (.glob 12) [mk f, .own n] σ K :=
  done_top hn (fun _ k => evid_ (d := d) (N := N + 1) (by lia) hz k) (named_ (d := d) (N := N + 1) (lam1_ (nf := []) hn hF hb kk))
end
section
variable {N : Nat} {d : Nat} {σ : Sg} {K : T → Sg → Prop} {v : T} {L : List T} {f m n z k k' s : Nat} {b : T}
abbrev SrcOk (s : Nat) (σ : Sg) : Prop := ∃ a b : Int, σ[s]? = some (.lst [.int a, .int b]) ∧ 0 ≤ a ∧ 0 ≤ b ∧ b < 2147483647
theorem small_of {x : Int} (h : x.natAbs < 4611686018427387904) : small x := h
theorem src_set {a b : Int} {σ : Sg} {c : Cell} (h : σ[s]? = some c) (ha : 0 ≤ a) (hb : 0 ≤ b) (hb' : b < 2147483647) : SrcOk s (σ.set s (.lst [.int a, .int b])) :=
  ⟨a, b, List.getElem?_set_self (List.getElem?_eq_some_iff.mp h).1, ha, hb, hb'⟩
theorem take_ {t : Int} (h1 : 0 < t) (h2 : t < 10) (hs : SrcOk s σ) (kk : ∀ g σ', 0 ≤ g → g < t → SrcOk s σ' → Keeps s σ σ' → K (.int g) σ') : CALL (d + (N + 1)) (.glob 17) [.own s, .int t] σ K := by
  obtain ⟨a, b, hc, ha, hb, hb'⟩ := hs
  have hset : ∀ c : Cell, (σ.set s c)[s]? = some c := fun c => List.getElem?_set_self (List.getElem?_eq_some_iff.mp hc).1
  rw [callG]
  walk_at "go"
  rw [hc]
  walk_at "go"
  by_cases hp : a > 0
  · rw [decide_eq_true hp]
    walk_at "go"
    rw [hc]
    walk_at "go"
    refine ⟨by omega, ?_⟩
    walk_at "go"
    rw [hc]
    walk_at "go"
    refine ⟨⟨by omega, by omega⟩, ?_⟩
    walk_at "go"
    rw [hc]
    walk_at "go"
    exact kk _ _ (Int.fmod_nonneg_of_pos a h1) (Int.fmod_lt_of_pos a h1) (src_set hc (Int.fdiv_nonneg ha (by omega)) hb hb') keeps_set
  · rw [decide_eq_false hp]
    walk_at "go"
    rw [hc]
    walk_at "go"
    refine ⟨.inr (small_of (by decide)), ?_⟩
    walk_at "go"
    have q0 : 0 ≤ Int.fmod (b * 39373 + 7) 2147483647 := Int.fmod_nonneg_of_pos _ (by decide)
    have q1 : Int.fmod (b * 39373 + 7) 2147483647 < 2147483647 := Int.fmod_lt_of_pos _ (by decide)
    rw [hc]
    walk_at "go"
    rw [hset]
    walk_at "go"
    rw [hset]
    walk_at "go"
    refine ⟨.inl (small_of (by omega)), ?_⟩
    walk_at "go"
    refine ⟨by omega, ?_⟩
    walk_at "go"
    exact kk _ _ (Int.fmod_nonneg_of_pos _ h1) (Int.fmod_lt_of_pos _ h1) (src_set hc ha q0 q1) keeps_set
structure GivesD (s : Nat) (N : Nat) (t : Int) : Prop where
  run : ∀ (d : Nat) (σ : Sg) (K : T → Sg → Prop), SrcOk s σ → (∀ g σ', 0 ≤ g → g < t → SrcOk s σ' → Keeps s σ σ' → K (.int g) σ') → CALL (d + N) (.glob 17) [.own s, .int t] σ K
theorem dig {t : Int} (h1 : 0 < t) (h2 : t < 10) : GivesD s 1 t := ⟨fun d _ _ hs kk => take_ (d := d) (N := 0) h1 h2 hs kk⟩
theorem GivesD.up {s N M : Nat} {t : Int} (h : GivesD s N t) (hl : N ≤ M) : GivesD s M t := GivesD.mk fun d σ K p kk => by
  have := h.run (d + (M - N)) σ K p kk
  have e : d + (M - N) + N = d + M := up_eq hl
  rw [e] at this; exact this
end
section
variable {N : Nat} {d : Nat} {σ : Sg} {K : T → Sg → Prop} {v : T} {L : List T} {f m n z k k' s : Nat} {b : T}
theorem three {g : Int} (h0 : 0 ≤ g) (h1 : g < 3) : g = .ofNat 0 ∨ g = .ofNat 1 ∨ g = .ofNat 2 := by
  have : g = 0 ∨ g = 1 ∨ g = 2 := by lia
  exact this
theorem names_loop {F : T → Sg → (T → Sg → Prop) → Prop} {G : T → Sg → (Bool → Sg → Prop) → Prop} {LL : List T} {nm : Nat} (hns : nm ≠ s) {K : List T → Sg → Prop} (hF : ∀ t σ (K : T → Sg → Prop), K t σ → F t σ K)
    (hG : ∀ t σ (K : Bool → Sg → Prop), SrcOk s σ → (∀ b σ', SrcOk s σ' → Keeps s σ σ' → K b σ') → G t σ K) : ∀ (l acc : List Nat) (σ : Sg), SrcOk s σ → σ[nm]? = some (.lst LL) → acc.length + l.length ≤ 3 →
    (∀ (r : List Nat) σ', r.length ≤ 3 → (∀ n ∈ r, n ∈ acc ∨ n ∈ l) → SrcOk s σ' → Keeps s σ σ' → K (r.map .sym) σ') → compL F G (fun σ => σ[nm]? = some (.lst LL)) (l.map .sym) (acc.map .sym) σ K
  | [], acc, σ, hs, hn, hl, kk => kk acc σ hl (fun n h => .inl h) hs fun _ _ _ e => e
  | x :: l, acc, σ, hs, hn, hl, kk => by
    refine ⟨by rw [List.length_map]; simp at hl; lia, hG _ _ _ hs fun b σ1 s1 k1 => ?_⟩
    have hn1 := k1 nm _ hns hn
    cases b with
    | true =>
      refine hF _ _ _ ⟨hn1, ?_⟩
      have := names_loop hns hF hG l (acc ++ [x]) σ1 s1 hn1 (by simp at hl ⊢; lia) fun r σ2 r1 r2 s2 k2 => kk r σ2 r1 (fun n hnr => by
        rcases r2 n hnr with q | q
        · rcases List.mem_append.mp q with q | q
          · exact .inl q
          · exact .inr (List.mem_singleton.mp q ▸ .head _)
        · exact .inr (.tail _ q)) s2 (k1.trans k2)
      rw [List.map_append] at this
      exact this
    | false =>
      exact ⟨hn1, names_loop hns hF hG l acc σ1 s1 hn1 (by simp at hl ⊢; lia) fun r σ2 r1 r2 s2 k2 => kk r σ2 r1 (fun n hnr => (r2 n hnr).imp id (.tail _)) s2 (k1.trans k2)⟩
section
variable {nm : Nat} {names : List Nat}
theorem told_ (h : 1 ≤ N) (hns : nm ≠ s) (hs : SrcOk s σ) (hn : σ[nm]? = some (.lst (names.map .sym))) (hl : names.length ≤ 3) (kk : ∀ (u : Tld) σ', WfT names u → SrcOk s σ' → Keeps s σ σ' → K u.t σ') : CALL (d + (N + 1)) (.glob 26) [.own s, .own nm, .bool false] σ K := by
  have D : ∀ {t : Int}, 0 < t → t < 10 → GivesD s N t := fun h1 h2 => (dig h1 h2).up h
  rw [callG]
  walk_at "go"
  refine (D (t := 3) (by decide) (by decide)).run d σ _ hs fun g σ1 g0 g1 s1 k1 => ?_
  walk_at "go"
  cases e : (g == 0) with
  | false =>
    walk_at "go"
    refine (D (t := 3) (by decide) (by decide)).run d σ1 _ s1 fun m σ2 m0 m1 s2 k2 => ?_
    rcases three m0 m1 with rfl | rfl | rfl
    · walk_at "go"
      exact kk (.nums []) σ2 (Nat.zero_le _) s2 (k1.trans k2)
    · walk_at "go"
      refine (D (t := 3) (by decide) (by decide)).run d σ2 _ s2 fun a σ3 _ _ s3 k3 => ?_
      walk_at "go"
      refine (D (t := 3) (by decide) (by decide)).run d σ3 _ s3 fun b σ4 _ _ s4 k4 => ?_
      walk_at "go"
      exact kk (.nums [a]) σ4 (show [a].length ≤ 2 by simp) s4 (((k1.trans k2).trans k3).trans k4)
    · walk_at "go"
      refine (D (t := 3) (by decide) (by decide)).run d σ2 _ s2 fun a σ3 _ _ s3 k3 => ?_
      walk_at "go"
      refine (D (t := 3) (by decide) (by decide)).run d σ3 _ s3 fun b σ4 _ _ s4 k4 => ?_
      walk_at "go"
      refine (D (t := 3) (by decide) (by decide)).run d σ4 _ s4 fun a' σ5 _ _ s5 k5 => ?_
      walk_at "go"
      refine (D (t := 3) (by decide) (by decide)).run d σ5 _ s5 fun b' σ6 _ _ s6 k6 => ?_
      walk_at "go"
      exact kk (.nums [a, a']) σ6 (show [a, a'].length ≤ 2 by simp) s6 (((((k1.trans k2).trans k3).trans k4).trans k5).trans k6)
  | true =>
    have hn1 := k1 nm _ hns hn
    walk_at "go"
    rw [hn1]
    walk_at "go"
    refine names_loop (s := s) hns ?_ ?_ names [] σ1 s1 hn1 (by simpa using hl) fun r σ2 r1 r2 s2 k2 => ?_
    · intro t σ K k
      walk_at "go"
      exact k
    · intro t σ K hs k
      walk_at "go"
      refine (D (t := 2) (by decide) (by decide)).run d σ _ hs fun m σ2 m0 m1 s2 k2 => ?_
      walk_at "go"
      exact k _ _ s2 k2
    · walk_at "go"
      refine (D (t := 4) (by decide) (by decide)).run d σ2 _ s2 fun m σ3 m0 m1 s3 k3 => ?_
      walk_at "go"
      exact kk (.sum r m) σ3 ⟨r1, fun n hnr => (r2 n hnr).elim (fun q => nomatch q) id⟩ s3 ((k1.trans k2).trans k3)
theorem told_prs (h : 1 ≤ N) (hs : SrcOk s σ) {nmT : T} (kk : ∀ (l : List (Int × Int)) σ', l.length ≤ 2 → SrcOk s σ' → Keeps s σ σ' → K (prL l) σ') : CALL (d + (N + 1)) (.glob 26) [.own s, nmT, .bool true] σ K := by
  have D : ∀ {t : Int}, 0 < t → t < 10 → GivesD s N t := fun h1 h2 => (dig h1 h2).up h
  rw [callG]
  walk_at "go"
  refine (D (t := 3) (by decide) (by decide)).run d σ _ hs fun m σ2 m0 m1 s2 k2 => ?_
  rcases three m0 m1 with rfl | rfl | rfl
  · walk_at "go"
    exact kk [] σ2 (by decide) s2 k2
  · walk_at "go"
    refine (D (t := 3) (by decide) (by decide)).run d σ2 _ s2 fun a σ3 _ _ s3 k3 => ?_
    walk_at "go"
    refine (D (t := 3) (by decide) (by decide)).run d σ3 _ s3 fun b σ4 _ _ s4 k4 => ?_
    walk_at "go"
    exact kk [(a, b)] σ4 (by simp) s4 ((k2.trans k3).trans k4)
  · walk_at "go"
    refine (D (t := 3) (by decide) (by decide)).run d σ2 _ s2 fun a σ3 _ _ s3 k3 => ?_
    walk_at "go"
    refine (D (t := 3) (by decide) (by decide)).run d σ3 _ s3 fun b σ4 _ _ s4 k4 => ?_
    walk_at "go"
    refine (D (t := 3) (by decide) (by decide)).run d σ4 _ s4 fun a' σ5 _ _ s5 k5 => ?_
    walk_at "go"
    refine (D (t := 3) (by decide) (by decide)).run d σ5 _ s5 fun b' σ6 _ _ s6 k6 => ?_
    walk_at "go"
    exact kk [(a, b), (a', b')] σ6 (by simp) s6 ((((k2.trans k3).trans k4).trans k5).trans k6)
end
end
section
variable {N : Nat} {d : Nat} {σ : Sg} {K : T → Sg → Prop} {v : T} {L : List T} {f m n z k k' s : Nat} {b : T}
noncomputable def stB : List S := match g_law_statements with
  | .fn f => (match f.body with
    | [_, .forR _ _ b, _, _] => b
    | _ => [])
  | _ => []
abbrev bodyR (d : Nat) (bs : List S) : T → Rho → Sg → (Fl → Rho → Sg → Prop) → Prop := fun t ρ σ K => exs (fun s ρ σ K => ex tab (CALL d) [] 19 s ρ σ K) bs (pt ρ 40 (.t t)) σ K
noncomputable def R0 (s rw nm : Nat)  : Rho := [(81, .t (.own s)), (41, .t (.own rw)), (37, .t (.own nm))]
noncomputable def R1 (s rw nm : Nat) (a b c : T) : Rho := [(81, .t (.own s)), (41, .t (.own rw)), (37, .t (.own nm)), (40, .t a), (57, .t b), (14, .t c)]
noncomputable def R2 (s rw nm : Nat) (a b c e : T) : Rho := [(81, .t (.own s)), (41, .t (.own rw)), (37, .t (.own nm)), (40, .t a), (57, .t b), (14, .t c), (11, .t e)]
abbrev Fm (s rw nm : Nat) (ρ : Rho) : Prop := (∃ a b c, ρ = R1 s rw nm a b c) ∨ (∃ a b c e, ρ = R2 s rw nm a b c e)
theorem seven {g : Int} (h0 : 0 ≤ g) (h1 : g < 7) : g = .ofNat 0 ∨ g = .ofNat 1 ∨ g = .ofNat 2 ∨ g = .ofNat 3 ∨ g = .ofNat 4 ∨ g = .ofNat 5 ∨ g = .ofNat 6 := by
  have : g = 0 ∨ g = 1 ∨ g = 2 ∨ g = 3 ∨ g = 4 ∨ g = 5 ∨ g = 6 := by lia
  exact this
theorem src_keep {i : Nat} {σ : Sg} {c : Cell} (h : SrcOk s σ) (hi : s ≠ i) : SrcOk s (σ.set i c) := by
  obtain ⟨a, b, q, r⟩ := h
  exact ⟨a, b, by rw [List.getElem?_set_ne (Ne.symm hi)]; exact q, r⟩
theorem set_self {i : Nat} {σ : Sg} {c c' : Cell} (h : σ[i]? = some c) : (σ.set i c')[i]? = some c' := List.getElem?_set_self (List.getElem?_eq_some_iff.mp h).1
theorem set_ne {i j : Nat} {σ : Sg} {c c' : Cell} (h : σ[j]? = some c) (hi : i ≠ j) : (σ.set i c')[j]? = some c := by rw [List.getElem?_set_ne hi]; exact h
section
variable {nm rw : Nat} {names : List Nat} {rs : List Rw} {K : Fl → Rho → Sg → Prop}
structure Turn (s rw nm : Nat) (rs : List Rw) (names : List Nat) (K : Fl → Rho → Sg → Prop) : Prop where
  run : ∀ (row : Rw) (names' : List Nat) (ρ' : Rho) (σ' : Sg) (fl : Fl), (fl = .next ∨ fl = .cont) → Fm s rw nm ρ' → (∀ rest t, Wf rest names' t → Wf (row :: rest) names t) → names'.length ≤ names.length + 1 → SrcOk s σ' → σ'[rw]? = some (.lst (rs.map Rw.t ++ [row.t])) → σ'[nm]? = some (.lst (names'.map .sym)) → K fl ρ' σ'
theorem fin1 {ρ' : Rho} {fl : Fl} {row : Rw} {σ : Sg} (h1 : s ≠ rw) (h3 : rw ≠ nm) (kk : Turn s rw nm rs names K) (hf : fl = .next ∨ fl = .cont) (hm : Fm s rw nm ρ') (hw : ∀ rest t, Wf rest names t → Wf (row :: rest) names t) (hs : SrcOk s σ) (hr : σ[rw]? = some (.lst (rs.map Rw.t))) (hn : σ[nm]? = some (.lst (names.map .sym))) :
    K fl ρ' (σ.set rw (.lst (rs.map Rw.t ++ [row.t]))) := kk.run row names ρ' _ fl hf hm hw (Nat.le_succ _) (src_keep hs h1) (set_self hr) (set_ne hn h3)
theorem fin2 {ρ' : Rho} {row : Rw} {σ : Sg} {x : Nat} (h1 : s ≠ rw) (h2 : s ≠ nm) (h3 : rw ≠ nm) (kk : Turn s rw nm rs names K) (hm : Fm s rw nm ρ') (hw : ∀ rest t, Wf rest (names ++ [x]) t → Wf (row :: rest) names t) (hs : SrcOk s σ) (hr : σ[rw]? = some (.lst (rs.map Rw.t))) (hn : σ[nm]? = some (.lst (names.map .sym))) :
    K .next ρ' ((σ.set rw (.lst (rs.map Rw.t ++ [row.t]))).set nm (.lst (names.map .sym ++ [.sym x]))) :=
  kk.run row (names ++ [x]) ρ' _ .next (.inl rfl) hm hw (by simp) (src_keep (src_keep hs h1) h2) (set_ne (set_self hr) (Ne.symm h3)) (by rw [set_self (set_ne hn h3), List.map_append]; rfl)
theorem turn0_R0 (h : 2 ≤ N) (h1 : s ≠ rw) (h2 : s ≠ nm) (h3 : rw ≠ nm) (hs : SrcOk s σ) (hr : σ[rw]? = some (.lst (rs.map Rw.t))) (hn : σ[nm]? = some (.lst (names.map .sym))) (hl : names.length ≤ 3) (hrl : rs.length < 100) (kk : Turn s rw nm rs names K) :
    bodyR (d + N) stB (.int (Int.ofNat 0)) (R0 s rw nm) σ K := by
  have D : ∀ {t : Int}, 0 < t → t < 10 → GivesD s N t := fun h1 h2 => (dig h1 h2).up (by lia)
  have hX : isX 149 := ⟨by decide, by decide⟩
  have TL : ∀ (σ : Sg) (K : T → Sg → Prop), SrcOk s σ → σ[nm]? = some (.lst (names.map .sym)) → (∀ (u : Tld) σ', WfT names u → SrcOk s σ' → Keeps s σ σ' → K u.t σ') → CALL (d + N) (.glob 26) [.own s, .own nm, .bool false] σ K := fun σ K a b k => by
    obtain ⟨M, rfl⟩ : ∃ M, N = M + 1 := ⟨N - 1, by lia⟩
    exact told_ (d := d) (N := M) (by lia) (Ne.symm h2) a b hl k
  have TP : ∀ (σ : Sg) (K : T → Sg → Prop), SrcOk s σ → (∀ (l : List (Int × Int)) σ', l.length ≤ 2 → SrcOk s σ' → Keeps s σ σ' → K (prL l) σ') → CALL (d + N) (.glob 26) [.own s, .own nm, .bool true] σ K := fun σ K a k => by
    obtain ⟨M, rfl⟩ : ∃ M, N = M + 1 := ⟨N - 1, by lia⟩
    exact told_prs (d := d) (N := M) (by lia) a k
  have lr : (rs.map Rw.t).length < 1000000 := by rw [List.length_map]; lia
  have ln : (names.map T.sym).length < 1000000 := by rw [List.length_map]; lia
  walk_at "go"
  refine (D (t := 7) (by decide) (by decide)).run d σ _ hs fun g σ1 g0 g1 s1 k1 => ?_
  have hr1 := k1 rw _ (Ne.symm h1) hr
  have hn1 := k1 nm _ (Ne.symm h2) hn
  rcases seven g0 g1 with rfl | rfl | rfl | rfl | rfl | rfl | rfl
  · walk_at "go"
    rw [hr1]
    walk_at "go"
    refine (D (t := 5) (by decide) (by decide)).run d σ1 _ s1 fun v σ2 _ _ s2 k2 => ?_
    have hr2 := k2 rw _ (Ne.symm h1) hr1
    have hn2 := k2 nm _ (Ne.symm h2) hn1
    walk_at "go"
    rw [hr2]
    conv => whnf
    refine ⟨lr, ?_⟩
    walk_at "go"
    rw [set_ne hn2 h3]
    walk_at "go"
    rw [set_ne hn2 h3]
    conv => whnf
    refine ⟨ln, ?_⟩
    walk_at "go"
    exact fin2 (row := .letR 149 v) h1 h2 h3 kk (.inl ⟨_, _, _, rfl⟩) (fun _ _ w => ⟨hX, w⟩) s2 hr2 hn2
  · walk_at "go"
    rw [hr1]
    walk_at "go"
    refine TL σ1 _ s1 hn1 fun u σ2 wu s2 k2 => ?_
    have hr2 := k2 rw _ (Ne.symm h1) hr1
    have hn2 := k2 nm _ (Ne.symm h2) hn1
    walk_at "go"
    rw [hr2]
    conv => whnf
    refine ⟨lr, ?_⟩
    walk_at "go"
    exact fin1 (row := .say u) h1 h3 kk (.inr rfl) (.inl ⟨_, _, _, rfl⟩) (fun _ _ w => ⟨wu, w⟩) s2 hr2 hn2
  · walk_at "go"
    refine TP σ1 _ s1 fun l σ2 wl s2 k2 => ?_
    have hr2 := k2 rw _ (Ne.symm h1) hr1
    have hn2 := k2 nm _ (Ne.symm h2) hn1
    walk_at "go"
    rw [hr2]
    walk_at "go"
    rw [hr2]
    conv => whnf
    refine ⟨lr, ?_⟩
    walk_at "go"
    rw [set_ne hn2 h3]
    walk_at "go"
    rw [set_ne hn2 h3]
    conv => whnf
    refine ⟨ln, ?_⟩
    walk_at "go"
    exact fin2 (row := .pair 149 false l) h1 h2 h3 kk (.inr ⟨_, _, _, _, rfl⟩) (fun _ _ w => ⟨hX, wl, w⟩) s2 hr2 hn2
  · walk_at "go"
    refine TP σ1 _ s1 fun l σ2 wl s2 k2 => ?_
    have hr2 := k2 rw _ (Ne.symm h1) hr1
    have hn2 := k2 nm _ (Ne.symm h2) hn1
    walk_at "go"
    rw [hr2]
    walk_at "go"
    rw [hr2]
    conv => whnf
    refine ⟨lr, ?_⟩
    walk_at "go"
    rw [set_ne hn2 h3]
    walk_at "go"
    rw [set_ne hn2 h3]
    conv => whnf
    refine ⟨ln, ?_⟩
    walk_at "go"
    exact fin2 (row := .pair 149 true l) h1 h2 h3 kk (.inr ⟨_, _, _, _, rfl⟩) (fun _ _ w => ⟨hX, wl, w⟩) s2 hr2 hn2
  · walk_at "go"
    refine TL σ1 _ s1 hn1 fun u σ2 wu s2 k2 => ?_
    have hr2 := k2 rw _ (Ne.symm h1) hr1
    have hn2 := k2 nm _ (Ne.symm h2) hn1
    walk_at "go"
    rw [hr2]
    walk_at "go"
    rw [hr2]
    conv => whnf
    refine ⟨lr, ?_⟩
    walk_at "go"
    rw [set_ne hn2 h3]
    walk_at "go"
    rw [set_ne hn2 h3]
    conv => whnf
    refine ⟨ln, ?_⟩
    walk_at "go"
    exact fin2 (row := .var 149 u) h1 h2 h3 kk (.inr ⟨_, _, _, _, rfl⟩) (fun _ _ w => ⟨hX, wu, w⟩) s2 hr2 hn2
  · walk_at "go"
    refine TL σ1 _ s1 hn1 fun u σ2 wu s2 k2 => ?_
    have hr2 := k2 rw _ (Ne.symm h1) hr1
    have hn2 := k2 nm _ (Ne.symm h2) hn1
    walk_at "go"
    rw [hr2]
    walk_at "go"
    rw [hr2]
    conv => whnf
    refine ⟨lr, ?_⟩
    walk_at "go"
    exact fin1 (row := .lit u) h1 h3 kk (.inr rfl) (.inr ⟨_, _, _, _, rfl⟩) (fun _ _ w => ⟨wu, w⟩) s2 hr2 hn2
  · walk_at "go"
    refine TL σ1 _ s1 hn1 fun u σ2 wu s2 k2 => ?_
    have hr2 := k2 rw _ (Ne.symm h1) hr1
    have hn2 := k2 nm _ (Ne.symm h2) hn1
    walk_at "go"
    rw [hr2]
    walk_at "go"
    rw [hr2]
    conv => whnf
    refine ⟨lr, ?_⟩
    walk_at "go"
    exact fin1 (row := .any u) h1 h3 kk (.inr rfl) (.inr ⟨_, _, _, _, rfl⟩) (fun _ _ w => ⟨wu, w⟩) s2 hr2 hn2
theorem turn1_R1 {a b c : T} (h : 2 ≤ N) (h1 : s ≠ rw) (h2 : s ≠ nm) (h3 : rw ≠ nm) (hs : SrcOk s σ) (hr : σ[rw]? = some (.lst (rs.map Rw.t))) (hn : σ[nm]? = some (.lst (names.map .sym))) (hl : names.length ≤ 3) (hrl : rs.length < 100) (kk : Turn s rw nm rs names K) :
    bodyR (d + N) stB (.int (Int.ofNat 1)) (R1 s rw nm a b c) σ K := by
  have D : ∀ {t : Int}, 0 < t → t < 10 → GivesD s N t := fun h1 h2 => (dig h1 h2).up (by lia)
  have hX : isX 151 := ⟨by decide, by decide⟩
  have TL : ∀ (σ : Sg) (K : T → Sg → Prop), SrcOk s σ → σ[nm]? = some (.lst (names.map .sym)) → (∀ (u : Tld) σ', WfT names u → SrcOk s σ' → Keeps s σ σ' → K u.t σ') → CALL (d + N) (.glob 26) [.own s, .own nm, .bool false] σ K := fun σ K a b k => by
    obtain ⟨M, rfl⟩ : ∃ M, N = M + 1 := ⟨N - 1, by lia⟩
    exact told_ (d := d) (N := M) (by lia) (Ne.symm h2) a b hl k
  have TP : ∀ (σ : Sg) (K : T → Sg → Prop), SrcOk s σ → (∀ (l : List (Int × Int)) σ', l.length ≤ 2 → SrcOk s σ' → Keeps s σ σ' → K (prL l) σ') → CALL (d + N) (.glob 26) [.own s, .own nm, .bool true] σ K := fun σ K a k => by
    obtain ⟨M, rfl⟩ : ∃ M, N = M + 1 := ⟨N - 1, by lia⟩
    exact told_prs (d := d) (N := M) (by lia) a k
  have lr : (rs.map Rw.t).length < 1000000 := by rw [List.length_map]; lia
  have ln : (names.map T.sym).length < 1000000 := by rw [List.length_map]; lia
  walk_at "go"
  refine (D (t := 7) (by decide) (by decide)).run d σ _ hs fun g σ1 g0 g1 s1 k1 => ?_
  have hr1 := k1 rw _ (Ne.symm h1) hr
  have hn1 := k1 nm _ (Ne.symm h2) hn
  rcases seven g0 g1 with rfl | rfl | rfl | rfl | rfl | rfl | rfl
  · walk_at "go"
    rw [hr1]
    walk_at "go"
    refine (D (t := 5) (by decide) (by decide)).run d σ1 _ s1 fun v σ2 _ _ s2 k2 => ?_
    have hr2 := k2 rw _ (Ne.symm h1) hr1
    have hn2 := k2 nm _ (Ne.symm h2) hn1
    walk_at "go"
    rw [hr2]
    conv => whnf
    refine ⟨lr, ?_⟩
    walk_at "go"
    rw [set_ne hn2 h3]
    walk_at "go"
    rw [set_ne hn2 h3]
    conv => whnf
    refine ⟨ln, ?_⟩
    walk_at "go"
    exact fin2 (row := .letR 151 v) h1 h2 h3 kk (.inl ⟨_, _, _, rfl⟩) (fun _ _ w => ⟨hX, w⟩) s2 hr2 hn2
  · walk_at "go"
    rw [hr1]
    walk_at "go"
    refine TL σ1 _ s1 hn1 fun u σ2 wu s2 k2 => ?_
    have hr2 := k2 rw _ (Ne.symm h1) hr1
    have hn2 := k2 nm _ (Ne.symm h2) hn1
    walk_at "go"
    rw [hr2]
    conv => whnf
    refine ⟨lr, ?_⟩
    walk_at "go"
    exact fin1 (row := .say u) h1 h3 kk (.inr rfl) (.inl ⟨_, _, _, rfl⟩) (fun _ _ w => ⟨wu, w⟩) s2 hr2 hn2
  · walk_at "go"
    refine TP σ1 _ s1 fun l σ2 wl s2 k2 => ?_
    have hr2 := k2 rw _ (Ne.symm h1) hr1
    have hn2 := k2 nm _ (Ne.symm h2) hn1
    walk_at "go"
    rw [hr2]
    walk_at "go"
    rw [hr2]
    conv => whnf
    refine ⟨lr, ?_⟩
    walk_at "go"
    rw [set_ne hn2 h3]
    walk_at "go"
    rw [set_ne hn2 h3]
    conv => whnf
    refine ⟨ln, ?_⟩
    walk_at "go"
    exact fin2 (row := .pair 151 false l) h1 h2 h3 kk (.inr ⟨_, _, _, _, rfl⟩) (fun _ _ w => ⟨hX, wl, w⟩) s2 hr2 hn2
  · walk_at "go"
    refine TP σ1 _ s1 fun l σ2 wl s2 k2 => ?_
    have hr2 := k2 rw _ (Ne.symm h1) hr1
    have hn2 := k2 nm _ (Ne.symm h2) hn1
    walk_at "go"
    rw [hr2]
    walk_at "go"
    rw [hr2]
    conv => whnf
    refine ⟨lr, ?_⟩
    walk_at "go"
    rw [set_ne hn2 h3]
    walk_at "go"
    rw [set_ne hn2 h3]
    conv => whnf
    refine ⟨ln, ?_⟩
    walk_at "go"
    exact fin2 (row := .pair 151 true l) h1 h2 h3 kk (.inr ⟨_, _, _, _, rfl⟩) (fun _ _ w => ⟨hX, wl, w⟩) s2 hr2 hn2
  · walk_at "go"
    refine TL σ1 _ s1 hn1 fun u σ2 wu s2 k2 => ?_
    have hr2 := k2 rw _ (Ne.symm h1) hr1
    have hn2 := k2 nm _ (Ne.symm h2) hn1
    walk_at "go"
    rw [hr2]
    walk_at "go"
    rw [hr2]
    conv => whnf
    refine ⟨lr, ?_⟩
    walk_at "go"
    rw [set_ne hn2 h3]
    walk_at "go"
    rw [set_ne hn2 h3]
    conv => whnf
    refine ⟨ln, ?_⟩
    walk_at "go"
    exact fin2 (row := .var 151 u) h1 h2 h3 kk (.inr ⟨_, _, _, _, rfl⟩) (fun _ _ w => ⟨hX, wu, w⟩) s2 hr2 hn2
  · walk_at "go"
    refine TL σ1 _ s1 hn1 fun u σ2 wu s2 k2 => ?_
    have hr2 := k2 rw _ (Ne.symm h1) hr1
    have hn2 := k2 nm _ (Ne.symm h2) hn1
    walk_at "go"
    rw [hr2]
    walk_at "go"
    rw [hr2]
    conv => whnf
    refine ⟨lr, ?_⟩
    walk_at "go"
    exact fin1 (row := .lit u) h1 h3 kk (.inr rfl) (.inr ⟨_, _, _, _, rfl⟩) (fun _ _ w => ⟨wu, w⟩) s2 hr2 hn2
  · walk_at "go"
    refine TL σ1 _ s1 hn1 fun u σ2 wu s2 k2 => ?_
    have hr2 := k2 rw _ (Ne.symm h1) hr1
    have hn2 := k2 nm _ (Ne.symm h2) hn1
    walk_at "go"
    rw [hr2]
    walk_at "go"
    rw [hr2]
    conv => whnf
    refine ⟨lr, ?_⟩
    walk_at "go"
    exact fin1 (row := .any u) h1 h3 kk (.inr rfl) (.inr ⟨_, _, _, _, rfl⟩) (fun _ _ w => ⟨wu, w⟩) s2 hr2 hn2
theorem turn1_R2 {a b c e : T} (h : 2 ≤ N) (h1 : s ≠ rw) (h2 : s ≠ nm) (h3 : rw ≠ nm) (hs : SrcOk s σ) (hr : σ[rw]? = some (.lst (rs.map Rw.t))) (hn : σ[nm]? = some (.lst (names.map .sym))) (hl : names.length ≤ 3) (hrl : rs.length < 100) (kk : Turn s rw nm rs names K) :
    bodyR (d + N) stB (.int (Int.ofNat 1)) (R2 s rw nm a b c e) σ K := by
  have D : ∀ {t : Int}, 0 < t → t < 10 → GivesD s N t := fun h1 h2 => (dig h1 h2).up (by lia)
  have hX : isX 151 := ⟨by decide, by decide⟩
  have TL : ∀ (σ : Sg) (K : T → Sg → Prop), SrcOk s σ → σ[nm]? = some (.lst (names.map .sym)) → (∀ (u : Tld) σ', WfT names u → SrcOk s σ' → Keeps s σ σ' → K u.t σ') → CALL (d + N) (.glob 26) [.own s, .own nm, .bool false] σ K := fun σ K a b k => by
    obtain ⟨M, rfl⟩ : ∃ M, N = M + 1 := ⟨N - 1, by lia⟩
    exact told_ (d := d) (N := M) (by lia) (Ne.symm h2) a b hl k
  have TP : ∀ (σ : Sg) (K : T → Sg → Prop), SrcOk s σ → (∀ (l : List (Int × Int)) σ', l.length ≤ 2 → SrcOk s σ' → Keeps s σ σ' → K (prL l) σ') → CALL (d + N) (.glob 26) [.own s, .own nm, .bool true] σ K := fun σ K a k => by
    obtain ⟨M, rfl⟩ : ∃ M, N = M + 1 := ⟨N - 1, by lia⟩
    exact told_prs (d := d) (N := M) (by lia) a k
  have lr : (rs.map Rw.t).length < 1000000 := by rw [List.length_map]; lia
  have ln : (names.map T.sym).length < 1000000 := by rw [List.length_map]; lia
  walk_at "go"
  refine (D (t := 7) (by decide) (by decide)).run d σ _ hs fun g σ1 g0 g1 s1 k1 => ?_
  have hr1 := k1 rw _ (Ne.symm h1) hr
  have hn1 := k1 nm _ (Ne.symm h2) hn
  rcases seven g0 g1 with rfl | rfl | rfl | rfl | rfl | rfl | rfl
  · walk_at "go"
    rw [hr1]
    walk_at "go"
    refine (D (t := 5) (by decide) (by decide)).run d σ1 _ s1 fun v σ2 _ _ s2 k2 => ?_
    have hr2 := k2 rw _ (Ne.symm h1) hr1
    have hn2 := k2 nm _ (Ne.symm h2) hn1
    walk_at "go"
    rw [hr2]
    conv => whnf
    refine ⟨lr, ?_⟩
    walk_at "go"
    rw [set_ne hn2 h3]
    walk_at "go"
    rw [set_ne hn2 h3]
    conv => whnf
    refine ⟨ln, ?_⟩
    walk_at "go"
    exact fin2 (row := .letR 151 v) h1 h2 h3 kk (.inr ⟨_, _, _, _, rfl⟩) (fun _ _ w => ⟨hX, w⟩) s2 hr2 hn2
  · walk_at "go"
    rw [hr1]
    walk_at "go"
    refine TL σ1 _ s1 hn1 fun u σ2 wu s2 k2 => ?_
    have hr2 := k2 rw _ (Ne.symm h1) hr1
    have hn2 := k2 nm _ (Ne.symm h2) hn1
    walk_at "go"
    rw [hr2]
    conv => whnf
    refine ⟨lr, ?_⟩
    walk_at "go"
    exact fin1 (row := .say u) h1 h3 kk (.inr rfl) (.inr ⟨_, _, _, _, rfl⟩) (fun _ _ w => ⟨wu, w⟩) s2 hr2 hn2
  · walk_at "go"
    refine TP σ1 _ s1 fun l σ2 wl s2 k2 => ?_
    have hr2 := k2 rw _ (Ne.symm h1) hr1
    have hn2 := k2 nm _ (Ne.symm h2) hn1
    walk_at "go"
    rw [hr2]
    walk_at "go"
    rw [hr2]
    conv => whnf
    refine ⟨lr, ?_⟩
    walk_at "go"
    rw [set_ne hn2 h3]
    walk_at "go"
    rw [set_ne hn2 h3]
    conv => whnf
    refine ⟨ln, ?_⟩
    walk_at "go"
    exact fin2 (row := .pair 151 false l) h1 h2 h3 kk (.inr ⟨_, _, _, _, rfl⟩) (fun _ _ w => ⟨hX, wl, w⟩) s2 hr2 hn2
  · walk_at "go"
    refine TP σ1 _ s1 fun l σ2 wl s2 k2 => ?_
    have hr2 := k2 rw _ (Ne.symm h1) hr1
    have hn2 := k2 nm _ (Ne.symm h2) hn1
    walk_at "go"
    rw [hr2]
    walk_at "go"
    rw [hr2]
    conv => whnf
    refine ⟨lr, ?_⟩
    walk_at "go"
    rw [set_ne hn2 h3]
    walk_at "go"
    rw [set_ne hn2 h3]
    conv => whnf
    refine ⟨ln, ?_⟩
    walk_at "go"
    exact fin2 (row := .pair 151 true l) h1 h2 h3 kk (.inr ⟨_, _, _, _, rfl⟩) (fun _ _ w => ⟨hX, wl, w⟩) s2 hr2 hn2
  · walk_at "go"
    refine TL σ1 _ s1 hn1 fun u σ2 wu s2 k2 => ?_
    have hr2 := k2 rw _ (Ne.symm h1) hr1
    have hn2 := k2 nm _ (Ne.symm h2) hn1
    walk_at "go"
    rw [hr2]
    walk_at "go"
    rw [hr2]
    conv => whnf
    refine ⟨lr, ?_⟩
    walk_at "go"
    rw [set_ne hn2 h3]
    walk_at "go"
    rw [set_ne hn2 h3]
    conv => whnf
    refine ⟨ln, ?_⟩
    walk_at "go"
    exact fin2 (row := .var 151 u) h1 h2 h3 kk (.inr ⟨_, _, _, _, rfl⟩) (fun _ _ w => ⟨hX, wu, w⟩) s2 hr2 hn2
  · walk_at "go"
    refine TL σ1 _ s1 hn1 fun u σ2 wu s2 k2 => ?_
    have hr2 := k2 rw _ (Ne.symm h1) hr1
    have hn2 := k2 nm _ (Ne.symm h2) hn1
    walk_at "go"
    rw [hr2]
    walk_at "go"
    rw [hr2]
    conv => whnf
    refine ⟨lr, ?_⟩
    walk_at "go"
    exact fin1 (row := .lit u) h1 h3 kk (.inr rfl) (.inr ⟨_, _, _, _, rfl⟩) (fun _ _ w => ⟨wu, w⟩) s2 hr2 hn2
  · walk_at "go"
    refine TL σ1 _ s1 hn1 fun u σ2 wu s2 k2 => ?_
    have hr2 := k2 rw _ (Ne.symm h1) hr1
    have hn2 := k2 nm _ (Ne.symm h2) hn1
    walk_at "go"
    rw [hr2]
    walk_at "go"
    rw [hr2]
    conv => whnf
    refine ⟨lr, ?_⟩
    walk_at "go"
    exact fin1 (row := .any u) h1 h3 kk (.inr rfl) (.inr ⟨_, _, _, _, rfl⟩) (fun _ _ w => ⟨wu, w⟩) s2 hr2 hn2
theorem turn2_R1 {a b c : T} (h : 2 ≤ N) (h1 : s ≠ rw) (h2 : s ≠ nm) (h3 : rw ≠ nm) (hs : SrcOk s σ) (hr : σ[rw]? = some (.lst (rs.map Rw.t))) (hn : σ[nm]? = some (.lst (names.map .sym))) (hl : names.length ≤ 3) (hrl : rs.length < 100) (kk : Turn s rw nm rs names K) :
    bodyR (d + N) stB (.int (Int.ofNat 2)) (R1 s rw nm a b c) σ K := by
  have D : ∀ {t : Int}, 0 < t → t < 10 → GivesD s N t := fun h1 h2 => (dig h1 h2).up (by lia)
  have hX : isX 153 := ⟨by decide, by decide⟩
  have TL : ∀ (σ : Sg) (K : T → Sg → Prop), SrcOk s σ → σ[nm]? = some (.lst (names.map .sym)) → (∀ (u : Tld) σ', WfT names u → SrcOk s σ' → Keeps s σ σ' → K u.t σ') → CALL (d + N) (.glob 26) [.own s, .own nm, .bool false] σ K := fun σ K a b k => by
    obtain ⟨M, rfl⟩ : ∃ M, N = M + 1 := ⟨N - 1, by lia⟩
    exact told_ (d := d) (N := M) (by lia) (Ne.symm h2) a b hl k
  have TP : ∀ (σ : Sg) (K : T → Sg → Prop), SrcOk s σ → (∀ (l : List (Int × Int)) σ', l.length ≤ 2 → SrcOk s σ' → Keeps s σ σ' → K (prL l) σ') → CALL (d + N) (.glob 26) [.own s, .own nm, .bool true] σ K := fun σ K a k => by
    obtain ⟨M, rfl⟩ : ∃ M, N = M + 1 := ⟨N - 1, by lia⟩
    exact told_prs (d := d) (N := M) (by lia) a k
  have lr : (rs.map Rw.t).length < 1000000 := by rw [List.length_map]; lia
  have ln : (names.map T.sym).length < 1000000 := by rw [List.length_map]; lia
  walk_at "go"
  refine (D (t := 7) (by decide) (by decide)).run d σ _ hs fun g σ1 g0 g1 s1 k1 => ?_
  have hr1 := k1 rw _ (Ne.symm h1) hr
  have hn1 := k1 nm _ (Ne.symm h2) hn
  rcases seven g0 g1 with rfl | rfl | rfl | rfl | rfl | rfl | rfl
  · walk_at "go"
    rw [hr1]
    walk_at "go"
    refine (D (t := 5) (by decide) (by decide)).run d σ1 _ s1 fun v σ2 _ _ s2 k2 => ?_
    have hr2 := k2 rw _ (Ne.symm h1) hr1
    have hn2 := k2 nm _ (Ne.symm h2) hn1
    walk_at "go"
    rw [hr2]
    conv => whnf
    refine ⟨lr, ?_⟩
    walk_at "go"
    rw [set_ne hn2 h3]
    walk_at "go"
    rw [set_ne hn2 h3]
    conv => whnf
    refine ⟨ln, ?_⟩
    walk_at "go"
    exact fin2 (row := .letR 153 v) h1 h2 h3 kk (.inl ⟨_, _, _, rfl⟩) (fun _ _ w => ⟨hX, w⟩) s2 hr2 hn2
  · walk_at "go"
    rw [hr1]
    walk_at "go"
    refine TL σ1 _ s1 hn1 fun u σ2 wu s2 k2 => ?_
    have hr2 := k2 rw _ (Ne.symm h1) hr1
    have hn2 := k2 nm _ (Ne.symm h2) hn1
    walk_at "go"
    rw [hr2]
    conv => whnf
    refine ⟨lr, ?_⟩
    walk_at "go"
    exact fin1 (row := .say u) h1 h3 kk (.inr rfl) (.inl ⟨_, _, _, rfl⟩) (fun _ _ w => ⟨wu, w⟩) s2 hr2 hn2
  · walk_at "go"
    refine TP σ1 _ s1 fun l σ2 wl s2 k2 => ?_
    have hr2 := k2 rw _ (Ne.symm h1) hr1
    have hn2 := k2 nm _ (Ne.symm h2) hn1
    walk_at "go"
    rw [hr2]
    walk_at "go"
    rw [hr2]
    conv => whnf
    refine ⟨lr, ?_⟩
    walk_at "go"
    rw [set_ne hn2 h3]
    walk_at "go"
    rw [set_ne hn2 h3]
    conv => whnf
    refine ⟨ln, ?_⟩
    walk_at "go"
    exact fin2 (row := .pair 153 false l) h1 h2 h3 kk (.inr ⟨_, _, _, _, rfl⟩) (fun _ _ w => ⟨hX, wl, w⟩) s2 hr2 hn2
  · walk_at "go"
    refine TP σ1 _ s1 fun l σ2 wl s2 k2 => ?_
    have hr2 := k2 rw _ (Ne.symm h1) hr1
    have hn2 := k2 nm _ (Ne.symm h2) hn1
    walk_at "go"
    rw [hr2]
    walk_at "go"
    rw [hr2]
    conv => whnf
    refine ⟨lr, ?_⟩
    walk_at "go"
    rw [set_ne hn2 h3]
    walk_at "go"
    rw [set_ne hn2 h3]
    conv => whnf
    refine ⟨ln, ?_⟩
    walk_at "go"
    exact fin2 (row := .pair 153 true l) h1 h2 h3 kk (.inr ⟨_, _, _, _, rfl⟩) (fun _ _ w => ⟨hX, wl, w⟩) s2 hr2 hn2
  · walk_at "go"
    refine TL σ1 _ s1 hn1 fun u σ2 wu s2 k2 => ?_
    have hr2 := k2 rw _ (Ne.symm h1) hr1
    have hn2 := k2 nm _ (Ne.symm h2) hn1
    walk_at "go"
    rw [hr2]
    walk_at "go"
    rw [hr2]
    conv => whnf
    refine ⟨lr, ?_⟩
    walk_at "go"
    rw [set_ne hn2 h3]
    walk_at "go"
    rw [set_ne hn2 h3]
    conv => whnf
    refine ⟨ln, ?_⟩
    walk_at "go"
    exact fin2 (row := .var 153 u) h1 h2 h3 kk (.inr ⟨_, _, _, _, rfl⟩) (fun _ _ w => ⟨hX, wu, w⟩) s2 hr2 hn2
  · walk_at "go"
    refine TL σ1 _ s1 hn1 fun u σ2 wu s2 k2 => ?_
    have hr2 := k2 rw _ (Ne.symm h1) hr1
    have hn2 := k2 nm _ (Ne.symm h2) hn1
    walk_at "go"
    rw [hr2]
    walk_at "go"
    rw [hr2]
    conv => whnf
    refine ⟨lr, ?_⟩
    walk_at "go"
    exact fin1 (row := .lit u) h1 h3 kk (.inr rfl) (.inr ⟨_, _, _, _, rfl⟩) (fun _ _ w => ⟨wu, w⟩) s2 hr2 hn2
  · walk_at "go"
    refine TL σ1 _ s1 hn1 fun u σ2 wu s2 k2 => ?_
    have hr2 := k2 rw _ (Ne.symm h1) hr1
    have hn2 := k2 nm _ (Ne.symm h2) hn1
    walk_at "go"
    rw [hr2]
    walk_at "go"
    rw [hr2]
    conv => whnf
    refine ⟨lr, ?_⟩
    walk_at "go"
    exact fin1 (row := .any u) h1 h3 kk (.inr rfl) (.inr ⟨_, _, _, _, rfl⟩) (fun _ _ w => ⟨wu, w⟩) s2 hr2 hn2
theorem turn2_R2 {a b c e : T} (h : 2 ≤ N) (h1 : s ≠ rw) (h2 : s ≠ nm) (h3 : rw ≠ nm) (hs : SrcOk s σ) (hr : σ[rw]? = some (.lst (rs.map Rw.t))) (hn : σ[nm]? = some (.lst (names.map .sym))) (hl : names.length ≤ 3) (hrl : rs.length < 100) (kk : Turn s rw nm rs names K) :
    bodyR (d + N) stB (.int (Int.ofNat 2)) (R2 s rw nm a b c e) σ K := by
  have D : ∀ {t : Int}, 0 < t → t < 10 → GivesD s N t := fun h1 h2 => (dig h1 h2).up (by lia)
  have hX : isX 153 := ⟨by decide, by decide⟩
  have TL : ∀ (σ : Sg) (K : T → Sg → Prop), SrcOk s σ → σ[nm]? = some (.lst (names.map .sym)) → (∀ (u : Tld) σ', WfT names u → SrcOk s σ' → Keeps s σ σ' → K u.t σ') → CALL (d + N) (.glob 26) [.own s, .own nm, .bool false] σ K := fun σ K a b k => by
    obtain ⟨M, rfl⟩ : ∃ M, N = M + 1 := ⟨N - 1, by lia⟩
    exact told_ (d := d) (N := M) (by lia) (Ne.symm h2) a b hl k
  have TP : ∀ (σ : Sg) (K : T → Sg → Prop), SrcOk s σ → (∀ (l : List (Int × Int)) σ', l.length ≤ 2 → SrcOk s σ' → Keeps s σ σ' → K (prL l) σ') → CALL (d + N) (.glob 26) [.own s, .own nm, .bool true] σ K := fun σ K a k => by
    obtain ⟨M, rfl⟩ : ∃ M, N = M + 1 := ⟨N - 1, by lia⟩
    exact told_prs (d := d) (N := M) (by lia) a k
  have lr : (rs.map Rw.t).length < 1000000 := by rw [List.length_map]; lia
  have ln : (names.map T.sym).length < 1000000 := by rw [List.length_map]; lia
  walk_at "go"
  refine (D (t := 7) (by decide) (by decide)).run d σ _ hs fun g σ1 g0 g1 s1 k1 => ?_
  have hr1 := k1 rw _ (Ne.symm h1) hr
  have hn1 := k1 nm _ (Ne.symm h2) hn
  rcases seven g0 g1 with rfl | rfl | rfl | rfl | rfl | rfl | rfl
  · walk_at "go"
    rw [hr1]
    walk_at "go"
    refine (D (t := 5) (by decide) (by decide)).run d σ1 _ s1 fun v σ2 _ _ s2 k2 => ?_
    have hr2 := k2 rw _ (Ne.symm h1) hr1
    have hn2 := k2 nm _ (Ne.symm h2) hn1
    walk_at "go"
    rw [hr2]
    conv => whnf
    refine ⟨lr, ?_⟩
    walk_at "go"
    rw [set_ne hn2 h3]
    walk_at "go"
    rw [set_ne hn2 h3]
    conv => whnf
    refine ⟨ln, ?_⟩
    walk_at "go"
    exact fin2 (row := .letR 153 v) h1 h2 h3 kk (.inr ⟨_, _, _, _, rfl⟩) (fun _ _ w => ⟨hX, w⟩) s2 hr2 hn2
  · walk_at "go"
    rw [hr1]
    walk_at "go"
    refine TL σ1 _ s1 hn1 fun u σ2 wu s2 k2 => ?_
    have hr2 := k2 rw _ (Ne.symm h1) hr1
    have hn2 := k2 nm _ (Ne.symm h2) hn1
    walk_at "go"
    rw [hr2]
    conv => whnf
    refine ⟨lr, ?_⟩
    walk_at "go"
    exact fin1 (row := .say u) h1 h3 kk (.inr rfl) (.inr ⟨_, _, _, _, rfl⟩) (fun _ _ w => ⟨wu, w⟩) s2 hr2 hn2
  · walk_at "go"
    refine TP σ1 _ s1 fun l σ2 wl s2 k2 => ?_
    have hr2 := k2 rw _ (Ne.symm h1) hr1
    have hn2 := k2 nm _ (Ne.symm h2) hn1
    walk_at "go"
    rw [hr2]
    walk_at "go"
    rw [hr2]
    conv => whnf
    refine ⟨lr, ?_⟩
    walk_at "go"
    rw [set_ne hn2 h3]
    walk_at "go"
    rw [set_ne hn2 h3]
    conv => whnf
    refine ⟨ln, ?_⟩
    walk_at "go"
    exact fin2 (row := .pair 153 false l) h1 h2 h3 kk (.inr ⟨_, _, _, _, rfl⟩) (fun _ _ w => ⟨hX, wl, w⟩) s2 hr2 hn2
  · walk_at "go"
    refine TP σ1 _ s1 fun l σ2 wl s2 k2 => ?_
    have hr2 := k2 rw _ (Ne.symm h1) hr1
    have hn2 := k2 nm _ (Ne.symm h2) hn1
    walk_at "go"
    rw [hr2]
    walk_at "go"
    rw [hr2]
    conv => whnf
    refine ⟨lr, ?_⟩
    walk_at "go"
    rw [set_ne hn2 h3]
    walk_at "go"
    rw [set_ne hn2 h3]
    conv => whnf
    refine ⟨ln, ?_⟩
    walk_at "go"
    exact fin2 (row := .pair 153 true l) h1 h2 h3 kk (.inr ⟨_, _, _, _, rfl⟩) (fun _ _ w => ⟨hX, wl, w⟩) s2 hr2 hn2
  · walk_at "go"
    refine TL σ1 _ s1 hn1 fun u σ2 wu s2 k2 => ?_
    have hr2 := k2 rw _ (Ne.symm h1) hr1
    have hn2 := k2 nm _ (Ne.symm h2) hn1
    walk_at "go"
    rw [hr2]
    walk_at "go"
    rw [hr2]
    conv => whnf
    refine ⟨lr, ?_⟩
    walk_at "go"
    rw [set_ne hn2 h3]
    walk_at "go"
    rw [set_ne hn2 h3]
    conv => whnf
    refine ⟨ln, ?_⟩
    walk_at "go"
    exact fin2 (row := .var 153 u) h1 h2 h3 kk (.inr ⟨_, _, _, _, rfl⟩) (fun _ _ w => ⟨hX, wu, w⟩) s2 hr2 hn2
  · walk_at "go"
    refine TL σ1 _ s1 hn1 fun u σ2 wu s2 k2 => ?_
    have hr2 := k2 rw _ (Ne.symm h1) hr1
    have hn2 := k2 nm _ (Ne.symm h2) hn1
    walk_at "go"
    rw [hr2]
    walk_at "go"
    rw [hr2]
    conv => whnf
    refine ⟨lr, ?_⟩
    walk_at "go"
    exact fin1 (row := .lit u) h1 h3 kk (.inr rfl) (.inr ⟨_, _, _, _, rfl⟩) (fun _ _ w => ⟨wu, w⟩) s2 hr2 hn2
  · walk_at "go"
    refine TL σ1 _ s1 hn1 fun u σ2 wu s2 k2 => ?_
    have hr2 := k2 rw _ (Ne.symm h1) hr1
    have hn2 := k2 nm _ (Ne.symm h2) hn1
    walk_at "go"
    rw [hr2]
    walk_at "go"
    rw [hr2]
    conv => whnf
    refine ⟨lr, ?_⟩
    walk_at "go"
    exact fin1 (row := .any u) h1 h3 kk (.inr rfl) (.inr ⟨_, _, _, _, rfl⟩) (fun _ _ w => ⟨wu, w⟩) s2 hr2 hn2
end
end
section
variable {N : Nat} {d : Nat} {σ : Sg} {K : T → Sg → Prop} {v : T} {L : List T} {f m n z k k' s : Nat} {b : T}
abbrev Wfin (rs : List Rw) (names : List Nat) : Prop := ∀ rest t, Wf rest names t → Wf (rs ++ rest) [] t
theorem Wfin.step {rs : List Rw} {names names' : List Nat} {row : Rw} (h : Wfin rs names) (hw : ∀ rest t, Wf rest names' t → Wf (row :: rest) names t) : Wfin (rs ++ [row]) names' := fun rest t w => by
  rw [List.append_assoc]
  exact h _ _ (hw rest t w)
section
variable {nm rw : Nat} {K : Fl → Rho → Sg → Prop}
structure Last (s rw nm : Nat) (K : Fl → Rho → Sg → Prop) : Prop where
  run : ∀ (rs : List Rw) (names : List Nat) (ρ' : Rho) (σ' : Sg), Wfin rs names → rs.length ≤ 3 → names.length ≤ 3 → SrcOk s σ' → σ'[rw]? = some (.lst (rs.map Rw.t)) → σ'[nm]? = some (.lst (names.map .sym)) → (ρ' = R0 s rw nm ∨ Fm s rw nm ρ') → K .next ρ' σ'
theorem turnF {j : Nat} {ρ : Rho} {names : List Nat} {rs : List Rw} (hj : j = 1 ∨ j = 2) (h : 2 ≤ N) (h1 : s ≠ rw) (h2 : s ≠ nm) (h3 : rw ≠ nm) (hm : Fm s rw nm ρ) (hs : SrcOk s σ) (hr : σ[rw]? = some (.lst (rs.map Rw.t))) (hn : σ[nm]? = some (.lst (names.map .sym))) (hl : names.length ≤ 3) (hrl : rs.length < 100) (kk : Turn s rw nm rs names K) :
    bodyR (d + N) stB (.int (Int.ofNat j)) ρ σ K := by
  rcases hj with rfl | rfl
  · rcases hm with ⟨a, b, c, rfl⟩ | ⟨a, b, c, e, rfl⟩
    · exact turn1_R1 h h1 h2 h3 hs hr hn hl hrl kk
    · exact turn1_R2 h h1 h2 h3 hs hr hn hl hrl kk
  · rcases hm with ⟨a, b, c, rfl⟩ | ⟨a, b, c, e, rfl⟩
    · exact turn2_R1 h h1 h2 h3 hs hr hn hl hrl kk
    · exact turn2_R2 h h1 h2 h3 hs hr hn hl hrl kk
theorem loop_from (h : 2 ≤ N) (h1 : s ≠ rw) (h2 : s ≠ nm) (h3 : rw ≠ nm) (last : Last s rw nm K) : ∀ (js : List Nat) (rs : List Rw) (names : List Nat) (ρ : Rho) (σ : Sg), (∀ j ∈ js, j = 1 ∨ j = 2) → Fm s rw nm ρ → Wfin rs names → rs.length + js.length ≤ 3 → names.length + js.length ≤ 3 → SrcOk s σ → σ[rw]? = some (.lst (rs.map Rw.t)) → σ[nm]? = some (.lst (names.map .sym)) →
    forL (bodyR (d + N) stB) (js.map fun k => .int (Int.ofNat k)) ρ σ K
  | [], rs, names, ρ, σ, _, hm, hw, hrl, hl, hs, hr, hn => last.run rs names ρ σ hw hrl hl hs hr hn (.inr hm)
  | j :: js, rs, names, ρ, σ, hj, hm, hw, hrl, hl, hs, hr, hn => by
    simp only [List.length_cons] at hrl hl
    refine forL_cons (turnF (hj j (.head _)) h h1 h2 h3 hm hs hr hn (by lia) (by lia) ⟨fun row names' ρ' σ' fl hf hm' hw' hl' hs' hr' hn' => ?_⟩)
    have := loop_from h h1 h2 h3 last js (rs ++ [row]) names' ρ' σ' (fun i hi => hj i (.tail _ hi)) hm' (hw.step hw') (by simp; lia) (by lia) hs' (by rw [List.map_append]; exact hr') hn'
    rcases hf with rfl | rfl
    · exact this
    · exact this
theorem loop_all (h : 2 ≤ N) (h1 : s ≠ rw) (h2 : s ≠ nm) (h3 : rw ≠ nm) (last : Last s rw nm K) (hs : SrcOk s σ) (hr : σ[rw]? = some (.lst [])) (hn : σ[nm]? = some (.lst [])) : ∀ m, m < 4 → forL (bodyR (d + N) stB) ((List.range m).map fun k => .int (Int.ofNat k)) (R0 s rw nm) σ K := by
  have first : ∀ js : List Nat, (∀ j ∈ js, j = 1 ∨ j = 2) → js.length ≤ 2 → forL (bodyR (d + N) stB) ((0 :: js).map fun k => .int (Int.ofNat k)) (R0 s rw nm) σ K := fun js hj hl => by
    refine forL_cons (turn0_R0 (rs := []) (names := []) h h1 h2 h3 hs hr hn (by decide) (by decide) ⟨fun row names' ρ' σ' fl hf hm' hw' hl' hs' hr' hn' => ?_⟩)
    have := loop_from (d := d) h h1 h2 h3 last js [row] names' ρ' σ' hj hm' (fun rest t w => hw' rest t w) (by simp; lia) (by simp at hl'; lia) hs' hr' hn'
    rcases hf with rfl | rfl
    · exact this
    · exact this
  intro m hm
  match m, hm with
  | 0, _ => exact last.run [] [] _ _ (fun _ _ w => w) (by decide) (by decide) hs hr hn (.inl rfl)
  | 1, _ => exact first [] (fun _ h => nomatch h) (by decide)
  | 2, _ => exact first [1] (fun j hj => .inl (List.mem_singleton.mp hj)) (by decide)
  | 3, _ => exact first [1, 2] (fun j hj => by simp at hj; exact hj) (by decide)
end
end
section
variable {N : Nat} {d : Nat} {σ : Sg} {K : T → Sg → Prop} {v : T} {L : List T} {f m n z k k' s : Nat} {b : T}
theorem four {g : Int} (h0 : 0 ≤ g) (h1 : g < 4) : ∃ m : Nat, g = Int.ofNat m ∧ m < 4 := ⟨g.toNat, by show g = ((g.toNat : Nat) : Int); lia, by lia⟩
section
variable {nm rw : Nat}
abbrev stC (d : Nat) : List S → Rho → Sg → (Fl → Rho → Sg → Prop) → Prop := fun l ρ σ K => exs (exF d) l ρ σ K
noncomputable def stR : List S := match g_law_statements with
  | .fn f => f.body.drop 2
  | _ => []
theorem last_row {ρ : Rho} {rs : List Rw} {names : List Nat} (h : 2 ≤ N) (h1 : s ≠ rw) (h2 : s ≠ nm) (hm : ρ = R0 s rw nm ∨ Fm s rw nm ρ) (hw : Wfin rs names) (hl : names.length ≤ 3) (hrl : rs.length ≤ 3) (hs : SrcOk s σ) (hr : σ[rw]? = some (.lst (rs.map Rw.t))) (hn : σ[nm]? = some (.lst (names.map .sym)))
    (kk : ∀ (rs : List Rw) (t : Tld) σ', Wf rs [] t → rs.length ≤ 3 → σ'[rw]? = some (.lst (rowsT rs t)) → K (.own rw) σ') : stC (d + N) stR ρ σ (finK K) := by
  have TL : ∀ (σ : Sg) (K : T → Sg → Prop), SrcOk s σ → σ[nm]? = some (.lst (names.map .sym)) → (∀ (u : Tld) σ', WfT names u → SrcOk s σ' → Keeps s σ σ' → K u.t σ') → CALL (d + N) (.glob 26) [.own s, .own nm, .bool false] σ K := fun σ K a b k => by
    obtain ⟨M, rfl⟩ : ∃ M, N = M + 1 := ⟨N - 1, by lia⟩
    exact told_ (d := d) (N := M) (by lia) (Ne.symm h2) a b hl k
  have lr : (rs.map Rw.t).length < 1000000 := by rw [List.length_map]; lia
  have fin : ∀ (u : Tld) (σ' : Sg), WfT names u → σ'[rw]? = some (.lst (rs.map Rw.t)) → K (.own rw) (σ'.set rw (.lst (rs.map Rw.t ++ [.tup [.sym 111, u.t]]))) := fun u σ' wu hr' => by
    have := hw [] u wu
    rw [List.append_nil] at this
    exact kk rs u _ this hrl (set_self hr')
  rcases hm with rfl | ⟨a, b, c, rfl⟩ | ⟨a, b, c, e, rfl⟩
  all_goals
    walk_at "go"
    rw [hr]
    walk_at "go"
    refine TL σ _ hs hn fun u σ2 wu s2 k2 => ?_
    have hr2 := k2 rw _ (Ne.symm h1) hr
    walk_at "go"
    rw [hr2]
    conv => whnf
    refine ⟨lr, ?_⟩
    walk_at "go"
    exact fin u σ2 wu hr2
theorem statements_ (h : 2 ≤ N) (hs : SrcOk s σ) (kk : ∀ (rs : List Rw) (t : Tld) σ', Wf rs [] t → rs.length ≤ 3 → σ'[σ.length]? = some (.lst (rowsT rs t)) → K (.own σ.length) σ') : CALL (d + (N + 1)) (.glob 27) [.own s] σ K := by
  have D : ∀ {t : Int}, 0 < t → t < 10 → GivesD s N t := fun h1 h2 => (dig h1 h2).up (by lia)
  have hsl : s < σ.length := by obtain ⟨a, b, q, r⟩ := hs; exact (List.getElem?_eq_some_iff.mp q).1
  have hs1 : SrcOk s (σ ++ [.lst []] ++ [.lst []]) := by
    obtain ⟨a, b, q, r⟩ := hs
    exact ⟨a, b, adds_two σ _ _ _ _ q, r⟩
  have hlen : (σ ++ [Cell.lst []]).length = σ.length + 1 := by simp
  have hn0 : (σ ++ [Cell.lst []] ++ [Cell.lst []])[σ.length + 1]? = some (.lst []) := by rw [← hlen]; exact last_get _ _
  rw [callG]
  walk_at "go"
  refine (D (t := 4) (by decide) (by decide)).run d _ _ hs1 fun g σ2 g0 g1 s2 k2 => ?_
  obtain ⟨m, rfl, hm⟩ := four g0 g1
  conv => whnf
  refine ⟨by lia, ?_⟩
  have hr2 := k2 σ.length _ (by lia) (mid_get σ _ _)
  have hn2 := k2 (σ.length + 1) _ (by lia) hn0
  rw [hlen]
  refine loop_all (d := d) (N := N) (s := s) (rw := σ.length) (nm := σ.length + 1) h (by lia) (by lia) (by lia) ⟨fun rs names ρ' σ' hw hrl hl hs' hr' hn' hf => ?_⟩ s2 hr2 hn2 m hm
  exact last_row (d := d) (N := N) (rs := rs) (names := names) h (by lia) (by lia) hf hw hl hrl hs' hr' hn' kk
end
end
section
variable {N : Nat} {d : Nat} {σ : Sg} {K : T → Sg → Prop} {v : T} {L : List T} {f m n z k k' s : Nat} {b : T}
noncomputable def poolB : List S := match g_law_pool with
  | .fn f => (match f.body with
    | [_, _, _, .forR _ _ b, _] => b
    | _ => [])
  | _ => []
abbrev bodyI (i d : Nat) (bs : List S) : T → Rho → Sg → (Fl → Rho → Sg → Prop) → Prop := fun t ρ σ K => exs (fun s ρ σ K => ex tab (CALL d) [] 19 s ρ σ K) bs (pt ρ i (.t t)) σ K
noncomputable def pl0 (l : List Int) (b m : Int) : Rho := [(77, .t (.lst (l.map .int))), (78, .t (.int b)), (79, .t (.int m))]
noncomputable def pl1 (l : List Int) (b m : Int) (k : T) : Rho := [(77, .t (.lst (l.map .int))), (78, .t (.int b)), (79, .t (.int m)), (80, .t k)]
abbrev MOk (m : Int) : Prop := 0 ≤ m ∧ m < 2147483647
section
variable {l : List Int} {b m : Int} {D j : Nat} {K : Fl → Rho → Sg → Prop}
theorem at_map {i : Int} (h : l[j]? = some i) : (l.map T.int)[j]? = some (.int i) := by rw [List.getElem?_map, h]; rfl
theorem pool_a (hj : j < l.length) (hl : l.length < 100) (kk : ∀ m', MOk m' → K .next (pl1 l b m' (.int (Int.ofNat j))) σ) : bodyI 80 D poolB (.int (Int.ofNat j)) (pl0 l b m) σ K := by
  have e := at_map (List.getElem?_eq_getElem hj)
  walk_at "go"
  refine ⟨.inr (small_of (by decide)), ?_⟩
  walk_at "go"
  rw [e]
  conv => whnf
  refine ⟨by lia, ?_⟩
  walk_at "go"
  refine ⟨.inl (small_of (by decide)), ?_⟩
  walk_at "go"
  exact kk _ ⟨Int.fmod_nonneg_of_pos _ (by decide), Int.fmod_lt_of_pos _ (by decide)⟩
theorem pool_b {k : T} (hj : j < l.length) (hl : l.length < 100) (kk : ∀ m', MOk m' → K .next (pl1 l b m' (.int (Int.ofNat j))) σ) : bodyI 80 D poolB (.int (Int.ofNat j)) (pl1 l b m k) σ K := by
  have e := at_map (List.getElem?_eq_getElem hj)
  walk_at "go"
  refine ⟨.inr (small_of (by decide)), ?_⟩
  walk_at "go"
  rw [e]
  conv => whnf
  refine ⟨by lia, ?_⟩
  walk_at "go"
  refine ⟨.inl (small_of (by decide)), ?_⟩
  walk_at "go"
  exact kk _ ⟨Int.fmod_nonneg_of_pos _ (by decide), Int.fmod_lt_of_pos _ (by decide)⟩
theorem pool_loop (hl : l.length < 100) (kk : ∀ m' k, MOk m' → K .next (pl1 l b m' k) σ) : ∀ (js : List Nat) (m : Int) (k : T), MOk m → (∀ j ∈ js, j < l.length) → forL (bodyI 80 D poolB) (js.map fun k => .int (Int.ofNat k)) (pl1 l b m k) σ K
  | [], m, k, hm, _ => kk m k hm
  | j :: js, _, _, _, hj => forL_cons (pool_b (hj j (.head _)) hl fun m' hm' => pool_loop hl kk js m' _ hm' fun i hi => hj i (.tail _ hi))
end
section
variable {K : T → Sg → Prop} {l : List Int}
theorem pool_nil (kk : ∀ σ', SrcOk σ.length σ' → K (.own σ.length) σ') : CALL (d + (N + 1)) (.glob 16) [.lst []] σ K := by
  rw [callG]
  walk_at "go"
  exact kk _ ⟨0, 17, last_get _ _, by decide, by decide, by decide⟩
theorem pool_cons {x : Int} {r : List Int} (hl : (x :: r).length < 100) (kk : ∀ σ', SrcOk σ.length σ' → K (.own σ.length) σ') : CALL (d + (N + 1)) (.glob 16) [.lst ((x :: r).map .int)] σ K := by
  rw [callG]
  conv => whnf
  refine ⟨by rw [List.length_map]; lia, ?_⟩
  conv => whnf
  have e0 : ((List.map T.int (x :: r)).length : Int) > 0 := by rw [List.length_map, List.length_cons]; lia
  have hlt : (List.map T.int (x :: r)).length < 1000000 := by rw [List.length_map]; lia
  rw [decide_eq_true e0]
  walk_at "go"
  obtain ⟨m, em, hm⟩ : ∃ m : Nat, (if (20 : Int) < ((List.map T.int (x :: r)).length : Int) then (20 : Int) else ((List.map T.int (x :: r)).length : Int)) = Int.ofNat (m + 1) ∧ m + 1 ≤ (x :: r).length := by
    rw [List.length_map, List.length_cons]
    by_cases q : (20 : Int) < ((r.length + 1 : Nat) : Int)
    · exact ⟨19, by rw [if_pos q]; rfl, by lia⟩
    · exact ⟨r.length, by rw [if_neg q]; rfl, Nat.le_refl _⟩
  by_cases hx : x < 0
  · rw [decide_eq_true hx]
    walk_at "go"
    refine ⟨hlt, ?_⟩
    walk_at "go"
    rw [em]
    conv => whnf
    refine ⟨by lia, ?_⟩
    rw [List.range_succ_eq_map, List.map_cons]
    refine forL_cons (F := bodyI 80 (d + N) poolB) (pool_a (l := x :: r) (b := (0 - x)) (by simp) hl fun m' hm' => ?_)
    dsimp only
    refine pool_loop (l := x :: r) hl (fun m'' k hm'' => ?_) _ m' _ hm' (fun j hj => ?_)
    · walk_at "go"
      by_cases hb : (0 - x) ≥ 1000000000000000000
      · rw [decide_eq_true hb]
        walk_at "go"
        exact kk _ ⟨(0 - x), m'', last_get _ _, by lia, hm''.1, hm''.2⟩
      · rw [decide_eq_false hb]
        walk_at "go"
        exact kk _ ⟨0, m'', last_get _ _, by decide, hm''.1, hm''.2⟩
    · obtain ⟨i, hi, rfl⟩ := List.mem_map.mp hj
      have := List.mem_range.mp hi
      lia
  · rw [decide_eq_false hx]
    walk_at "go"
    refine ⟨hlt, ?_⟩
    walk_at "go"
    rw [em]
    conv => whnf
    refine ⟨by lia, ?_⟩
    rw [List.range_succ_eq_map, List.map_cons]
    refine forL_cons (F := bodyI 80 (d + N) poolB) (pool_a (l := x :: r) (b := x) (by simp) hl fun m' hm' => ?_)
    dsimp only
    refine pool_loop (l := x :: r) hl (fun m'' k hm'' => ?_) _ m' _ hm' (fun j hj => ?_)
    · walk_at "go"
      by_cases hb : x ≥ 1000000000000000000
      · rw [decide_eq_true hb]
        walk_at "go"
        exact kk _ ⟨x, m'', last_get _ _, by lia, hm''.1, hm''.2⟩
      · rw [decide_eq_false hb]
        walk_at "go"
        exact kk _ ⟨0, m'', last_get _ _, by decide, hm''.1, hm''.2⟩
    · obtain ⟨i, hi, rfl⟩ := List.mem_map.mp hj
      have := List.mem_range.mp hi
      lia
end
end
section
variable {N : Nat} {d : Nat} {σ : Sg} {K : T → Sg → Prop} {v : T} {L : List T} {f m n z k k' s : Nat} {b : T}
theorem comp_map {F : T → Sg → (T → Sg → Prop) → Prop} {G : T → Sg → (Bool → Sg → Prop) → Prop} {inv : Sg → Prop} {R : T → T → Prop} (hG : ∀ t σ (K : Bool → Sg → Prop), K true σ → G t σ K) (hF : ∀ a b σ (K : T → Sg → Prop), R a b → K b σ → F a σ K) {σ : Sg} (hi : inv σ) {K : List T → Sg → Prop} :
    ∀ (l l' acc : List T), All2 R l l' → acc.length + l.length < 1000 → K (acc ++ l') σ → compL F G inv l acc σ K
  | _, _, acc, .nil, _, k => by rw [List.append_nil] at k; exact k
  | _, _, acc, .cons (l := l) (r := r) h hr, hl, k => by
    simp only [List.length_cons] at hl
    refine ⟨by lia, hG _ _ _ (hF _ _ _ _ h ⟨hi, ?_⟩)⟩
    refine comp_map hG hF hi l r (acc ++ [_]) hr (by simp; lia) ?_
    rw [List.append_assoc]; exact k
theorem teqL_ints : ∀ l : List Int, teqL (l.map .int) (l.map .int) = some true
  | [] => rfl
  | i :: l => by
    show (match some (i == i) with
      | some c => (match teqL (l.map .int) (l.map .int) with
        | some d => some (c && d)
        | none => none)
      | none => none) = some true
    rw [teqL_ints l]
    simp
theorem rows_all2 : ∀ (rs : List Rw) (t : Tld), All2 (fun a b => Gives 3 (.glob 29) [a] b) (rowsT rs t) (nodes rs t)
  | [], _ => .cons (st_gives (.say _)) .nil
  | r :: rs, t => .cons (st_gives r) (rows_all2 rs t)
end
section
variable {N : Nat} {d : Nat} {σ : Sg} {K : T → Sg → Prop} {v : T} {L : List T} {f m n z k k' s : Nat} {b : T}
theorem end_get (σ : Sg) (a b : Cell) : (σ ++ [a] ++ [b])[σ.length + 1]? = some b := by
  have : (σ ++ [a]).length = σ.length + 1 := by simp
  rw [← this]; exact last_get _ _
theorem end_set (σ : Sg) (a b c : Cell) : (σ ++ [a] ++ [b]).set (σ.length + 1) c = σ ++ [a] ++ [c] := by
  have : (σ ++ [a]).length = σ.length + 1 := by simp
  rw [← this]; exact last_set _ _ _
section
variable {l : List Int}
theorem law_run (hN : 300 ≤ N) (hl : l.length < 100) : CALL (d + (N + 1)) (.glob 33) [.lst (l.map .int)] [] (fun t _ => t = .bool true) := by
  have POOL : ∀ K : T → Sg → Prop, (∀ σ', SrcOk 0 σ' → K (.own 0) σ') → CALL (d + N) (.glob 16) [.lst (l.map .int)] [] K := fun K kk => by
    obtain ⟨M, rfl⟩ : ∃ M, N = M + 1 := ⟨N - 1, by lia⟩
    cases l with
    | nil => exact pool_nil (d := d) (N := M) (σ := []) kk
    | cons x r => exact pool_cons (d := d) (N := M) (σ := []) hl kk
  have STM : ∀ (σ : Sg) (K : T → Sg → Prop), SrcOk 0 σ → (∀ (rs : List Rw) (t : Tld) (σ' : Sg), Wf rs [] t → rs.length ≤ 3 → σ'[σ.length]? = some (.lst (rowsT rs t)) → K (.own σ.length) σ') → CALL (d + N) (.glob 27) [.own 0] σ K := fun σ K hs kk => by
    obtain ⟨M, rfl⟩ : ∃ M, N = M + 1 := ⟨N - 1, by lia⟩
    exact statements_ (d := d) (N := M) (by lia) hs kk
  rw [callG]
  walk_at "go"
  refine POOL _ fun σ1 s1 => ?_
  walk_at "go"
  refine STM σ1 _ s1 fun rs t σ2 hw hrl hr => ?_
  generalize σ1.length = r at hr
  walk_at "go"
  rw [hr]
  walk_at "go"
  refine comp_map (R := fun a b => Gives 3 (.glob 29) [a] b) ?_ ?_ hr _ _ [] (rows_all2 rs t) (by rw [rowsT_len]; simp; lia) ?_
  · intro t σ K k
    exact k
  · intro a b σ K h k
    walk_at "go"
    refine (h.up (by lia)).run d σ _ ?_
    walk_at "go"
    exact k
  have DO : ∀ (σ : Sg) (L : List T) (K : T → Sg → Prop), K (.own σ.length) (σ ++ [.inst 62 [(99, .none), (58, .lst L), (54, .lst [])]]) → CALL (d + N) (.glob 62) [.lst L] σ K := fun σ L K kk => by
    obtain ⟨M, rfl⟩ : ∃ M, N = M + 1 := ⟨N - 1, by lia⟩
    exact do_ (d := d) (N := M) (by lia) kk
  have NEED : ∀ (σ : Sg) (K : T → Sg → Prop), K (.own σ.length) (σ ++ [.inst 64 [(133, .none), (99, .none), (115, .none)]]) → CALL (d + N) (.glob 64) [.none, .none] σ K := fun σ K kk => by
    obtain ⟨M, rfl⟩ : ∃ M, N = M + 1 := ⟨N - 1, by lia⟩
    exact need_ (d := d) (N := M) (by lia) kk
  walk_at "go"
  refine DO σ2 _ _ ?_
  walk_at "go"
  refine NEED _ _ ?_
  walk_at "go"
  rw [mid_get]
  walk_at "go"
  rw [mid_set]
  have hz : List.length (σ2 ++ [Cell.inst 62 [(99, T.none), (58, T.lst ([] ++ nodes rs t)), (54, T.lst [])]]) = σ2.length + 1 := List.length_append
  rw [hz]
  refine (c60.up (by lia)).run d _ _ ?_
  walk_at "go"
  rw [mid_get]
  walk_at "go"
  rw [end_get]
  walk_at "go"
  rw [end_set]
  refine (c59.up (by lia)).run d _ _ ?_
  walk_at "go"
  have f1 := mid_get σ2 (Cell.inst 62 (pt [(99, T.none), (58, T.lst ([] ++ nodes rs t)), (54, T.lst [])] 54 (T.lst [T.own (List.length σ2 + 1)]))) (Cell.inst 64 (pt [(133, T.none), (99, T.none), (115, T.none)] 115 (T.inst 60 [(14, T.sym 101)])))
  have f2 := end_get σ2 (Cell.inst 62 (pt [(99, T.none), (58, T.lst ([] ++ nodes rs t)), (54, T.lst [])] 54 (T.lst [T.own (List.length σ2 + 1)]))) (Cell.inst 64 (pt [(133, T.none), (99, T.none), (115, T.none)] 115 (T.inst 60 [(14, T.sym 101)])))
  have f3 := adds_two σ2 (Cell.inst 62 (pt [(99, T.none), (58, T.lst ([] ++ nodes rs t)), (54, T.lst [])] 54 (T.lst [T.own (List.length σ2 + 1)]))) (Cell.inst 64 (pt [(133, T.none), (99, T.none), (115, T.none)] 115 (T.inst 60 [(14, T.sym 101)]))) _ _ hr
  generalize (σ2 ++ [Cell.inst 62 (pt [(99, T.none), (58, T.lst ([] ++ nodes rs t)), (54, T.lst [])] 54 (T.lst [T.own (List.length σ2 + 1)]))] ++ [Cell.inst 64 (pt [(133, T.none), (99, T.none), (115, T.none)] 115 (T.inst 60 [(14, T.sym 101)]))]) = σ5 at f1 f2 f3 ⊢
  have FR : ∀ (σ : Sg) (K : T → Sg → Prop), K (.own σ.length) (σ ++ [.inst 63 [(129, .dct []), (130, .own (σ.length + 1))]] ++ [.dct []]) → CALL (d + N) (.glob 63) [] σ K := fun σ K kk => by
    obtain ⟨M, rfl⟩ : ∃ M, N = M + 1 := ⟨N - 1, by lia⟩
    exact fresh_ (d := d) (N := M) (by lia) kk
  refine FR σ5 _ ?_
  walk_at "go"
  refine (c61.up (by lia)).run d _ _ ?_
  walk_at "go"
  have hnl : ([] ++ nodes rs t).length < 1000 := by rw [List.nil_append, nodes_len]; lia
  have g1 := mid_get σ5 (Cell.inst 63 [(129, T.dct []), (130, T.own (List.length σ5 + 1))]) (Cell.dct [])
  have g2 := end_get σ5 (Cell.inst 63 [(129, T.dct []), (130, T.own (List.length σ5 + 1))]) (Cell.dct [])
  have g3 := adds_two σ5 (Cell.inst 63 [(129, T.dct []), (130, T.own (List.length σ5 + 1))]) (Cell.dct [])
  have rl : r < σ5.length := (List.getElem?_eq_some_iff.mp f3).1
  have DS : ∀ (K : T → Sg → Prop), (∀ σ', FS σ5.length (σ5.length + 1) (0 + dr rs) σ' → Keeps (σ5.length + 1) (σ5 ++ [Cell.inst 63 [(129, T.dct []), (130, T.own (List.length σ5 + 1))]] ++ [Cell.dct []]) σ' → K (core txT rs 0 t) σ') → CALL (d + N) (.glob 12) [mk σ5.length, .own σ2.length] (σ5 ++ [Cell.inst 63 [(129, T.dct []), (130, T.own (List.length σ5 + 1))]] ++ [Cell.dct []]) K := fun K kk => by
    obtain ⟨M, rfl⟩ : ∃ M, N = M + 2 + 1 := ⟨N - 3, by lia⟩
    have drl : dr rs ≤ 3 := by
      have : ∀ l : List Rw, dr l ≤ l.length := fun l => by
        induction l with
        | nil => exact Nat.le_refl _
        | cons w l ih => cases w <;> first | exact Nat.succ_le_succ ih | exact Nat.le_succ_of_le ih
      exact Nat.le_trans (this rs) hrl
    exact done_statements_ (k := 0) (d := d) (N := M) (by lia) (g3 _ _ f1) (g3 _ _ f2) ⟨g1, g2⟩ ((done_gives hnl rs [] [] t 0 rfl hw (by lia)).up (by lia)) kk
  refine DS _ fun σ7 hF7 k7 => ?_
  have hr7 := k7 r _ (by lia) (g3 _ _ f3)
  obtain ⟨cs, ⟨v, hv, ha⟩, hall⟩ := core_tells txT rs [] t 0 [] [] 1 hw (fun _ h => nomatch h) (fun _ _ h => nomatch h) (fun _ _ h => nomatch h) rfl (by simp; lia) (by lia)
  walk_at "go"
  refine (hv.up (by lia)).run d σ7 _ ?_
  walk_at "go"
  refine (ha.up (by lia)).run d σ7 _ ?_
  walk_at "go"
  refine comp_map (inv := fun _ => True) (R := fun a b => ∃ i : Int, b = .int i ∧ Cl (1 + 20 * (rs.length + 1)) a i) ?_ ?_ True.intro _ ((bnds rs t []).map .int) [] ?_ (by have := bnds_len rs (kn := []) hw; have := hall.length; have h9 : 2 ^ (rs.length + 1) ≤ 2 ^ 4 := Nat.pow_le_pow_right (by decide) (by lia); simp; lia) ?_
  · intro t σ K k
    exact k
  · intro a b σ K h k
    obtain ⟨i, rfl, e, b', rfl, hev⟩ := h
    walk_at "go"
    refine (hev.up (by lia)).run d σ _ ?_
    walk_at "go"
    exact k
  · clear ha hv
    generalize bnds rs t [] = bs at hall ⊢
    induction hall with
    | nil => exact .nil
    | cons h _ ih => exact .cons ⟨_, rfl, h⟩ ih
  have BG := binds_gives (r := r) (L := rowsT rs t) (by rw [rowsT_len]; lia) rs [] [] t [] rfl hw (fun _ h => nomatch h) (by simp; lia) (by lia)
  walk_at "go"
  refine (BG.up (by lia)).run d σ7 _ hr7 ?_
  walk_at "go"
  have eq : teq (T.lst ([] ++ List.map T.int (bnds rs t []))) (T.lst (List.map T.int (bnds rs t []))) = some true := teqL_ints _
  rw [eq]
end
end
theorem tA_apart : (tA.all fun t => !(mAs.contains t)) = true := by decide +kernel
theorem look_as {P : Params} {a : Addr} {o : Obj} (e : (mK P).lookup a = some o) : a ∈ mAs := by
  rw [mK_as P]
  exact List.mem_map.mpr ⟨_, mem_of_lookupK e, rfl⟩
theorem not_tab {P : Params} {a : Addr} {o : Obj} (e : (mK P).lookup a = some o) : a ∉ tA := fun h => by
  have := List.all_eq_true.mp tA_apart a h
  rw [Bool.not_eq_true', List.contains_iff_mem.mpr (look_as e)] at this
  cases this
theorem in_hide {P : Params} {h : Heap} (X : (mK P).In h) : (mK P).In (hideAll h tA) := fun a o e => hideAll_get tA (X a o e) (not_tab e)
theorem ns_hide {h : Heap} {a : Addr} {m : Str → Option Value} (N : h.Ns a m) (ha : a ∉ tA) : (hideAll h tA).Ns a m := by
  obtain ⟨o, es, ep, ho, r⟩ := N
  exact ⟨o, es, ep, hideAll_get tA ho ha, r⟩
theorem tp_hide {mg mb : Str → Option Value} {h : Heap} (T : Tp mg mb h) (hT : ∀ t ∈ tA, h.get? t = some (tabObj #[])) : Tp mg mb (hideAll h tA) := by
  obtain ⟨mc, hn, hl⟩ := T.nolimit
  obtain ⟨bm, ob, e1, e2, e3, e4, e5, e6⟩ := T.bmain
  refine ⟨ns_hide T.g (by decide), ns_hide T.b (by decide), ⟨mc, ns_hide hn (by decide), hl⟩, T.builtins, bm, ob, e1, e2, hideAll_get tA e3 fun q => ?_, e4, e5, e6⟩
  have := hT _ q
  rw [e3] at this
  cases this
  cases e4
theorem w_start {w : World} {h : Heap} {la : Addr} {lo : Obj} (hl : h.get? la = some lo) (hc : lo.cls = .type "list") (hT : ∀ t ∈ tA, h.get? t = some (tabObj #[])) :
    W w (hideAll h tA) h.objs.size h (fun a o => a = la ∧ o = lo) [] [] := by
  refine ⟨rfl, fun a o e => ?_, fun a o e q => ?_, by decide, fun i c p e => by simp at e, fun a e => ?_, fun k a e => ?_⟩
  · obtain ⟨rfl, rfl⟩ := e; exact hl
  · obtain ⟨rfl, rfl⟩ := e
    rcases q with q | q
    · simp at q
    · have := hT _ q
      rw [hl] at this
      cases this
      cases hc
  · rcases e with e | e
    · simp at e
    · exact ⟨Nat.ne_of_lt (Heap.lt_size (hT _ e)), hideAll_none _ e⟩
  · exact ⟨_, hT _ (List.mem_of_getElem? e), #[], rfl, .inl rfl⟩
theorem act_start {w : World} {mg mb : Str → Option Value} {n : Nat} {h : Heap} {env : Env} (hX : (mK w.params).In h) (hTp : Tp mg mb h) (hT : ∀ t ∈ tA, h.get? t = some (tabObj #[])) (hf : env.frame = some h.objs.size) (hk : env.scope.kind = .function) (hn : n ≤ 310) :
    Act w mg mb n (callerA.deeper env) (hideAll h (mtL [])) h.objs.size := by
  refine ⟨⟨env, [], hideAll h tA, callerA, rfl, hf, hk, below_caller _⟩, in_hide hX, tp_hide hTp hT, rfl, ?_, ?_⟩
  · show 1 + claimMargin + 1 + n < recursionLimit
    have e1 : claimMargin = 300 := rfl
    have e2 : recursionLimit = 1000 := rfl
    lia
  · show 4 + 3 + 12 * n + 64 < cLine
    have e1 : cLine = 9900 := rfl
    lia
noncomputable def tabs3 : List (Addr × Addr) := [(1076, 1072), (1140, 1136), (1154, 1150)]
theorem tabs3_ (P : Params) : (tabs3.all fun p => codeHdIn (mK P) p.1 p.2) = true := by kernel_rfl
theorem tab_code {P : Params} {h : Heap} (X : (mK P).In h) : ∀ t ∈ tA, isCodeTable h t := by
  have key : ∀ c t, (c, t) ∈ tabs3 → isCodeTable h t := fun c t hm => by
    obtain ⟨o, vs, _, _, _, _, _, _, _, h1, h2, h3, h4, _⟩ := codeHd_of_K X (List.all_eq_true.mp (tabs3_ P) _ hm)
    exact ⟨c, o, vs, h1, h2, h3, h4⟩
  intro t ht
  rcases List.mem_cons.mp ht with rfl | ht
  · exact key 1076 _ (.head _)
  rcases List.mem_cons.mp ht with rfl | ht
  · exact key 1140 _ (.tail _ (.head _))
  rcases List.mem_cons.mp ht with rfl | ht
  · exact key 1154 _ (.tail _ (.tail _ (.head _)))
  · cases ht
theorem old_end {w : World} {h h' g' : Heap} {L' : Addr} {fz fz' : Fz} {hm' : Hm} {σ' : Sg} (X : (mK w.params).In h) (hT : ∀ t ∈ tA, h.get? t = some (tabObj #[])) (x : Ext h fz [] h' fz' hm') (Y : W w g' L' h' fz' hm' σ') : OldK h h' := by
  refine ⟨fun b o e => ?_, fun b o e => ?_⟩
  · by_cases hb : b ∈ tA
    · refine .inr (.inl ⟨tab_code X b hb, ?_⟩)
      have e' := hT b hb
      rw [e] at e'
      cases e'
      obtain ⟨k, hk⟩ := List.getElem?_of_mem hb
      obtain ⟨o', ho', ps, rfl, _⟩ := Y.tab k b hk
      exact ⟨rfl, #[], ps, rfl, by rw [ho', Array.empty_append]⟩
    · exact .inl (x.keep b o e fun q => q.elim (fun q => by simp at q) hb)
  · cases q : h'.get? b with
    | none => rw [x.dom b q] at e; cases e
    | some o' => exact ⟨o', rfl⟩
theorem hasItems_ints {R : WRecords} : ∀ {xs : List WData}, WShape.hasItems R xs .int = true → ∃ l : List Int, xs = l.map .int
  | [], _ => ⟨[], rfl⟩
  | d :: r, h => by
    rw [hasItems_all, List.all_cons] at h
    obtain ⟨i, rfl⟩ := hasW_int (a1 h)
    obtain ⟨l, rfl⟩ := hasItems_ints (xs := r) (by rw [hasItems_all]; exact a2 h)
    exact ⟨i :: l, rfl⟩
theorem reads_ints {R : WRecords} {cl : Str → Option Addr} {h : Heap} {w : World} {fz : Fz} {hm : Hm} : ∀ {l : List Int} {vs : List Value} {as : List Addr}, ReadsAllW R cl h vs (l.map .int) as → RepL w fz hm (l.map T.int) vs
  | [], _, _, r => by cases r; exact .nil
  | i :: l, _, _, r => by
    cases r with
    | cons r1 r2 =>
      cases r1 with
      | int _ t => exact .cons (.int i t) (reads_ints r2)
theorem args_open {cl : Str → Option Addr} {h : Heap} {args : List WData} {vals : List Value} {as : List Addr} (hpre : rw0.row.toRowW.claim.pre args = true) (hrd : ReadsAllW rw0.row.toRowW.records cl h vals args as) :
    ∃ (l : List Int) (a : Addr) (o : Obj) (vs : Array Value) (n : Nat) (bs : List Addr), args = [.list (l.map .int)] ∧ l.length ≤ 63 ∧ vals = [.ref a] ∧ h.get? a = some o ∧ o.cls = .type "list" ∧ o.data = .seq vs n ∧ ReadsAllW rw0.row.toRowW.records cl h vs.toList (l.map .int) bs := by
  obtain ⟨h1, h2⟩ := pre_splitW hpre
  obtain ⟨d, r, rfl, h3, h4⟩ := hasAllW_cons h1
  obtain rfl : r = [] := hasAllW_nil h4
  · obtain ⟨xs, rfl, h5⟩ := hasW_list h3
    obtain ⟨l, rfl⟩ := hasItems_ints h5
    have h6 : WTm.holds rw0.row.records (WTm.not (.lt (.lit (.int (63 : Nat))) (.len (.arg 0)))) { args := [WData.list (l.map WData.int)] } = true := (holds_andW h2).1
    have hlen : l.length ≤ 63 := by
      have e : (WTm.not (.lt (.lit (.int (63 : Nat))) (.len (.arg 0)))).value rw0.row.records { args := [WData.list (l.map WData.int)] } = some (.bool (!(decide (((63 : Nat) : Int) < (l.length : Int))))) := by
        simp only [WTm.value, List.getElem?_cons_zero, List.length_map, less_int, Option.map_some]
      rw [holdsW_of_value e] at h6
      cases hq : decide (((63 : Nat) : Int) < (l.length : Int)) with
      | true => rw [hq] at h6; cases h6
      | false =>
        have := of_decide_eq_false hq
        omega
    cases hrd with
    | cons r1 r2 =>
      cases r2
      cases r1 with
      | list g1 g2 g3 g4 => exact ⟨l, _, _, _, _, _, rfl, hlen, rfl, g1, g2, g3, g4⟩
theorem law_at (P : Params) : nsIn (mK P) mainGlobals (Str.ofString "law") = some (some (.ref 1460)) := by kernel_rfl
theorem law_gA : gA[33]? = some 1460 := rfl
theorem law_fn : ∃ f, gs[33]? = some (.fn f) := ⟨_, rfl⟩
theorem law_top {w : World} {mg mb : Str → Option Value} {h : Heap} {fa la : Addr} {lo : Obj} {vs : Array Value} {nn N : Nat} {l : List Int} {g : Array GenState} {d : Drawn} {tk : Nat} {os : OsState} {R : Result → Shared → Prop}
    (KX : (mK w.params).In h) (hTp : Tp mg mb h) (hT : ∀ t ∈ tA, h.get? t = some (tabObj #[])) (hmg : mg (Str.ofString "law") = some (.ref fa)) (hl : h.get? la = some lo) (hc : lo.cls = .type "list") (hd : lo.data = .seq vs nn)
    (rl : RepL w (fun a o => a = la ∧ o = lo) [] (l.map .int) vs.toList) (hlen : l.length < 100) (hN : 300 ≤ N) (hN2 : N ≤ 306) (hR : ∀ h' tk', OldK h h' → R (.ok (.ret (.bool true))) ⟨h', g, d, tk', os⟩) :
    codeAny (model pw w) callerA (.call (.ref fa) ⟨[.ref la], []⟩) R ⟨h, g, d, tk, os⟩ := by
  have e1 := mg_of KX hTp.g (law_at w.params)
  rw [hmg] at e1
  cases e1
  obtain ⟨f, hg⟩ := law_fn
  have hrun := law_run (d := 0) hN hlen
  rw [Nat.zero_add, callP_glob, hg] at hrun
  dsimp only at hrun
  have hf : isFG 33 = true := by unfold isFG; rw [hg]
  obtain ⟨a', o, fd, D⟩ := fn_of w.params (gs_lt hg) hf
  have : a' = 1460 := by
    have e := D.at_
    unfold fA at e
    rw [hg] at e
    have e : gA[33]? = some a' := e
    rw [law_gA] at e; exact (Option.some.inj e).symm
  subst this
  have C := fn_chk hg (gs_lt hg)
  have rl1 : RepL w (fun a o => a = la ∧ o = lo) [] [.lst (l.map .int)] [.ref la] := .cons (.lst ⟨rfl, rfl⟩ hc hd rl) .nil
  have BODY : ∀ env κ, Act w mg mb (N + 4) (callerA.deeper env) (hideAll h (mtL [])) h.objs.size → XS (fxOf w callerA h [] g d os 33 env κ) (fun ρ σ K => exs (fun s ρ σ K => ex tab (CALL N) κ 20 s ρ σ K) f.body ρ σ K) (execs (fdB (gStN 33)) env) :=
    fun env κ Z' => exs_ok (c := fxOf w callerA h [] g d os 33 env κ) (G := fun s ρ σ K => ex tab (CALL N) κ 20 s ρ σ K) (fun s st hc => ex_ok (n := N + 1) (call_ok N) (fxOf w callerA h [] g d os 33 env κ) rfl Z' 20 20 s st hc) _ _ C.body
  · obtain ⟨bs, hb, hrun⟩ := runF_some hrun
    obtain ⟨q1, q2, rfl⟩ := bindP_some hb
    have hds : f.ds = dsOf 33 := by unfold dsOf; rw [hg]
    refine enter_top (n := N + 4) (hm := []) (σ := []) (ds := f.ds) (ts := [.lst (l.map .int)] ++ f.ds.drop (f.ds.length - (f.ps.length - [T.lst (l.map .int)].length))) (by decide) KX hTp.nolimit (fun env' hf hk => act_start KX hTp hT hf hk (by lia)) (w_start hl hc hT) D C.par hds rl1 q1 q2 rfl fun env h1 tk1 fz1 m1 pv1 E' S Z' => ?_
    refine BODY env _ Z' h _ [] _ m1 h1 fz1 [] [] pv1 tk1 _ E' _ S hrun ⟨fun ρ' m' h' fz' hm' σ' pv' tk' k S' _ => ?_, fun ρ' m' h' fz' hm' σ' pv' tk' k S' _ => k.elim, fun t v ρ' h' fz' hm' σ' tk' k r X' x' => ?_⟩
    · exact nomatch k
    · cases k
      cases r
      exact hR h' tk' (old_end KX hT x' X')
theorem law_walk : WalkO qv lo (XL qv []) mHook.says rw0.row.toRowW lawD [] fun f vs => PySem.call f vs := by
  intro w s₀ s₁ mg mb G Y fa o pm cd doc dV kV ho hd hcd hD hmg hg args vals as hpre hlay hrd hwl hlo
  obtain ⟨l, la, lobj, vs, n, bs, rfl, hl, rfl, h1, h2, h3, h4⟩ := args_open hpre hrd
  refine enter_call ?_
  have KX := km_in_of Y
  have KT := km_tabs_of Y
  have T := G.T
  obtain ⟨h, g, d, tk, os⟩ := s₁
  refine law_top (N := 300) KX ⟨T.g, T.b, T.nolimit, T.builtins, T.bmain⟩ KT hmg h1 h2 h3 (reads_ints h4) (by lia) (by decide) (by decide) fun h' tk' K => ?_
  refine ⟨.inl ⟨.bool true, .bool true, [], rfl, fun _ => rfl, .bool true, ?_, fun _ => ⟨.nil, nofun⟩⟩, K, rfl, ?_⟩
  · wrow_post
  · cases hg
    exact AllBare.of_eq rfl
end Mine
end
section
open PySem PySem.W PyProof.Rows
set_option maxRecDepth 100000
set_option maxHeartbeats 8000000
namespace Mine
theorem both_true {a b : Bool} (ha : a = true) (hb : b = true) : (a && b) = true := by rw [ha, hb]; rfl
theorem looks_a : namesResolve rw0.row.prog = true := by kernel_rfl
theorem looks_d : (["vars", "dir", "locals"] : List Str).filter (readsOut rw0.row.prog rw0.row.prog.main.body) = [] := by kernel_rfl
theorem looks_e : (!(importedModules rw0.row.prog.main.body).all cThrough.contains) = false := by kernel_rfl
theorem looks_f : noRoadLSs { strict := false, foot := none, bare := [] } rw0.row.prog.main.body = true := by kernel_rfl
theorem looks_b : noRoadLSs { strict := !(importedModules rw0.row.prog.main.body).all cThrough.contains, foot := none, bare := (["vars", "dir", "locals"] : List Str).filter (readsOut rw0.row.prog rw0.row.prog.main.body) } rw0.row.prog.main.body = true := by
  rw [looks_d, looks_e]; exact looks_f
theorem looks_c : namesMeet rw0.row.prog rw0.row.prog.main.body (fun _ n => attrL n) = true := by kernel_rfl
theorem looks_said : looksOpen rw0.row.prog = true := by
  unfold looksOpen
  repeat' (with_reducible refine both_true ?_ ?_)
  · kernel_rfl
  · kernel_rfl
  · exact looks_a
  · kernel_rfl
  · exact looks_b
  · exact looks_c
theorem part_said : rw0.row.partSaid = true := by
  unfold OpenRow.partSaid
  repeat' (with_reducible refine both_true ?_ ?_)
  · exact looks_said
  all_goals kernel_rfl
theorem row_said' : rw0.row.wellSaid = true := by
  unfold OpenRow.wellSaid
  repeat' (with_reducible refine both_true ?_ ?_)
  · exact part_said
  all_goals kernel_rfl
theorem law_said : rw0.wellSaid = true := by
  unfold OpenLaw.wellSaid
  repeat' (with_reducible refine both_true ?_ ?_)
  · exact row_said'
  all_goals kernel_rfl
end Mine
end
open PySem PySem.W PyProof.Rows
set_option maxRecDepth 100000 in
set_option maxHeartbeats 8000000 in
theorem PySem.Challenge.cw_np0255_01_holds : PySem.Challenge.rw_np0255_01.Holds := by
  exact holds_law Mine.law_said fun said => Mine.law_of Mine.law_walk said
