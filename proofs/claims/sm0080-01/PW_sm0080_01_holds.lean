import PyProof.Rows.All
import Wide.All
import OpenK.AllK
import Wide.FinOn
import Lean
import PySem.Challenge.RW_sm0080_01
open PySem PySem.W PySem.Calls PyProof.Rows
open Str (ofString)
open Nat (le_trans lt_of_lt_of_le lt_of_le_of_lt le_of_eq)
open List (mem_cons_of_mem mem_cons_self length_append length_map)
set_option Elab.async false
set_option autoImplicit false
set_option maxRecDepth 100000
set_option maxHeartbeats 0
set_option linter.unusedSimpArgs false
set_option linter.unusedVariables false
namespace Mine
section
open PySem PySem.W PyProof.Rows
noncomputable def Each {α : Type} (P : Nat -> α -> Prop) : Nat -> List α -> Prop
 | _, [] => True
 | n, x :: r => P n x /\ Each P (n + 1) r
theorem Each.get {α : Type} {P : Nat -> α -> Prop} {v : α} : ∀ {l : List α} {n k : Nat}, Each P n l -> l[k]? = some v -> P (n + k) v
 | [], _, _, _, h => by cases h
 | _ :: _, _, 0, e, h => Option.some.inj h ▸ e.1
 | _ :: _, n, k + 1, e, h => Nat.succ_add_eq_add_succ n k ▸ Each.get (k := k) e.2 h
theorem far2 {n a c : Nat} (h : n <= a) (h3 : c < n) : a ≠ c := fun e => Nat.lt_irrefl _ (lt_of_lt_of_le h3 (e ▸ h))
theorem apartN {n a b c d : Nat} (h1 : n <= a) (h2 : n <= b) (h3 : c < n) (h4 : d < n) (q : a = c \/ a = d \/ b = c \/ b = d) : False :=
 q.elim (far2 h1 h3) fun q => q.elim (far2 h1 h4) fun q => q.elim (far2 h2 h3) (far2 h2 h4)
theorem apartN' {n a b c d : Nat} (h1 : n <= a) (h2 : n <= b) (h3 : c < n) (h4 : d < n) (q : c = a \/ c = b \/ d = a \/ d = b) : False :=
 q.elim (fun e => far2 h1 h3 e.symm) fun q => q.elim (fun e => far2 h2 h3 e.symm) fun q => q.elim (fun e => far2 h1 h4 e.symm) fun e => far2 h2 h4 e.symm
inductive V where
 | none | bool (b : Bool) | int (i : Int) | str (s : Str) | ref (r i : Nat) | bi (id : String) | ty (n : String)
 deriving Inhabited

structure Clo where
 name : Str
 qual : Str
 params : List Str
 arguments : Arguments
 body : FuncBody
 scope : Scope
 cells : List (Str × Nat × Nat)

inductive O where
 | list (xs : List V) | tup (xs : List V) | dict (es : List (V × V)) | inst (C : Nat) (fs : List (Str × V))
 | cell (v : Option V) | clo (c : Clo)

inductive T where
 | nil | node (v : Option O) (l r : T)
noncomputable def T.get : T -> Nat -> Option O
 | .nil, _ => none
 | .node v l r, i => match Nat.beq i 0 with
  | true => v
  | false => match Nat.beq (i % 2) 1 with
   | true => l.get (i / 2)
   | false => r.get (i / 2 - 1)
noncomputable def T.put : Nat -> T -> Nat -> O -> T
 | 0, t, _, _ => t
 | n + 1, .nil, i, o => match Nat.beq i 0 with
  | true => .node (some o) .nil .nil
  | false => match Nat.beq (i % 2) 1 with
   | true => .node none (T.put n .nil (i / 2) o) .nil
   | false => .node none .nil (T.put n .nil (i / 2 - 1) o)
 | n + 1, .node v l r, i, o => match Nat.beq i 0 with
  | true => .node (some o) l r
  | false => match Nat.beq (i % 2) 1 with
   | true => .node v (T.put n l (i / 2) o) r
   | false => .node v l (T.put n r (i / 2 - 1) o)

structure Hp where
 base : Nat -> Nat -> Option O
 reg : Nat
 tr : T
 nxt : Nat
noncomputable def Hp.get (H : Hp) (r i : Nat) : Option O := match Nat.beq r H.reg with
 | true => H.tr.get i
 | false => H.base r i
noncomputable def Hp.upd (H : Hp) (r i : Nat) (o : O) : Hp := match Nat.beq r H.reg with
 | true => { H with tr := T.put (i + 1) H.tr i o }
 | false => { H with base := fun r' i' => match Nat.beq r' r, Nat.beq i' i with
  | true, true => some o
  | _, _ => H.base r' i' }
noncomputable def Hp.push (H : Hp) (o : O) : Hp := { H with tr := T.put (H.nxt + 1) H.tr H.nxt o, nxt := H.nxt + 1 }

structure Fn where
 name : Str
 qual : Str
 params : List Str
 body : List Stmt
 scope : Scope
 dflt : List V
structure Cl where
 init : Nat
 fields : List Str
 meths : List (Str × Nat)
 mro : List Nat
structure Pg where
 fns : Nat -> Option Fn
 cls : Nat -> Option Cl
 glob : Str -> Option V
 bltn : Str -> Option V
 obj : Nat -> Option O
 nest : Str -> Option Str

structure En where
 loc : List (Str × V)
 cel : List (Str × Nat × Nat)
 names : List (Str × NameKind)
 qual : Str

inductive Fl where
 | next | brk | cont | ret (v : V)
inductive It where
 | lst (r i k : Nat) | tup (r i k : Nat) | keys (r i k n : Nat) | rng (k n : Int) | enm (r i k : Nat) | sgn (s : List Nat)


noncomputable def lk {α : Type} (l : List (Str × α)) (x : Str) : Option α := l.lookup x
noncomputable def putL (l : List (Str × V)) (x : Str) (v : V) : List (Str × V) := match l with
 | [] => [(x, v)]
 | (y, u) :: r => if x = y then (x, v) :: r else (y, u) :: putL r x v
noncomputable def badName (x : Str) : Bool := x == "__debug__" || x == "__classdict__"
noncomputable def limN : Nat := 1000000
end
section
open PySem PySem.W PyProof.Rows
noncomputable def assocN {α : Type} : List (Nat × α) -> Nat -> Option α
 | [], _ => none
 | p :: r, a => match Nat.beq p.1 a with
  | true => some p.2
  | false => assocN r a
noncomputable def fnAt (k : Nat) (ds : List V) : Option Fn := match PySem.Challenge.pw_sm0080_01.main.body[k]? with
 | some (.FunctionDef name args body _ _ _ scope _ _ _) => some ⟨name, name, args.args.map (·.arg), body, scope, ds⟩
 | _ => none
noncomputable def mtAt (k j : Nat) (cn : Str) (ds : List V) : Option Fn := match PySem.Challenge.pw_sm0080_01.main.body[k]? with
 | some (.ClassDef _ _ _ b _ _ _ _ _ _ _) => match b[j]? with
  | some (.FunctionDef name args body _ _ _ scope _ _ _) => some ⟨name, cn ++ ("." ++ name), args.args.map (·.arg), body, scope, ds⟩
  | _ => none
 | _ => none
noncomputable def gv (x : Str) (v : V) : Str × V := (x, v)
noncomputable def cv (a : Nat) (c : Cl) : Nat × Cl := (a, c)
noncomputable def fv (a : Nat) (c : Option Fn) : Nat × Option Fn := (a, c)
noncomputable def ov (a : Nat) (o : O) : Nat × O := (a, o)
noncomputable def fnTab : List (Nat × Option Fn) := [
 fv 31 (fnAt 9 []),
 fv 38 (fnAt 10 []),
 fv 46 (fnAt 11 [V.int (1)]),
 fv 53 (fnAt 12 []),
 fv 102 (fnAt 19 []),
 fv 109 (fnAt 20 []),
 fv 151 (fnAt 26 []),
 fv 180 (fnAt 31 []),
 fv 185 (fnAt 32 []),
 fv 190 (fnAt 33 []),
 fv 216 (fnAt 38 []),
 fv 230 (fnAt 40 []),
 fv 244 (fnAt 42 []),
 fv 275 (fnAt 47 []),
 fv 350 (fnAt 58 []),
 fv 357 (fnAt 59 []),
 fv 364 (fnAt 60 []),
 fv 371 (fnAt 61 []),
 fv 392 (fnAt 65 []),
 fv 399 (fnAt 66 []),
 fv 455 (fnAt 74 []),
 fv 559 (fnAt 99 []),
 fv 566 (fnAt 100 []),
 fv 573 (fnAt 101 []),
 fv 580 (fnAt 102 []),
 fv 690 (fnAt 121 []),
 fv 697 (fnAt 122 []),
 fv 742 (mtAt 129 0 "Literal" []),
 fv 770 (mtAt 130 0 "NumberNode" []),
 fv 798 (mtAt 131 0 "VariableNode" []),
 fv 826 (mtAt 132 0 "Call" []),
 fv 854 (mtAt 133 0 "Binary" []),
 fv 882 (mtAt 134 0 "Negated" []),
 fv 910 (mtAt 135 0 "Filter" []),
 fv 938 (mtAt 136 0 "Path" []),
 fv 966 (mtAt 137 0 "Step" []),
 fv 988 (fnAt 140 []),
 fv 1000 (fnAt 142 []),
 fv 1007 (fnAt 143 []),
 fv 1014 (fnAt 144 []),
 fv 1019 (fnAt 145 []),
 fv 1026 (fnAt 146 []),
 fv 1040 (fnAt 148 []),
 fv 1055 (mtAt 150 0 "Context" [V.int (1), V.int (1), V.none, V.none, V.none, V.none, V.none]),
 fv 1062 (mtAt 150 1 "Context" []),
 fv 1069 (mtAt 150 2 "Context" []),
 fv 1098 (mtAt 153 0 "NodeRow" []),
 fv 1119 (mtAt 154 0 "Tree" []),
 fv 1126 (mtAt 154 1 "Tree" []),
 fv 1133 (mtAt 154 2 "Tree" []),
 fv 1140 (mtAt 154 3 "Tree" []),
 fv 1147 (mtAt 154 4 "Tree" []),
 fv 1154 (mtAt 154 5 "Tree" []),
 fv 1161 (mtAt 154 6 "Tree" []),
 fv 1168 (mtAt 154 7 "Tree" []),
 fv 1182 (mtAt 154 9 "Tree" []),
 fv 1189 (mtAt 154 10 "Tree" []),
 fv 1196 (mtAt 154 11 "Tree" []),
 fv 1210 (mtAt 154 13 "Tree" []),
 fv 1245 (mtAt 154 18 "Tree" []),
 fv 1252 (mtAt 154 19 "Tree" []),
 fv 1259 (mtAt 154 20 "Tree" []),
 fv 1266 (mtAt 154 21 "Tree" []),
 fv 1314 (mtAt 163 0 "Word" []),
 fv 1321 (mtAt 163 1 "Word" []),
 fv 1328 (mtAt 163 2 "Word" []),
 fv 1356 (mtAt 164 0 "PathScanner" []),
 fv 1364 (mtAt 164 1 "PathScanner" [V.int (0)]),
 fv 1371 (mtAt 164 2 "PathScanner" []),
 fv 1378 (mtAt 164 3 "PathScanner" []),
 fv 1385 (mtAt 164 4 "PathScanner" []),
 fv 1392 (mtAt 164 5 "PathScanner" []),
 fv 1399 (mtAt 164 6 "PathScanner" []),
 fv 1406 (mtAt 164 7 "PathScanner" []),
 fv 1413 (mtAt 164 8 "PathScanner" []),
 fv 1427 (mtAt 164 10 "PathScanner" []),
 fv 1434 (mtAt 164 11 "PathScanner" []),
 fv 1441 (mtAt 164 12 "PathScanner" []),
 fv 1448 (mtAt 164 13 "PathScanner" []),
 fv 1455 (mtAt 164 14 "PathScanner" []),
 fv 1469 (fnAt 165 []),
 fv 1493 (fnAt 175 []),
 fv 1500 (fnAt 176 []),
 fv 1505 (fnAt 177 []),
 fv 1519 (mtAt 178 0 "PathReader" []),
 fv 1526 (mtAt 178 1 "PathReader" []),
 fv 1533 (mtAt 178 2 "PathReader" []),
 fv 1547 (mtAt 178 4 "PathReader" []),
 fv 1554 (mtAt 178 5 "PathReader" []),
 fv 1562 (mtAt 178 6 "PathReader" [V.int (1)]),
 fv 1569 (mtAt 178 7 "PathReader" []),
 fv 1576 (mtAt 178 8 "PathReader" []),
 fv 1583 (mtAt 178 9 "PathReader" []),
 fv 1590 (mtAt 178 10 "PathReader" []),
 fv 1597 (mtAt 178 11 "PathReader" []),
 fv 1604 (mtAt 178 12 "PathReader" []),
 fv 1609 (mtAt 178 13 "PathReader" []),
 fv 1616 (mtAt 178 14 "PathReader" []),
 fv 1623 (mtAt 178 15 "PathReader" []),
 fv 1658 (mtAt 178 20 "PathReader" []),
 fv 1672 (fnAt 179 []),
 fv 1679 (fnAt 181 []),
 fv 1686 (fnAt 182 []),
 fv 1693 (fnAt 183 []),
 fv 1700 (fnAt 184 []),
 fv 1707 (fnAt 185 []),
 fv 1712 (fnAt 186 []),
 fv 1717 (fnAt 187 [])]
noncomputable def clTab : List (Nat × Cl) := [
 cv 752 ⟨742, [("value" : Str)], [(("__init__" : Str), 742)], [752]⟩,
 cv 780 ⟨770, [("value" : Str)], [(("__init__" : Str), 770)], [780]⟩,
 cv 808 ⟨798, [("name" : Str)], [(("__init__" : Str), 798)], [808]⟩,
 cv 836 ⟨826, [("name" : Str), ("arguments" : Str)], [(("__init__" : Str), 826)], [836]⟩,
 cv 864 ⟨854, [("op" : Str), ("left" : Str), ("right" : Str)], [(("__init__" : Str), 854)], [864]⟩,
 cv 892 ⟨882, [("value" : Str)], [(("__init__" : Str), 882)], [892]⟩,
 cv 920 ⟨910, [("base" : Str), ("predicates" : Str)], [(("__init__" : Str), 910)], [920]⟩,
 cv 948 ⟨938, [("start" : Str), ("steps" : Str)], [(("__init__" : Str), 938)], [948]⟩,
 cv 976 ⟨966, [("axis" : Str), ("test" : Str), ("predicates" : Str)], [(("__init__" : Str), 966)], [976]⟩,
 cv 1079 ⟨1055, [("tree" : Str), ("node" : Str), ("position" : Str), ("size" : Str), ("variables" : Str), ("names" : Str), ("calls" : Str), ("current" : Str), ("ids" : Str)], [(("__init__" : Str), 1055), (("at" : Str), 1062), (("variable" : Str), 1069)], [1079]⟩,
 cv 1101 ⟨1098, [("kind" : Str), ("name" : Str), ("uri" : Str), ("local" : Str), ("value" : Str), ("parent" : Str), ("children" : Str), ("attributes" : Str), ("namespaces" : Str)], [(("__init__" : Str), 1098)], [1101]⟩,
 cv 1290 ⟨1119, [("rows" : Str)], [(("__init__" : Str), 1119), (("new_row" : Str), 1126), (("row" : Str), 1133), (("new_root" : Str), 1140), (("add_child" : Str), 1147), (("add_element" : Str), 1154), (("add_text" : Str), 1161), (("add_comment" : Str), 1168), (("element_row" : Str), 1182), (("set_attribute" : Str), 1189), (("add_namespace" : Str), 1196), (("kind" : Str), 1210), (("parent" : Str), 1245), (("children" : Str), 1252), (("attributes" : Str), 1259), (("namespaces" : Str), 1266)], [1290]⟩,
 cv 1338 ⟨1314, [("kind" : Str), ("text" : Str), ("place" : Str)], [(("__init__" : Str), 1314), (("is_sign" : Str), 1321), (("is_operator" : Str), 1328)], [1338]⟩,
 cv 1458 ⟨1356, [("text" : Str), ("at" : Str), ("found" : Str)], [(("__init__" : Str), 1356), (("sign" : Str), 1364), (("add" : Str), 1371), (("run" : Str), 1378), (("skip" : Str), 1385), (("is_behind_operand" : Str), 1392), (("step" : Str), 1399), (("number" : Str), 1406), (("figures" : Str), 1413), (("variable" : Str), 1427), (("plain_name" : Str), 1434), (("qualified" : Str), 1441), (("name" : Str), 1448), (("mark" : Str), 1455)], [1458]⟩,
 cv 1661 ⟨1519, [("words" : Str), ("at" : Str), ("depth" : Str)], [(("__init__" : Str), 1519), (("here" : Str), 1526), (("go" : Str), 1533), (("need" : Str), 1547), (("whole" : Str), 1554), (("expression" : Str), 1562), (("counted" : Str), 1569), (("level" : Str), 1576), (("negated" : Str), 1583), (("union" : Str), 1590), (("path" : Str), 1597), (("from_primary" : Str), 1604), (("primary" : Str), 1609), (("arguments" : Str), 1616), (("is_step" : Str), 1623), (("predicates" : Str), 1658)], [1661]⟩]
noncomputable def glTab : List (Str × V) := [
 gv "BEHIND_NO_OPERAND" (V.ref 0 1300),
 gv "Binary" (V.ref 0 864),
 gv "COMPARISONS" (V.ref 0 981),
 gv "Call" (V.ref 0 836),
 gv "Context" (V.ref 0 1079),
 gv "DIGITS" (V.str "0123456789"),
 gv "FIGURES" (V.str "0123456789"),
 gv "FIRST_BEYOND" (V.int (128)),
 gv "Filter" (V.ref 0 920),
 gv "KINDS_OF_NODES" (V.ref 0 1299),
 gv "LEVELS" (V.ref 0 1471),
 gv "Literal" (V.ref 0 752),
 gv "MANY" (V.int (1000)),
 gv "MORE_RANGES" (V.ref 0 336),
 gv "MOST" (V.int (10 ^ 400)),
 gv "MOST_DEPTH" (V.int (180)),
 gv "MOST_FIGURES_xpath_grammar" (V.int (400)),
 gv "MOST_HEIGHT" (V.int (60)),
 gv "NONE_LET" (V.ref 0 550),
 gv "NUMBERS" (V.ref 0 548),
 gv "Negated" (V.ref 0 892),
 gv "NodeRow" (V.ref 0 1101),
 gv "NumberNode" (V.ref 0 780),
 gv "ONE_AT_MOST" (V.ref 0 551),
 gv "OPERATORS" (V.ref 0 1296),
 gv "PAIRS" (V.ref 0 1295),
 gv "PARENTS" (V.ref 0 1084),
 gv "PRIMARY_KINDS" (V.ref 0 1472),
 gv "Path" (V.ref 0 948),
 gv "PathFault" (V.ref 0 317),
 gv "PathReader" (V.ref 0 1661),
 gv "PathScanner" (V.ref 0 1458),
 gv "SETS" (V.ref 0 546),
 gv "SIGNS" (V.ref 0 1297),
 gv "SPACES_chars" (V.str " \t\n\r"),
 gv "START_RANGES" (V.ref 0 332),
 gv "Step" (V.ref 0 976),
 gv "TEXTS" (V.ref 0 549),
 gv "TRUTHS" (V.ref 0 547),
 gv "TWO_WANTED" (V.ref 0 552),
 gv "Tree" (V.ref 0 1290),
 gv "TreeFault" (V.ref 0 305),
 gv "VariableNode" (V.ref 0 808),
 gv "WORD_OPERATORS" (V.ref 0 1298),
 gv "Word" (V.ref 0 1338),
 gv "_law_grown" (V.ref 0 1700),
 gv "_law_one" (V.ref 0 1693),
 gv "_law_paths_right" (V.ref 0 1712),
 gv "_law_pool" (V.ref 0 1679),
 gv "_law_take" (V.ref 0 1686),
 gv "_law_walk" (V.ref 0 1707),
 gv "any_step" (V.ref 0 1479),
 gv "as_number" (V.ref 0 216),
 gv "as_text" (V.ref 0 209),
 gv "as_truth" (V.ref 0 223),
 gv "asker" (V.ref 0 1007),
 gv "axis" (V.ref 0 655),
 gv "bounds_of" (V.ref 0 566),
 gv "call_core" (V.ref 0 580),
 gv "call_of_numbers" (V.ref 0 533),
 gv "call_of_sets" (V.ref 0 455),
 gv "call_of_texts" (V.ref 0 545),
 gv "call_of_truths" (V.ref 0 526),
 gv "check_many" (V.ref 0 573),
 gv "common_divisor" (V.ref 0 31),
 gv "compared" (V.ref 0 275),
 gv "compared_numbers" (V.ref 0 109),
 gv "compared_plain" (V.ref 0 244),
 gv "compared_texts" (V.ref 0 237),
 gv "counted" (V.ref 0 399),
 gv "elements_by_ids" (V.ref 0 434),
 gv "evaluate" (V.ref 0 1040),
 gv "height_of" (V.ref 0 1505),
 gv "holds" (V.ref 0 690),
 gv "in_order" (V.ref 0 190),
 gv "is_core" (V.ref 0 559),
 gv "is_equality" (V.ref 0 230),
 gv "is_in_ranges" (V.ref 0 343),
 gv "is_name_char" (V.ref 0 371),
 gv "is_name_start" (V.ref 0 364),
 gv "is_nan" (V.ref 0 53),
 gv "is_small_letter" (V.ref 0 357),
 gv "is_space" (V.ref 0 350),
 gv "kept" (V.ref 0 697),
 gv "lines_marked" (V.ref 0 180),
 gv "listed" (V.ref 0 268),
 gv "name_part" (V.ref 0 420),
 gv "needs_nodes" (V.ref 0 988),
 gv "negated" (V.ref 0 60),
 gv "nodes_of" (V.ref 0 392),
 gv "number_of" (V.ref 0 46),
 gv "number_value" (V.ref 0 1493),
 gv "of_binary" (V.ref 0 1014),
 gv "of_call" (V.ref 0 1019),
 gv "of_filter" (V.ref 0 1026),
 gv "of_path" (V.ref 0 1033),
 gv "order_of" (V.ref 0 102),
 gv "parse_path" (V.ref 0 1672),
 gv "parts_of" (V.ref 0 1500),
 gv "path_words" (V.ref 0 1469),
 gv "read_number" (V.ref 0 158),
 gv "reckoned" (V.ref 0 995),
 gv "sign_of" (V.ref 0 38),
 gv "some_pair" (V.ref 0 256),
 gv "sorted_beneath" (V.ref 0 185),
 gv "speaks" (V.ref 0 448),
 gv "summed" (V.ref 0 406),
 gv "told_node" (V.ref 0 413),
 gv "united" (V.ref 0 1000),
 gv "whole_of" (V.ref 0 151)]
noncomputable def blTab : List (Str × V) := [
 gv "abs" (V.bi "abs"),
 gv "bool" (V.ty "bool"),
 gv "enumerate" (V.ty "enumerate"),
 gv "int" (V.ty "int"),
 gv "isinstance" (V.bi "isinstance"),
 gv "len" (V.bi "len"),
 gv "list" (V.ty "list"),
 gv "max" (V.bi "max"),
 gv "ord" (V.bi "ord"),
 gv "range" (V.ty "range"),
 gv "sorted" (V.bi "sorted"),
 gv "str" (V.ty "str"),
 gv "tuple" (V.ty "tuple")]
noncomputable def obTab : List (Nat × O) := [
 ov 332 (O.tup [V.ref 0 320, V.ref 0 321, V.ref 0 322, V.ref 0 323, V.ref 0 324, V.ref 0 325, V.ref 0 326, V.ref 0 327, V.ref 0 328, V.ref 0 329, V.ref 0 330, V.ref 0 331]),
 ov 336 (O.tup [V.ref 0 333, V.ref 0 334, V.ref 0 335]),
 ov 546 (O.tup [V.str "last", V.str "position", V.str "count", V.str "id", V.str "local-name", V.str "namespace-uri", V.str "name", V.str "sum", V.str "lang"]),
 ov 547 (O.tup [V.str "boolean", V.str "not", V.str "true", V.str "false"]),
 ov 548 (O.tup [V.str "number", V.str "floor", V.str "ceiling", V.str "round"]),
 ov 549 (O.tup [V.str "string", V.str "concat", V.str "starts-with", V.str "contains", V.str "substring-before", V.str "substring-after", V.str "substring", V.str "string-length", V.str "normalize-space", V.str "translate"]),
 ov 550 (O.tup [V.str "last", V.str "position", V.str "true", V.str "false"]),
 ov 551 (O.tup [V.str "local-name", V.str "namespace-uri", V.str "name", V.str "string", V.str "number", V.str "string-length", V.str "normalize-space"]),
 ov 552 (O.tup [V.str "starts-with", V.str "contains", V.str "substring-before", V.str "substring-after"]),
 ov 981 (O.tup [V.str "=", V.str "!=", V.str "<", V.str "<=", V.str ">", V.str ">="]),
 ov 1084 (O.tup [V.str "root", V.str "element"]),
 ov 1295 (O.tup [V.str "//", V.str "!=", V.str "<=", V.str ">=", V.str "..", V.str "::"]),
 ov 1296 (O.tup [V.str "/", V.str "//", V.str "|", V.str "+", V.str "-", V.str "=", V.str "!=", V.str "<", V.str "<=", V.str ">", V.str ">="]),
 ov 1297 (O.tup [V.str "(", V.str ")", V.str "[", V.str "]", V.str ".", V.str "..", V.str "@", V.str ",", V.str "::"]),
 ov 1298 (O.tup [V.str "and", V.str "or", V.str "mod", V.str "div"]),
 ov 1299 (O.tup [V.str "comment", V.str "text", V.str "processing-instruction", V.str "node"]),
 ov 1300 (O.tup [V.str "@", V.str "::", V.str "(", V.str "[", V.str ","]),
 ov 1471 (O.dict [(V.str "or", V.int (1)), (V.str "and", V.int (2)), (V.str "=", V.int (3)), (V.str "!=", V.int (3)), (V.str "<", V.int (4)), (V.str "<=", V.int (4)), (V.str ">", V.int (4)), (V.str ">=", V.int (4)), (V.str "+", V.int (5)), (V.str "-", V.int (5)), (V.str "*", V.int (6)), (V.str "div", V.int (6)), (V.str "mod", V.int (6))]),
 ov 1472 (O.tup [V.str "literal", V.str "number", V.str "variable", V.str "function"])]
noncomputable def nestTab : List (Str × Str) := [("asker.<locals>.", "asker.<locals>.value_of"), ("sorted_beneath.<locals>.", "sorted_beneath.<locals>.<lambda>")]
noncomputable def pgT : Pg where
 fns a := (assocN fnTab a).join
 cls a := assocN clTab a
 glob x := glTab.lookup x
 bltn x := blTab.lookup x
 obj a := assocN obTab a
 nest x := nestTab.lookup x
noncomputable def globV (x : Str) : Option V := match pgT.glob x with
 | some v => some v
 | none => pgT.bltn x
end
theorem nbeq (a b : Nat) : Nat.beq a b = decide (a = b) := by
 by_cases h : a = b
 ·subst h; simp [Nat.beq_refl]
 ·rw [decide_eq_false h];cases q : Nat.beq a b with
  | false => rfl
  | true => exact absurd (Nat.eq_of_beq_eq_true q) h
theorem T.get_node (v : Option O) (l r : T) (i : Nat) : (T.node v l r).get i = if i = 0 then v else if i % 2 = 1 then l.get (i / 2) else r.get (i / 2 - 1) := by
 show (match Nat.beq i 0 with | true => v | false => match Nat.beq (i % 2) 1 with | true => l.get (i / 2) | false => r.get (i / 2 - 1)) = _
 rw [nbeq, nbeq];by_cases h : i = 0
 ·simp [h]
 ·by_cases q : i % 2 = 1 <;> simp [h, q]
theorem T.get_nil (i : Nat) : T.nil.get i = none := rfl
theorem T.put_nil (n i : Nat) (o : O) : T.put (n + 1) .nil i o = T.put (n + 1) (.node none .nil .nil) i o := rfl
theorem T.put_node (n i : Nat) (o : O) (v : Option O) (l r : T) : T.put (n + 1) (.node v l r) i o = if i = 0 then .node (some o) l r else if i % 2 = 1 then .node v (T.put n l (i / 2) o) r else .node v l (T.put n r (i / 2 - 1) o) := by
 show (match Nat.beq i 0 with | true => T.node (some o) l r | false => match Nat.beq (i % 2) 1 with | true => T.node v (T.put n l (i / 2) o) r | false => T.node v l (T.put n r (i / 2 - 1) o)) = _
 rw [nbeq, nbeq];by_cases h : i = 0
 ·simp [h]
 ·by_cases q : i % 2 = 1 <;> simp [h, q]
theorem odd2 {i : Nat} (h : i % 2 = 1) : i = 2 * (i / 2) + 1 := by
 have z := Nat.div_add_mod i 2;rw [h] at z;exact z.symm
theorem even2 {i : Nat} (h : ¬ i % 2 = 1) (h0 : ¬ i = 0) : ∃ k, i = 2 * (k + 1) /\ i / 2 - 1 = k := by
 have e : i % 2 = 0 := (Nat.mod_two_eq_zero_or_one i).resolve_right h;have z := Nat.div_add_mod i 2;rw [e] at z;cases q : i / 2 with
 | zero => rw [q] at z; exact absurd z.symm h0
 | succ k => rw [q] at z; exact ⟨k, z.symm, rfl⟩
theorem T.get_put (o : O) : ∀ (n : Nat) (t : T) (i j : Nat), i + 1 < 2 ^ n -> (T.put n t i o).get j = if j = i then some o else t.get j
 | 0, _, i, _, h => absurd (Nat.lt_of_succ_lt_succ h) (Nat.not_lt_zero i)
 | n + 1, t, i, j, h => by
  have key : ∀ v l r, (T.put (n + 1) (.node v l r) i o).get j = if j = i then some o else (T.node v l r).get j := by
   intro v l r;rw [T.put_node];by_cases h0 : i = 0
   ·rw [if_pos h0, T.get_node, T.get_node];subst h0;by_cases hj : j = 0
    ·rw [if_pos hj, if_pos hj]
    ·rw [if_neg hj, if_neg hj, if_neg hj]
   ·rw [if_neg h0, T.get_node v l r];rw [Nat.pow_succ'] at h;by_cases p : i % 2 = 1
    ·rw [if_pos p, T.get_node];have ei := odd2 p;by_cases hj : j = 0
     ·rw [if_pos hj, if_pos hj, if_neg (show ¬ j = i from fun z => h0 (z ▸ hj))]
     ·rw [if_neg hj, if_neg hj];by_cases q : j % 2 = 1
      ·rw [if_pos q, if_pos q, T.get_put o n l (i / 2) (j / 2) (Nat.lt_of_mul_lt_mul_left (a := 2) (lt_of_le_of_lt (le_of_eq (congrArg (· + 1) ei.symm)) h))]
       by_cases e : j = i
       ·rw [if_pos e, if_pos (congrArg (· / 2) e)]
       ·rw [if_neg e, if_neg (show ¬ j / 2 = i / 2 from fun z => e ((odd2 q).trans ((congrArg (2 * · + 1) z).trans ei.symm)))]
      ·rw [if_neg q, if_neg q, if_neg (show ¬ j = i from fun z => q (z ▸ p))]
    ·obtain ⟨a, ei, ea⟩ := even2 p h0;rw [if_neg p, T.get_node];by_cases hj : j = 0
     ·rw [if_pos hj, if_pos hj, if_neg (show ¬ j = i from fun z => h0 (z ▸ hj))]
     ·rw [if_neg hj, if_neg hj];by_cases q : j % 2 = 1
      ·rw [if_pos q, if_pos q, if_neg (show ¬ j = i from fun z => p (z ▸ q))]
      ·obtain ⟨b, ej, eb⟩ := even2 q hj;rw [if_neg q, if_neg q, ea, eb, T.get_put o n r a b (Nat.lt_of_mul_lt_mul_left (a := 2) (Nat.lt_of_succ_lt (lt_of_le_of_lt (le_of_eq (congrArg (· + 1) ei.symm)) h)))]
       by_cases e : j = i
       ·rw [if_pos e, if_pos (Nat.succ.inj (Nat.eq_of_mul_eq_mul_left (Nat.succ_pos 1) (ej.symm.trans (e.trans ei))))]
       ·rw [if_neg e, if_neg (show ¬ b = a from fun z => e (ej.trans (z ▸ ei.symm)))]
  cases t with
  | nil => rw [T.put_nil, key, T.get_node, T.get_nil, T.get_nil, T.get_nil, ite_self, ite_self]
  | node v l r => exact key v l r
theorem Hp.get_eq (H : Hp) (r i : Nat) : H.get r i = if r = H.reg then H.tr.get i else H.base r i := by
 show (match Nat.beq r H.reg with | true => H.tr.get i | false => H.base r i) = _
 rw [nbeq]; by_cases h : r = H.reg <;> simp [h]
theorem Hp.get_upd (H : Hp) (r i : Nat) (o : O) (r' i' : Nat) : (H.upd r i o).get r' i' = if r' = r /\ i' = i then some o else H.get r' i' := by
 unfold Hp.upd;rw [nbeq];by_cases h : r = H.reg
 ·subst h;simp only [decide_true];rw [Hp.get_eq, Hp.get_eq];by_cases q : r' = H.reg
  ·subst q;simp only [if_true, true_and];exact T.get_put o (i + 1) H.tr i i' Nat.lt_two_pow_self
  ·simp [q]
 ·simp only [h, decide_false];rw [Hp.get_eq, Hp.get_eq];by_cases q : r' = H.reg
  ·have : r' ≠ r := fun z => h (z ▸ q);simp [q, Ne.symm h]
  ·simp only [q, if_false];rw [nbeq, nbeq];by_cases e1 : r' = r <;> by_cases e2 : i' = i <;> simp [e1, e2]
theorem Hp.upd_reg (H : Hp) (r i : Nat) (o : O) : (H.upd r i o).reg = H.reg := by unfold Hp.upd; cases Nat.beq r H.reg <;> rfl
theorem Hp.upd_nxt (H : Hp) (r i : Nat) (o : O) : (H.upd r i o).nxt = H.nxt := by unfold Hp.upd; cases Nat.beq r H.reg <;> rfl
theorem Hp.upd_base (H : Hp) (r i : Nat) (o : O) (hr : r ≠ 0) (j : Nat) : (H.upd r i o).base 0 j = H.base 0 j := by
 unfold Hp.upd;rw [nbeq];by_cases h : r = H.reg
 ·simp [h]
 ·simp only [h, decide_false, nbeq];have : (0 : Nat) ≠ r := Ne.symm hr;simp [this]
theorem Hp.push_reg (H : Hp) (o : O) : (H.push o).reg = H.reg := rfl
theorem Hp.push_nxt (H : Hp) (o : O) : (H.push o).nxt = H.nxt + 1 := rfl
theorem Hp.get_push (H : Hp) (o : O) (r i : Nat) : (H.push o).get r i = if r = H.reg /\ i = H.nxt then some o else H.get r i := by
 rw [Hp.get_eq, Hp.get_eq];show (if r = H.reg then (T.put (H.nxt + 1) H.tr H.nxt o).get i else H.base r i) = _
 by_cases q : r = H.reg
 ·rw [if_pos q, if_pos q, T.get_put o (H.nxt + 1) H.tr H.nxt i Nat.lt_two_pow_self];by_cases e : i = H.nxt
  ·rw [if_pos e, if_pos ⟨q, e⟩]
  ·rw [if_neg e, if_neg (fun z => e z.2)]
 ·rw [if_neg q, if_neg q, if_neg (fun z => q z.1)]

inductive Key where
 | none | int (i : Int) | str (s : Str)
 deriving DecidableEq
noncomputable def keyV : V -> Option Key
 | .none => some .none | .int i => some (.int i) | .str s => some (.str s) | _ => Option.none
noncomputable def keyIs (k : Key) (v : V) : Bool := match keyV v with
 | some j => decide (j = k)
 | none => false
noncomputable def inD (k : Key) : List (V × V) -> Option V
 | [] => none
 | y :: r => match keyIs k y.1 with
  | true => some y.2
  | false => inD k r
noncomputable def putD (k : Key) (x v : V) : List (V × V) -> List (V × V)
 | [] => [(x, v)]
 | y :: r => match keyIs k y.1 with
  | true => (y.1, v) :: r
  | false => y :: putD k x v r

noncomputable abbrev Mp := Nat -> Nat -> Option (Nat × Nat)
noncomputable def VR (m : Mp) : V -> Value -> Prop
 | .none, v => v = .none
 | .bool b, v => v = .bool b
 | .int i, v => ∃ t, v = .int i t
 | .str s, v => ∃ t, v = .str s t
 | .ref r i, v => ∃ p, m r i = some p /\ v = .ref p.1
 | .bi id, v => v = .builtin id
 | .ty n, v => v = .type n
noncomputable def VRs (m : Mp) : List V -> List Value -> Prop
 | [], [] => True
 | x :: xs, u :: us => VR m x u /\ VRs m xs us
 | _, _ => False
def MLe (m m' : Mp) : Prop := ∀ r i p, m r i = some p -> m' r i = some p
theorem MLe.refl (m : Mp) : MLe m m := fun _ _ _ h => h
theorem MLe.trans {a b c : Mp} (x : MLe a b) (y : MLe b c) : MLe a c := fun r i p h => y r i p (x r i p h)
theorem VR.mono {m m' : Mp} (l : MLe m m') : ∀ {x : V} {u : Value}, VR m x u -> VR m' x u
 | .none, _, h => h | .bool _, _, h => h | .int _, _, h => h | .str _, _, h => h | .bi _, _, h => h | .ty _, _, h => h
 | .ref _ _, _, ⟨p, a, b⟩ => ⟨p, l _ _ _ a, b⟩
theorem VRs.mono {m m' : Mp} (l : MLe m m') : ∀ {xs : List V} {us : List Value}, VRs m xs us -> VRs m' xs us
 | [], [], _ => trivial
 | _ :: _, _ :: _, ⟨a, b⟩ => ⟨a.mono l, VRs.mono l b⟩
 | [], _ :: _, h => h.elim
 | _ :: _, [], h => h.elim
theorem VRs.length {m : Mp} : ∀ {xs : List V} {us : List Value}, VRs m xs us -> us.length = xs.length
 | [], [], _ => rfl
 | _ :: _, _ :: _, ⟨_, b⟩ => by rw [List.length_cons, List.length_cons, VRs.length b]
 | [], _ :: _, h => h.elim
 | _ :: _, [], h => h.elim
theorem VRs.one {m : Mp} {x : V} : ∀ {us : List Value}, VRs m [x] us -> ∃ u, us = [u] /\ VR m x u := by
 intro us h;cases us with
 | nil => exact h.elim
 | cons u vs => cases vs with
  | nil => exact ⟨u, rfl, h.1⟩
  | cons _ _ => exact h.2.elim
theorem VRs.three {m : Mp} {x y z : V} {us : List Value} (h : VRs m [x, y, z] us) : ∃ a b c, us = [a, b, c] := by
 cases us with
 | nil => exact h.elim
 | cons a us => cases us with
  | nil => exact h.2.elim
  | cons b us => obtain ⟨c, e, _⟩ := VRs.one h.2.2; exact ⟨a, b, c, e ▸ rfl⟩
theorem VRs.get {m : Mp} : ∀ {xs : List V} {us : List Value} {k : Nat} {x : V}, VRs m xs us -> xs[k]? = some x -> ∃ u, us[k]? = some u /\ VR m x u
 | _ :: _, u :: _, 0, _, ⟨a, _⟩, e => by cases e; exact ⟨u, rfl, a⟩
 | _ :: _, _ :: _, k + 1, _, ⟨_, b⟩, e => VRs.get (k := k) b (by simpa using e)
 | [], [], _, _, _, e => by cases e
 | [], _ :: _, _, _, h, _ => h.elim
 | _ :: _, [], _, _, h, _ => h.elim
theorem VRs.append {m : Mp} : ∀ {xs ys : List V} {us vs : List Value}, VRs m xs us -> VRs m ys vs -> VRs m (xs ++ ys) (us ++ vs)
 | [], _, [], _, _, h => h
 | _ :: _, _, _ :: _, _, ⟨a, b⟩, h => ⟨a, VRs.append b h⟩
 | [], _, _ :: _, _, h, _ => h.elim
 | _ :: _, _, [], _, h, _ => h.elim
theorem VRs.take {m : Mp} (k : Nat) : ∀ {xs : List V} {us : List Value}, VRs m xs us -> VRs m (xs.take k) (us.take k) := by
 induction k with
 | zero => intro xs us _; rw [List.take_zero, List.take_zero]; exact trivial
 | succ k ih =>
  intro xs us h;cases xs <;> cases us <;> first | exact h.elim | exact ⟨h.1, ih h.2⟩ | trivial
theorem VRs.drop {m : Mp} (k : Nat) : ∀ {xs : List V} {us : List Value}, VRs m xs us -> VRs m (xs.drop k) (us.drop k) := by
 induction k with
 | zero => intro xs us h; exact h
 | succ k ih =>
  intro xs us h;cases xs <;> cases us <;> first | exact h.elim | exact ih h.2 | trivial
theorem VRs.reverse {m : Mp} : ∀ {xs : List V} {us : List Value}, VRs m xs us -> VRs m xs.reverse us.reverse
 | [], [], _ => trivial
 | _ :: _, _ :: _, ⟨a, b⟩ => by rw [List.reverse_cons, List.reverse_cons]; exact VRs.append (VRs.reverse b) ⟨a, trivial⟩
 | [], _ :: _, h => h.elim
 | _ :: _, [], h => h.elim
theorem VRs.set {m : Mp} {x : V} {u : Value} (h : VR m x u) : ∀ {xs : List V} {us : List Value} (k : Nat), VRs m xs us -> VRs m (xs.set k x) (us.set k u)
 | [], [], _, _ => trivial
 | _ :: _, _ :: _, 0, ⟨_, b⟩ => ⟨h, b⟩
 | _ :: _, _ :: _, k + 1, ⟨a, b⟩ => ⟨a, VRs.set h k b⟩
 | [], _ :: _, _, h => h.elim
 | _ :: _, [], _, h => h.elim

noncomputable def FVs (m : Mp) : List (Str × V) -> List (Str × Value) -> Prop
 | [], [] => True
 | x :: xs, u :: us => (x.1 = u.1 /\ VR m x.2 u.2) /\ FVs m xs us
 | _, _ => False
theorem FVs.mono {m m' : Mp} (l : MLe m m') : ∀ {xs : List (Str × V)} {us : List (Str × Value)}, FVs m xs us -> FVs m' xs us
 | [], [], _ => trivial
 | _ :: _, _ :: _, ⟨a, b⟩ => ⟨⟨a.1, a.2.mono l⟩, FVs.mono l b⟩
 | [], _ :: _, h => h.elim
 | _ :: _, [], h => h.elim
noncomputable def Key.isV : Key -> Value -> Bool
 | .none, .none => true
 | .int i, v => Value.isInt i v
 | .str s, v => Value.isStrOf s v
 | _, _ => false
theorem Key.isV_none {v : Value} (h : Key.isV .none v = true) : v = .none := by
 cases v <;> first | rfl | cases h
theorem Key.isV_int {i : Int} {v : Value} (h : Key.isV (.int i) v = true) : ∃ t, v = .int i t := Value.isInt_shape (by cases v <;> exact h)
theorem Key.isV_str {x : Str} {v : Value} (h : Key.isV (.str x) v = true) : ∃ t, v = .str x t := Value.isStrOf_shape (by cases v <;> exact h)
noncomputable def noneHash : Int := 0xFCA86420
noncomputable def Key.hash (w : World) : Key -> Int
 | .none => noneHash
 | .int i => hashInt i
 | .str s => hashStr w s
section
variable {prog : Program} {w : World} {A : Around} {E : Value -> Shared -> Prop} {s : Shared}
theorem pyHash_none {Q : Int -> Shared -> Prop} (h : Q noneHash { s with toks := s.toks + 1 }) : wpAny (model prog w) A (pyHash .none) Q E s := by
 unfold pyHash pyHashByItsType;have hT : s.TypeIs .none "NoneType" := rfl;refine wpAny_bind (wpAny_cRoomFor_byValue rfl ?_);refine wpAny_bind (wpAny_specialOf hT F.slot_NoneType_hash.lookup ?_);show wpAny _ _ (if (some (Value.builtin "NoneType.__hash__") == some Value.none) = true then _ else _) Q E s
 rw [if_neg (by decide)]
 refine wpAny_bind (wpAny_specialOf hT F.slot_NoneType_hash.lookup ?_);show wpAny _ _ (callSpecialIfBoundUnlessNone? .none "__hash__" _ >>= _) Q E s;refine wpAny_bind (wpAny_callSpecialIfBoundUnlessNone?_slot hT F.slot_NoneType_hash
  (wpAny_call_entry F.slot_NoneType_hash hT F.entry_NoneType_hash
   (show wpAny _ _ (do retInt 0xFCA86420) _ _ s from ?_) (F.args_NoneType_hash_1 _)))
 refine wpAny_ret_mkInt ?_;show wpAny _ _ (if (decide (-(2 : Int) ^ 63 <= noneHash) && decide (noneHash < 2 ^ 63)) = true then _ else _) Q E _
 rw [if_pos (by decide)]
 exact wpAny_pure h
end
noncomputable def Key.ofV : Value -> Key
 | .int i _ => .int i
 | .str x _ => .str x
 | _ => .none
theorem Key.of_isV {v : Value} {a : Key} (h : Key.isV a v = true) : Key.ofV v = a := by
 cases a with
 | none => rw [Key.isV_none h]; rfl
 | int i => obtain ⟨_, e⟩ := Key.isV_int h; rw [e]; rfl
 | str i => obtain ⟨_, e⟩ := Key.isV_str h; rw [e]; rfl
open SeqAt in
noncomputable def uKind (prog : Program) (w : World) : KeyKind prog w Key where
 is := Key.isV
 hash := Key.hash w
 inj := fun v a b ha hb => (Key.of_isV ha).symm.trans (Key.of_isV hb)
 byValue := fun k v h => by
  cases k
  ·rw [Key.isV_none h]; rfl
  ·obtain ⟨t, rfl⟩ := Key.isV_int h; rfl
  ·obtain ⟨t, rfl⟩ := Key.isV_str h; rfl
 pyHash := fun {A E s k v Q} hv h => by
  cases k
  ·rw [Key.isV_none hv]; exact pyHash_none h
  ·obtain ⟨t, rfl⟩ := Key.isV_int hv; exact wpAny_pyHash_int h
  ·obtain ⟨t, rfl⟩ := Key.isV_str hv; exact wpAny_pyHash_str h
 eqBool := fun {A E s a b u v Q} hu hv h => by
  have e : ∀ k, EqAt A s u v k -> k = decide (a = b) -> wpAny (model prog w) A (PySem.eqBool u v) Q E s := fun k x e => x _ _ _ _ (e ▸ h);cases a with
  | none =>
   have q := Key.isV_none hu;subst q;cases b with
   | none => have q := Key.isV_none hv; subst q; exact e true (EqAt.same _) rfl
   | int i => obtain ⟨_, q⟩ := Key.isV_int hv; subst q; exact e false (EqAt.none_int _ _) rfl
   | str i => obtain ⟨_, q⟩ := Key.isV_str hv; subst q; exact e false (EqAt.none_str _ _) rfl
  | int j =>
   obtain ⟨_, q⟩ := Key.isV_int hu;subst q;cases b with
   | none => have q := Key.isV_none hv; subst q; exact e false (EqAt.int_none _ _) rfl
   | int i => obtain ⟨_, q⟩ := Key.isV_int hv; subst q; exact e _ (EqAt.int_int _ _ _ _) (by simp [Bool.beq_eq_decide_eq])
   | str i => obtain ⟨_, q⟩ := Key.isV_str hv; subst q; exact e false (EqAt.int_str _ _ _ _) rfl
  | str j =>
   obtain ⟨_, q⟩ := Key.isV_str hu;subst q;cases b with
   | none => have q := Key.isV_none hv; subst q; exact e false (EqAt.str_none _ _) rfl
   | int i => obtain ⟨_, q⟩ := Key.isV_int hv; subst q; exact e false (EqAt.str_int _ _ _ _) rfl
   | str i => obtain ⟨_, q⟩ := Key.isV_str hv; subst q; exact e _ (EqAt.str_str _ _ _ _) (by simp [Bool.beq_eq_decide_eq])
 «strs» := fun k x t v h => by
  cases k with
  | none => cases h
  | int i => cases h
  | str y =>
   obtain ⟨u, hu⟩ := Key.isV_str h;injection hu with hx
   subst hx;cases v <;> rfl
theorem ltZ {h : Heap} {a : Nat} {o : Obj} (e : h.get? a = some o) : a < h.objs.size := Heap.lt_size e
structure Bs where
 prog : Program
 w : World
 h0 : Heap
 n0 : Nat
 tabs : List Nat
 codeT : Str -> Option (Nat × Nat)
 K : Frag
 sx : List V
 os : OsState
 gens : Array GenState
noncomputable def Bs.ob (B : Bs) (i : Nat) : Option O := match Nat.beq i 1718 with
 | true => some (.list B.sx)
 | false => pgT.obj i

noncomputable def DRs (m : Mp) : List (V × V) -> List (Key × Value) -> Prop
 | [], [] => True
 | x :: xs, y :: ys => (keyV x.1 = some y.1 /\ VR m x.2 y.2) /\ DRs m xs ys
 | _, _ => False
noncomputable def CVs (m : Mp) : List (Str × Nat × Nat) -> List (Str × Nat) -> Prop
 | [], [] => True
 | x :: xs, y :: ys => (x.1 = y.1 /\ ∃ p, m x.2.1 x.2.2 = some p /\ y.2 = p.1) /\ CVs m xs ys
 | _, _ => False
def LocR (m : Mp) (l : List (Str × V)) (f : Str -> Option Value) : Prop := ∀ x v, l.lookup x = some v -> ∃ u, f x = some u /\ VR m v u
theorem DRs.mono {m m' : Mp} (l : MLe m m') : ∀ {xs : List (V × V)} {us : List (Key × Value)}, DRs m xs us -> DRs m' xs us
 | [], [], _ => trivial
 | _ :: _, _ :: _, ⟨a, b⟩ => ⟨⟨a.1, a.2.mono l⟩, DRs.mono l b⟩
 | [], _ :: _, h => h.elim
 | _ :: _, [], h => h.elim
theorem DRs.length {m : Mp} : ∀ {xs : List (V × V)} {us : List (Key × Value)}, DRs m xs us -> us.length = xs.length
 | [], [], _ => rfl
 | _ :: _, _ :: _, ⟨_, b⟩ => by rw [List.length_cons, List.length_cons, DRs.length b]
 | [], _ :: _, h => h.elim
 | _ :: _, [], h => h.elim
theorem CVs.mono {m m' : Mp} (l : MLe m m') : ∀ {xs : List (Str × Nat × Nat)} {us : List (Str × Nat)}, CVs m xs us -> CVs m' xs us
 | [], [], _ => trivial
 | _ :: _, _ :: _, ⟨⟨a, p, b, c⟩, d⟩ => ⟨⟨a, p, l _ _ _ b, c⟩, CVs.mono l d⟩
 | [], _ :: _, h => h.elim
 | _ :: _, [], h => h.elim
theorem LocR.mono {m m' : Mp} (l : MLe m m') {xs : List (Str × V)} {f : Str -> Option Value} (h : LocR m xs f) : LocR m' xs f :=
 fun x v e => let ⟨u, a, b⟩ := h x v e; ⟨u, a, b.mono l⟩

def NP (m : Mp) (a : Nat) : Prop := ∀ r i p, r ≠ 0 -> m r i = some p -> p.1 ≠ a /\ p.2 ≠ a

def CellV (m : Mp) (v : Option V) (u : Option Value) : Prop := ∀ x, v = some x -> ∃ y, u = some y /\ VR m x y
structure CloR (m : Mp) (c : Clo) (fd : FuncData) (h : Heap) : Prop where
 qual : fd.qualname = c.qual
 params : fd.params = c.arguments
 body : fd.body = c.body
 scope : fd.scope = c.scope
 globals : fd.globals = mainGlobals
 builtins : fd.builtins = builtinsNs
 dflt : fd.defaults = .none
 kwd : fd.kwdefaults = .none
 cells : CVs m c.cells fd.closure
 names : c.params = c.arguments.args.map (·.arg)
 kind : fd.scope.kind = .function
 co : fd.scope.isCoroutine = false
 gen : fd.scope.isGenerator = false
 po : c.arguments.posonlyargs = []
 va : c.arguments.vararg = none
 ko : c.arguments.kwonlyargs = []
 kwa : c.arguments.kwarg = none
 df : c.arguments.defaults = []
 code : ∃ c', fd.code = .ref c' /\ h.CodeRec (.ref c') fd.qualname /\ m 1 c' = some (c', c')
def OR (B : Bs) (m : Mp) (o : O) (p : Nat × Nat) (h : Heap) : Prop := match o with
 | .list xs => ∃ us n, h.get? p.1 = some { cls := .type "list", data := .seq us n } /\ VRs m xs us.toList
 | .tup xs => ∃ us n, h.get? p.1 = some { cls := .type "tuple", data := .seq us n } /\ VRs m xs us.toList
 | .dict es => ∃ kvs, h.DictAt (uKind B.prog B.w) p.1 kvs kvs.length /\ DRs m es kvs
 | .inst C fs => h.get? p.1 = some (instObj C p.2) /\ ∃ f, h.Ns1 p.2 f /\ LocR m fs f /\ Within f (fs.map (·.1))
 | .cell v => ∃ u, h.IsCell p.1 u /\ CellV m v u
 | .clo c => ∃ fd, h.get? p.1 = some { cls := .type "function", data := .func fd } /\ CloR m c fd h

theorem code_pin {q : Str} {c : Nat} {h h' : Heap} (r : h.CodeRec (.ref c) q) (k : ∀ o, h.get? c = some o -> h'.get? c = some o) : h'.CodeRec (.ref c) q :=
 let ⟨c2, o, vs, tt, e2, e3, e4⟩ := r
 ⟨c2, o, vs, tt, e2, by cases e2; exact k _ e3, e4⟩
def Kp (X : List Nat) (h h' : Heap) : Prop := ∀ (b : Nat) o, b ∉ X -> h.get? b = some o -> h'.get? b = some o
theorem OR.keep {B : Bs} {m m' : Mp} {o : O} {p : Nat × Nat} {h h' : Heap} (x : OR B m o p h) (l : MLe m m') (h1 : ∀ o, h.get? p.1 = some o -> h'.get? p.1 = some o)
  (h2 : ∀ o, h.get? p.2 = some o -> h'.get? p.2 = some o) (hc : ∀ c q, m 1 c = some q -> ∀ o, h.get? c = some o -> h'.get? c = some o) : OR B m' o p h' := by
 cases o with
 | list xs => obtain ⟨us, n, a, b⟩ := x; exact ⟨us, n, h1 _ a, b.mono l⟩
 | tup xs => obtain ⟨us, n, a, b⟩ := x; exact ⟨us, n, h1 _ a, b.mono l⟩
 | dict es => obtain ⟨kvs, ⟨o, es', a, r⟩, b⟩ := x; exact ⟨kvs, ⟨o, es', h1 _ a, r⟩, b.mono l⟩
 | inst C fs => obtain ⟨a, f, b, d, w⟩ := x; exact ⟨h1 _ a, f, b.at h2, d.mono l, w⟩
 | cell v =>
  obtain ⟨u, ⟨o, a, r⟩, b⟩ := x;exact ⟨u, ⟨o, h1 _ a, r⟩, fun x e => let ⟨y, c, d⟩ := b x e; ⟨y, c, d.mono l⟩⟩
 | clo c =>
  obtain ⟨fd, a, b⟩ := x;exact ⟨fd, h1 _ a, { b with cells := b.cells.mono l, code := let ⟨c', e1, e2, e3⟩ := b.code; ⟨c', e1, code_pin e2 (hc _ _ e3), l _ _ _ e3⟩ }⟩

structure TabR (m : Mp) (h : Heap) (q : Str) (P : Nat) (ps : Array Value) : Prop where
 at_ : h.get? P = some (tabObj ps)
 ok : TriplesOk ps.toList
 codes : ∀ pos cv, codeAmong pos ps.toList = some cv -> ∃ c', cv = .ref c' /\ h.CodeRec (.ref c') q /\ m 1 c' = some (c', c')

structure Rel (B : Bs) (m : Mp) (H : Hp) (h : Heap) : Prop where
 keep : ∀ (a : Nat) o, a ∉ B.tabs -> B.h0.get? a = some o -> h.get? a = some o
 tab : ∀ q c P, B.codeT q = some (c, P) -> P ∈ B.tabs /\ ∃ ps, TabR m h q P ps
 low : ∀ a, a < B.n0 -> a ∉ B.tabs -> m 0 a = some (a, a)
 zero : ∀ a p, m 0 a = some p -> p = (a, a) /\ a < B.n0 /\ a ∉ B.tabs
 one : ∀ c p, m 1 c = some p -> p = (c, c)
 obj : ∀ r i p o, m r i = some p -> H.get r i = some o -> OR B m o p h
 hi : ∀ r i p, r ≠ 0 -> m r i = some p -> (B.n0 <= p.1 /\ p.1 < h.objs.size) /\ B.n0 <= p.2 /\ p.2 < h.objs.size
 sep : ∀ r i p r' i' p', r ≠ 0 -> r' ≠ 0 -> m r i = some p -> m r' i' = some p' -> (p.1 = p'.1 \/ p.1 = p'.2 \/ p.2 = p'.1 \/ p.2 = p'.2) -> r = r' /\ i = i'
 fresh : ∀ k, H.nxt <= k -> m H.reg k = none
 reg : 2 <= H.reg
 pin : ∀ i, H.get 1 i = none
 top : ∀ i, H.base 0 i = B.ob i
 size : B.n0 <= h.objs.size
 tlow : ∀ a, a ∈ B.tabs -> a < B.n0
 base : B.h0.objs.size = B.n0
 regs : ∀ r i p, m r i = some p -> r <= H.reg

class Sam (B : Bs) (s : Shared) : Prop where
 os : s.os = B.os
 gens : s.gens = B.gens
noncomputable instance samU (B : Bs) (s : Shared) (h : Heap) (d : Drawn) (t : Nat) [x : Sam B s] : Sam B ⟨h, s.gens, d, t, s.os⟩ := ⟨x.os, x.gens⟩

structure Step (B : Bs) (X : List Nat) (m : Mp) (h : Heap) (m' : Mp) (h' : Heap) : Prop where
 le : MLe m m'
 news : ∀ r i p, m' r i = some p -> m r i = some p \/ (r ≠ 0 /\ h.objs.size <= p.1 /\ h.objs.size <= p.2)
 size : h.objs.size <= h'.objs.size
 keep : ∀ (b : Nat) o, b ∉ B.tabs -> b ∉ X -> NP m b -> h.get? b = some o -> h'.get? b = some o
 pins : ∀ c p, m 1 c = some p -> ∀ o, h.get? p.1 = some o -> h'.get? p.1 = some o

section
variable {B : Bs} {X Y : List Nat} {m m' m'' : Mp} {h h' h'' : Heap} {H H' : Hp}
theorem Step.refl (B : Bs) (X : List Nat) (m : Mp) (h : Heap) : Step B X m h m h := ⟨MLe.refl m, fun _ _ _ e => .inl e, Nat.le_refl _, fun _ _ _ _ _ e => e, fun _ _ _ _ e => e⟩
theorem Step.np (s : Step B X m h m' h') {a : Nat} (x : NP m a) (l : a < h.objs.size) : NP m' a := fun r i p hr e => by
 rcases s.news r i p e with e | ⟨_, a1, a2⟩
 ·exact x r i p hr e
 ·exact ⟨far2 a1 l, far2 a2 l⟩
theorem Step.trans (s : Step B X m h m' h') (t : Step B X m' h' m'' h'') : Step B X m h m'' h'' where
 le := s.le.trans t.le
 news r i p e := by
  rcases t.news r i p e with e | ⟨a, b, c⟩
  ·exact s.news r i p e
  ·have := s.size; exact .inr ⟨a, le_trans this b, le_trans this c⟩
 size := le_trans s.size t.size
 keep b o hb hx n e := t.keep b o hb hx (s.np n (ltZ e)) (s.keep b o hb hx n e)
 pins c p e o g := t.pins c p (s.le _ _ _ e) o (s.pins c p e o g)
theorem Step.wide (s : Step B X m h m' h') (hx : ∀ a ∈ X, a ∈ Y) : Step B Y m h m' h' := ⟨s.le, s.news, s.size, fun b o hb hy n e => s.keep b o hb (fun z => hy (hx _ z)) n e, s.pins⟩
theorem Step.nil (s : Step B [] m h m' h') : Step B Y m h m' h' := s.wide fun _ z => nomatch z
theorem Step.narrow (s : Step B (X ++ Y) m h m' h') (hy : ∀ a ∈ Y, h.objs.size <= a) : Step B X m h m' h' :=
 ⟨s.le, s.news, s.size, fun b o hb hx n e => s.keep b o hb (fun z => by
  rcases List.mem_append.mp z with z | z
  ·exact hx z
  ·exact absurd (ltZ e) (Nat.not_lt.2 (hy _ z))) n e, s.pins⟩

theorem Rel.notTab (R : Rel B m H h) {a : Nat} (x : B.n0 <= a) : a ∉ B.tabs := fun z => absurd (R.tlow a z) (Nat.not_lt.2 x)
theorem Rel.np_new (R : Rel B m H h) {a : Nat} (x : h.objs.size <= a) : NP m a := fun r i p hr e => by
 have := R.hi r i p hr e;exact ⟨(far2 x this.1.2).symm, (far2 x this.2.2).symm⟩

theorem Rel.priv (R : Rel B m H h) (hX : ∀ a ∈ X, NP m a /\ B.n0 <= a) (hk : ∀ (b : Nat) o, b ∉ X -> h.get? b = some o -> h'.get? b = some o) (hs : h.objs.size <= h'.objs.size) : Rel B m H h' /\ Step B X m h m h' := by
 have hlow : ∀ (b : Nat) o, b < B.n0 -> h.get? b = some o -> h'.get? b = some o := fun b o hb e => hk b o (fun z => absurd hb (Nat.not_lt.2 (hX b z).2)) e;have hnp : ∀ r i p, r ≠ 0 -> m r i = some p -> p.1 ∉ X /\ p.2 ∉ X := fun r i p hr e => ⟨fun z => ((hX _ z).1 r i p hr e).1 rfl, fun z => ((hX _ z).1 r i p hr e).2 rfl⟩;have hcode : ∀ c q, m 1 c = some q -> ∀ o, h.get? c = some o -> h'.get? c = some o := fun c q e o g => by
  have e1 := R.one c q e;have := (hnp 1 c q (by decide) e).1
  rw [e1] at this;exact hk _ _ this g
 refine ⟨⟨fun a o ht e => ?_, fun q c P e => ?_, R.low, R.zero, R.one, fun r i p o e g => ?_, fun r i p hr e => ?_, R.sep, R.fresh, R.reg, R.pin, R.top, le_trans R.size hs, R.tlow, R.base, R.regs⟩,
  MLe.refl m, fun _ _ _ e => .inl e, hs, fun b o _ hx _ e => hk b o hx e, fun c p e o g => hk _ _ (hnp 1 c p (by decide) e).1 g⟩
 ·exact hlow a o (by have := ltZ e; rw [R.base] at this; exact this) (R.keep a o ht e)
 ·obtain ⟨a, ps, t⟩ := R.tab q c P e;refine ⟨a, ps, hlow _ _ (R.tlow _ a) t.at_, t.ok, fun pos cv z => ?_⟩;obtain ⟨c', e1, e2, e5⟩ := t.codes pos cv z;exact ⟨c', e1, code_pin e2 (hcode _ _ e5), e5⟩
 ·refine (R.obj r i p o e g).keep (MLe.refl m) (fun o z => ?_) (fun o z => ?_) hcode
  ·by_cases hr : r = 0
   ·subst hr;obtain ⟨rfl, h2, _⟩ := R.zero i p e;exact hlow _ _ h2 z
   ·exact hk _ _ (hnp r i p hr e).1 z
  ·by_cases hr : r = 0
   ·subst hr;obtain ⟨rfl, h2, _⟩ := R.zero i p e;exact hlow _ _ h2 z
   ·exact hk _ _ (hnp r i p hr e).2 z
 ·have := R.hi r i p hr e;exact ⟨⟨this.1.1, lt_of_lt_of_le this.1.2 hs⟩, this.2.1, lt_of_lt_of_le this.2.2 hs⟩

theorem Rel.write (R : Rel B m H h) {r i : Nat} {p : Nat × Nat} {o : O} (hr : 2 <= r) (hm : m r i = some p) (hk : ∀ (b : Nat) o, b ≠ p.1 -> b ≠ p.2 -> h.get? b = some o -> h'.get? b = some o)
  (hs : h'.objs.size = h.objs.size) (ho : OR B m o p h') : Rel B m (H.upd r i o) h' /\ Step B [] m h m h' := by
 have r0 : r ≠ 0 := Nat.ne_of_gt (Nat.lt_of_succ_lt hr);have hp := R.hi r i p r0 hm;have hlow : ∀ (b : Nat) o, b < B.n0 -> h.get? b = some o -> h'.get? b = some o := fun b o hb e => hk b o (far2 hp.1.1 hb).symm (far2 hp.2.1 hb).symm e;have hpin : ∀ c q, m 1 c = some q -> ∀ o, h.get? q.1 = some o -> h'.get? q.1 = some o := fun c q e o g => by
  refine hk _ _ (fun z => ?_) (fun z => ?_) g
  ·exact Nat.ne_of_lt hr (R.sep 1 c q r i p (by decide) r0 e hm (.inl z)).1
  ·exact Nat.ne_of_lt hr (R.sep 1 c q r i p (by decide) r0 e hm (.inr (.inl z))).1
 have hcode : ∀ c q, m 1 c = some q -> ∀ o, h.get? c = some o -> h'.get? c = some o := fun c q e o g => by
  have e1 := R.one c q e;have := hpin c q e o;rw [e1] at this;exact this g
 refine ⟨⟨fun a o ht e => ?_, fun q c P e => ?_, R.low, R.zero, R.one, fun r' i' p' o' e g => ?_, fun r i p hr e => ?_, R.sep, ?_, ?_, fun j => ?_, fun j => ?_, by rw [hs]; exact R.size, R.tlow, R.base, fun r i p e => by rw [Hp.upd_reg]; exact R.regs r i p e⟩,
  MLe.refl m, fun _ _ _ e => .inl e, le_of_eq hs.symm, fun b o _ _ n e => hk b o (fun z => (n r i p r0 hm).1 z.symm) (fun z => (n r i p r0 hm).2 z.symm) e, hpin⟩
 ·exact hlow a o (by have := ltZ e; rw [R.base] at this; exact this) (R.keep a o ht e)
 ·obtain ⟨a, ps, t⟩ := R.tab q c P e;refine ⟨a, ps, hlow _ _ (R.tlow _ a) t.at_, t.ok, fun pos cv z => ?_⟩;obtain ⟨c', e1, e2, e5⟩ := t.codes pos cv z;exact ⟨c', e1, code_pin e2 (hcode _ _ e5), e5⟩
 ·rw [Hp.get_upd] at g;by_cases hq : r' = r /\ i' = i
  ·rw [if_pos hq] at g;obtain ⟨rfl, rfl⟩ := hq;rw [hm] at e;cases e; cases g;exact ho
  ·rw [if_neg hq] at g;have far : ∀ b : Nat, (b = p'.1 \/ b = p'.2) -> ∀ o, h.get? b = some o -> h'.get? b = some o := by
    intro b hb o z;by_cases r0' : r' = 0
    ·subst r0';obtain ⟨rfl, h2, _⟩ := R.zero i' p' e;have : b = i' := by rcases hb with x | x <;> exact x
     subst this;exact hlow _ _ h2 z
    ·refine hk _ _ (fun y => hq ?_) (fun y => hq ?_) z
     ·refine R.sep r' i' p' r i p r0' r0 e hm ?_;rcases hb with x | x
      ·exact .inl (x ▸ y)
      ·exact .inr (.inr (.inl (x ▸ y)))
     ·refine R.sep r' i' p' r i p r0' r0 e hm ?_;rcases hb with x | x
      ·exact .inr (.inl (x ▸ y))
      ·exact .inr (.inr (.inr (x ▸ y)))
   exact (R.obj r' i' p' o' e g).keep (MLe.refl m) (far _ (.inl rfl)) (far _ (.inr rfl)) hcode
 ·have := R.hi r i p hr e;rw [hs];exact this
 ·rw [Hp.upd_nxt, Hp.upd_reg]; exact R.fresh
 ·rw [Hp.upd_reg]; exact R.reg
 ·rw [Hp.get_upd, if_neg fun z => Nat.ne_of_lt hr z.1]; exact R.pin j
 ·rw [Hp.upd_base _ _ _ _ r0]; exact R.top j

noncomputable def Mp.set (m : Mp) (r i : Nat) (p : Nat × Nat) : Mp := fun r' i' => if r' = r /\ i' = i then some p else m r' i'
theorem Mp.le_set {r i : Nat} {p : Nat × Nat} (h : m r i = none) : MLe m (m.set r i p) := fun r' i' p' e => by
 unfold Mp.set;by_cases q : r' = r /\ i' = i
 ·obtain ⟨rfl, rfl⟩ := q; rw [h] at e; cases e
 ·rw [if_neg q]; exact e
theorem Mp.set_self {r i : Nat} {p : Nat × Nat} : (m.set r i p) r i = some p := by unfold Mp.set; rw [if_pos ⟨rfl, rfl⟩]
theorem Mp.set_inv {r i r' i' : Nat} {p p' : Nat × Nat} (h : (m.set r i p) r' i' = some p') : (r' = r /\ i' = i /\ p' = p) \/ m r' i' = some p' := by
 unfold Mp.set at h;by_cases q : r' = r /\ i' = i
 ·rw [if_pos q] at h; cases h; exact .inl ⟨q.1, q.2, rfl⟩
 ·rw [if_neg q] at h; exact .inr h

theorem Rel.name (R : Rel B m H h) {r i : Nat} {p : Nat × Nat} (hr : r ≠ 0) (hn : m r i = none) (hk : ∀ (b : Nat) o, h.get? b = some o -> h'.get? b = some o) (hs : h.objs.size <= h'.objs.size)
  (h1 : h.objs.size <= p.1 /\ p.1 < h'.objs.size) (h2 : h.objs.size <= p.2 /\ p.2 < h'.objs.size) (hone : r = 1 -> p = (i, i)) (hH' : ∀ r' i', H'.get r' i' = if r' = r /\ i' = i /\ r ≠ 1 then H'.get r' i' else H.get r' i')
  (ho : ∀ o, H'.get r i = some o -> OR B (m.set r i p) o p h') (hreg : H'.reg = H.reg) (hnxt : H.nxt <= H'.nxt) (hfr : r = H.reg -> i < H'.nxt) (htop : ∀ j, H'.base 0 j = H.base 0 j) (hrl : r <= H.reg) :
  Rel B (m.set r i p) H' h' /\ Step B [] m h (m.set r i p) h' := by
 have le := Mp.le_set (p := p) hn;have hz := R.size;refine ⟨⟨fun a o ht e => hk _ _ (R.keep a o ht e), fun q c P e => ?_, fun a ha ht => le _ _ _ (R.low a ha ht), fun a q e => ?_, fun c q e => ?_, fun r' i' p' o' e g => ?_, fun r' i' p' hr' e => ?_, fun r1 i1 p1 r2 i2 p2 hr1 hr2 e1 e2 hq => ?_, fun k hk' => ?_, ?_, fun j => ?_, fun j => ?_, le_trans hz hs, R.tlow, R.base, fun r' i' p' e => by
   rw [hreg];rcases Mp.set_inv e with ⟨e1, _⟩ | e
   ·exact e1 ▸ hrl
   ·exact R.regs r' i' p' e⟩,
  le, fun r' i' p' e => ?_, hs, fun b o _ _ _ e => hk b o e, fun c q e o g => hk _ _ g⟩
 ·obtain ⟨a, ps, t⟩ := R.tab q c P e;refine ⟨a, ps, hk _ _ t.at_, t.ok, fun pos cv z => ?_⟩;obtain ⟨c', e1, e2, e5⟩ := t.codes pos cv z;exact ⟨c', e1, e2.keeps hk, le _ _ _ e5⟩
 ·rcases Mp.set_inv e with ⟨e1, -⟩ | e
  ·exact absurd e1.symm hr
  ·exact R.zero a q e
 ·rcases Mp.set_inv e with ⟨e1, e2, e3⟩ | e
  ·rw [e3, e2]; exact hone e1.symm
  ·exact R.one c q e
 ·rcases Mp.set_inv e with ⟨e1, e2, e3⟩ | e0
  ·subst e1 e2 e3;exact ho o' g
  ·rw [hH'] at g;by_cases q : r' = r /\ i' = i /\ r ≠ 1
   ·obtain ⟨rfl, rfl, -⟩ := q; rw [hn] at e0; cases e0
   ·rw [if_neg q] at g;exact (R.obj r' i' p' o' e0 g).keep le (fun o z => hk _ _ z) (fun o z => hk _ _ z) fun _ _ _ o z => hk _ _ z
 ·rcases Mp.set_inv e with ⟨-, -, e3⟩ | e
  ·subst e3; exact ⟨⟨le_trans hz h1.1, h1.2⟩, le_trans hz h2.1, h2.2⟩
  ·have := R.hi r' i' p' hr' e;exact ⟨⟨this.1.1, lt_of_lt_of_le this.1.2 hs⟩, this.2.1, lt_of_lt_of_le this.2.2 hs⟩
 ·rcases Mp.set_inv e1 with ⟨a1, a2, a3⟩ | a1 <;> rcases Mp.set_inv e2 with ⟨b1, b2, b3⟩ | b1
  ·exact ⟨a1.trans b1.symm, a2.trans b2.symm⟩
  ·subst a3; have := R.hi r2 i2 p2 hr2 b1; exact (apartN h1.1 h2.1 this.1.2 this.2.2 hq).elim
  ·subst b3; have := R.hi r1 i1 p1 hr1 a1; exact (apartN' h1.1 h2.1 this.1.2 this.2.2 hq).elim
  ·exact R.sep r1 i1 p1 r2 i2 p2 hr1 hr2 a1 b1 hq
 ·rw [hreg];unfold Mp.set;by_cases q : H.reg = r /\ k = i
  ·exact absurd (hfr q.1.symm) (Nat.not_lt.2 (q.2 ▸ hk'))
  ·rw [if_neg q]; exact R.fresh k (le_trans hnxt hk')
 ·rw [hreg]; exact R.reg
 ·rw [hH'];by_cases q : 1 = r /\ j = i /\ r ≠ 1
  ·exact absurd q.1.symm q.2.2
  ·rw [if_neg q]; exact R.pin j
 ·rw [htop]; exact R.top j
 ·rcases Mp.set_inv e with ⟨e1, e2, e3⟩ | e
  ·subst e1 e3; exact .inr ⟨hr, h1.1, h2.1⟩
  ·exact .inl e

theorem Rel.make (R : Rel B m H h) (o : O) {p : Nat × Nat} (hk : ∀ (b : Nat) o, h.get? b = some o -> h'.get? b = some o) (hs : h.objs.size <= h'.objs.size)
  (h1 : h.objs.size <= p.1 /\ p.1 < h'.objs.size) (h2 : h.objs.size <= p.2 /\ p.2 < h'.objs.size) (ho : ∀ m', MLe m m' -> OR B m' o p h') :
  ∃ m', Rel B m' (H.push o) h' /\ Step B [] m h m' h' /\ m' H.reg H.nxt = some p := by
 have hn : m H.reg H.nxt = none := R.fresh _ (Nat.le_refl _);have hr := R.reg;have z := R.name (H' := H.push o) (p := p) (Nat.ne_of_gt (Nat.lt_of_succ_lt hr)) hn hk hs h1 h2 (fun z => absurd z (Nat.ne_of_gt hr))
   (fun r' i' => by
    rw [Hp.get_push];by_cases q : r' = H.reg /\ i' = H.nxt
    ·rw [if_pos q, if_pos ⟨q.1, q.2, Nat.ne_of_gt hr⟩]
    ·rw [if_neg q, if_neg (fun z => q ⟨z.1, z.2.1⟩)])
   (fun o' g => by
    rw [Hp.get_push, if_pos ⟨rfl, rfl⟩] at g;cases g;exact ho _ (Mp.le_set hn)) rfl (Nat.le_succ _) (fun _ => Nat.lt_succ_self _) (fun _ => rfl) (Nat.le_refl _)
 exact ⟨_, z.1, z.2, Mp.set_self⟩
end
structure Room (d : Nat) (A : Around) : Prop where
 handled : A.handled = none
 depth : A.depth + 3 * d + 10 < recursionLimit
 units : A.units + 30 * d + 100 < cLine
theorem Room.of {d d' : Nat} {A A' : Around} (r : Room d A) (hh : A'.handled = none) (h1 : A'.depth + 3 * d' <= A.depth + 3 * d) (h2 : A'.units + 30 * d' <= A.units + 30 * d) : Room d' A' := ⟨hh, lt_of_le_of_lt (Nat.add_le_add_right h1 10) r.depth, lt_of_le_of_lt (Nat.add_le_add_right h2 100) r.units⟩
theorem Room.low {d d' : Nat} {A : Around} (r : Room d' A) (l : d <= d') : Room d A := r.of r.handled (Nat.add_le_add_left (Nat.mul_le_mul_left 3 l) _) (Nat.add_le_add_left (Nat.mul_le_mul_left 30 l) _)
theorem Room.less {d : Nat} {A : Around} (r : Room (d + 1) A) : Room d A := r.low (Nat.le_succ d)
theorem Room.u {d : Nat} {A : Around} (r : Room d A) : A.units < cLine := lt_of_le_of_lt (le_trans (Nat.le_add_right _ _) (Nat.le_add_right _ _)) r.units
theorem Room.d {d : Nat} {A : Around} (r : Room d A) : A.depth < recursionLimit := lt_of_le_of_lt (le_trans (Nat.le_add_right _ _) (Nat.le_add_right _ _)) r.depth
theorem roomStep {a k d : Nat} (c : Nat) (h : k <= c) : a + k + c * d <= a + c * (d + 1) := le_trans (le_of_eq (Nat.add_right_comm a k (c * d))) (le_trans (Nat.add_le_add_left h _) (le_of_eq (Nat.add_assoc a (c * d) c)))

def Does (B : Bs) (A : Around) (X : List Nat) {α : Type} (t : Sem α) (m : Mp) (s : Shared) (P : Mp -> α -> Shared -> Prop) : Prop :=
 ∀ (Q : α -> Shared -> Prop) (E : Value -> Shared -> Prop), (∀ m' a s', Step B X m s.heap m' s'.heap -> P m' a s' -> [Sam B s'] -> Q a s') -> [Sam B s] -> wpAny (model B.prog B.w) A t Q E s

section
variable {B : Bs} {A : Around} {X : List Nat} {α β : Type} {m : Mp} {s : Shared} {P : Mp -> α -> Shared -> Prop} {P' : Mp -> β -> Shared -> Prop}
theorem Does.pure {a : α} (h : P m a s) : Does B A X (Pure.pure a) m s P := fun _ _ q => wpAny_pure (q m a s (Step.refl ..) h)
theorem Does.bind {t : Sem α} {f : α -> Sem β} (h : Does B A X t m s P) (k : ∀ m' a s', Step B X m s.heap m' s'.heap -> P m' a s' -> Does B A X (f a) m' s' P') : Does B A X (t >>= f) m s P' :=
 fun Q E q => wpAny_bind (h _ E fun m' a s' st p => k m' a s' st p Q E fun m'' b s'' st' p' => q m'' b s'' (st.trans st') p')
theorem Does.mono {P₂ : Mp -> α -> Shared -> Prop} {t : Sem α} (h : Does B A X t m s P) (k : ∀ m' a s', Step B X m s.heap m' s'.heap -> P m' a s' -> P₂ m' a s') : Does B A X t m s P₂ :=
 fun Q E q => h Q E fun m' a s' st p => q m' a s' st (k m' a s' st p)
theorem Does.wide {t : Sem α} (h : Does B A [] t m s P) : Does B A X t m s P := fun Q E q => h Q E fun m' a s' st p => q m' a s' st.nil p
theorem Does.eq {t t' : Sem α} (h : Does B A X t m s P) (e : t' = t) : Does B A X t' m s P := e ▸ h
theorem Does.holding {vs : List Value} {t : Sem α} (h : Does B A X t m s P) : Does B A X (PySem.holding vs t) m s P := fun Q E q => wpAny_holding (h Q E q)
theorem Does.standAt {pos : Pos} {f : Unit -> Sem β} (h : Does B A X (f ()) m s P') : Does B A X (PySem.standAt pos >>= f) m s P' := fun Q E q => wpAny_bind (wpAny_standAt (h Q E q))
theorem Does.release {vs keep : List Value} {f : Unit -> Sem β} (h : Does B A X (f ()) m s P') : Does B A X (PySem.release vs keep >>= f) m s P' := fun Q E q => wpAny_bind (wpAny_release' (h Q E q))
theorem Does.letGo {e : Expr} {o r : Value} {f : Unit -> Sem β} (h : Does B A X (f ()) m s P') : Does B A X (letTemporaryGo e o r >>= f) m s P' := fun Q E q => wpAny_bind (wpAny_letTemporaryGo (h Q E q))
theorem Does.operate {vs : List Value} {t : Sem Value} {P : Mp -> Value -> Shared -> Prop} (h : Does B A X t m s P) : Does B A X (PySem.operate vs t) m s P := fun Q E q => wpAny_operate' (h Q E q)
theorem Does.wp {t : Sem α} {a : α} {s' : Shared} {m' : Mp} (w : ∀ (Q : α -> Shared -> Prop) (E : Value -> Shared -> Prop), Q a s' -> wpAny (model B.prog B.w) A t Q E s) (st : Step B X m s.heap m' s'.heap) (p : P m' a s') (sm : Sam B s -> Sam B s' := by intro; infer_instance) : Does B A X t m s P :=
 fun Q E q [i : Sam B s] => w Q E (@q m' a s' st p (sm i))
end

structure EnvOk (B : Bs) (m : Mp) (e : En) (env : Env) (h : Heap) : Prop where
 kind : env.scope.kind = .function
 names : env.scope.names = e.names
 loc : ∃ f, h.Ns env.locals f /\ LocR m e.loc f
 np : NP m env.locals
 low : B.n0 <= (env.locals : Nat)
 cel : ∀ x p, e.cel.lookup x = some p -> ∃ q, m p.1 p.2 = some q /\ env.cells.lookup x = some q.1
 globals : env.globals = mainGlobals
 builtins : env.builtins = builtinsNs
 qual : env.qual = e.qual
 code : ∀ q, pgT.nest e.qual = some q -> ∃ c P, B.codeT q = some (c, P) /\ env.code = .ref c
theorem EnvOk.step {B : Bs} {m m' : Mp} {H : Hp} {e : En} {env : Env} {h h' : Heap} (x : EnvOk B m e env h) (R : Rel B m H h) (s : Step B [] m h m' h') : EnvOk B m' e env h' := by
 obtain ⟨f, hn, hl⟩ := x.loc;have hlt : (env.locals : Nat) < h.objs.size := hn.lt;refine ⟨x.kind, x.names, ⟨f, ?_, hl.mono s.le⟩, s.np x.np hlt, x.low, fun y p e => ?_, x.globals, x.builtins, x.qual, x.code⟩
 ·obtain ⟨o, es, ep, ho, r⟩ := hn;exact ⟨o, es, ep, s.keep _ _ (R.notTab x.low) (fun z => nomatch z) x.np ho, r⟩
 ·obtain ⟨q, a, b⟩ := x.cel y p e;exact ⟨q, s.le _ _ _ a, b⟩


inductive FlR (m : Mp) : Fl -> Flow -> Prop
 | next : FlR m .next .next
 | brk : FlR m .brk .brk
 | cont : FlR m .cont .cont
 | ret {v : V} {u : Value} (h : VR m v u) : FlR m (.ret v) (.ret u)

structure At (B : Bs) (d : Nat) (e : En) (H : Hp) (m : Mp) (A : Around) (env : Env) (s : Shared) : Prop where
 R : Rel B m H s.heap
 N : EnvOk B m e env s.heap
 rm : Room d A
theorem At.step {B : Bs} {d : Nat} {e : En} {H H' : Hp} {m m' : Mp} {A : Around} {env : Env} {s s' : Shared} (z : At B d e H m A env s) (st : Step B [] m s.heap m' s'.heap) (R : Rel B m' H' s'.heap) : At B d e H' m' A env s' := ⟨R, z.N.step z.R st, z.rm⟩
theorem Room.zero {A : Around} : ∀ {d : Nat}, Room d A -> Room 0 A
 | 0, r => r
 | _ + 1, r => Room.zero r.less
noncomputable abbrev ValP (B : Bs) (r : V × Hp) : Mp -> Value -> Shared -> Prop := fun m u s => Rel B m r.2 s.heap /\ VR m r.1 u
noncomputable abbrev IsP (B : Bs) (b : Bool) (H : Hp) : Mp -> Value -> Shared -> Prop := fun m u s => Rel B m H s.heap /\ u = .bool b
noncomputable abbrev BoolP (B : Bs) (r : Bool × Hp) : Mp -> Bool -> Shared -> Prop := fun m c s => Rel B m r.2 s.heap /\ c = r.1
noncomputable abbrev EnvP (B : Bs) (env : Env) (r : En × Hp) : Mp -> Unit -> Shared -> Prop := fun m _ s => Rel B m r.2 s.heap /\ EnvOk B m r.1 env s.heap
noncomputable abbrev FlowP (B : Bs) (env : Env) (r : Fl × En × Hp) : Mp -> Flow -> Shared -> Prop := fun m u s => Rel B m r.2.2 s.heap /\ EnvOk B m r.2.1 env s.heap /\ FlR m r.1 u
def EvJ (B : Bs) (d : Nat) (e : En) (H : Hp) (x : Expr) (r : V × Hp) : Prop := ∀ m A env s, At B d e H m A env s -> Does B A [] (eval x env) m s (ValP B r)
def TsJ (B : Bs) (d : Nat) (e : En) (H : Hp) (x : Expr) (r : Bool × Hp) : Prop := ∀ m A env s, At B d e H m A env s -> Does B A [] (isTrue x env (eval x env)) m s (BoolP B r)
def ExJ (B : Bs) (d : Nat) (e : En) (H : Hp) (x : Stmt) (r : Fl × En × Hp) : Prop := ∀ m A env s, At B d e H m A env s -> Does B A [env.locals] (exec x env) m s (FlowP B env r)
def ExsJ (B : Bs) (d : Nat) (e : En) (H : Hp) (b : List Stmt) (r : Fl × En × Hp) : Prop := ∀ m A env s, At B d e H m A env s -> Does B A [env.locals] (execs b env) m s (FlowP B env r)
noncomputable def isStar : Expr -> Bool
 | .Starred .. => true
 | _ => false
def EvsJ (B : Bs) (d : Nat) (e : En) (H : Hp) (xs : List Expr) (r : List V × Hp) : Prop := ∀ m A env s pos, At B d e H m A env s -> Does B A [] (spliced (backTo pos (starEach xs env))) m s (fun m us s => Rel B m r.2 s.heap /\ VRs m r.1 us)

noncomputable def m0 (B : Bs) : Mp := fun r a => if r = 0 /\ a < B.n0 /\ a ∉ B.tabs then some (a, a) else none
theorem Rel.m0 {B : Bs} {m : Mp} {H : Hp} {h : Heap} (R : Rel B m H h) : MLe (m0 B) m := fun r a p e => by
 unfold Mine.m0 at e;split at e
 ·rename_i q;cases e;obtain ⟨rfl, h1, h2⟩ := q;exact R.low a h1 h2
 ·cases e
structure ClsOk (B : Bs) (C : Nat) (c : Cl) : Prop where
 ga : findIn B.K (.ref C) "__getattribute__" = some (some (.builtin "object.__getattribute__"))
 sa : findIn B.K (.ref C) "__setattr__" = some (some (.builtin "object.__setattr__"))
 over : plainOver B.K C = true
 dict : (clsIn B.K C).any (·.hasDict) = true
 field : ∀ x, c.fields.contains x = true -> findIn B.K (.ref C) x = some none
 meth : ∀ x f, c.meths.lookup x = some f -> findIn B.K (.ref C) x = some (some (.ref f)) /\ typeIn B.K (.ref f) = some (.type "function") /\ f < B.n0 /\ f ∉ B.tabs
 makes : makesIn B.K C = true
 init : findIn B.K (.ref C) "__init__" = some (some (.ref c.init)) /\ typeIn B.K (.ref c.init) = some (.type "function") /\ c.init < B.n0 /\ c.init ∉ B.tabs /\ pgT.cls c.init = none
 keeps : keepIn B.K (.ref C) = true
 nofn : pgT.fns C = none
 pget : plainGet B.K C "__class__" = true
 ccls : findIn B.K (.ref C) "__class__" = some (some (.builtin "object.__class__"))
 cget : specialIn B.K (.builtin "object.__class__") "__get__" = some (some (.builtin "getset_descriptor.__get__"))
 ctake : takesIn B.K (.builtin "object.__class__") = some true
 cmro : mroIn B.K C (.type "object") = some true
noncomputable def isiBasics : List String := ["NoneType", "int", "str", "bool", "list", "tuple"]
structure FnOk (B : Bs) (a : Nat) (fn : Fn) (o : Obj) (fd : FuncData) (c : Nat) : Prop where
 at_ : B.h0.get? a = some o
 tab : a ∉ B.tabs
 data : o.data = .func fd
 body : fd.body = .stmts fn.body
 scope : fd.scope = fn.scope
 qual : fd.qualname = fn.qual
 globals : fd.globals = mainGlobals
 builtins : fd.builtins = builtinsNs
 closure : fd.closure = []
 kind : fd.scope.kind = .function
 co : fd.scope.isCoroutine = false
 gen : fd.scope.isGenerator = false
 po : fd.params.posonlyargs = []
 va : fd.params.vararg = none
 ko : fd.params.kwonlyargs = []
 kwa : fd.params.kwarg = none
 params : fd.params.args.map (·.arg) = fn.params
 nodup : fn.params.Nodup
 dflt : (fd.defaults = .none /\ fn.dflt = []) \/ ∃ T us n, fd.defaults = .ref T /\ T ∉ B.tabs /\ B.h0.get? T = some { cls := .type "tuple", data := .seq us n } /\ VRs (m0 B) fn.dflt us.toList
 few : fn.dflt.length <= fn.params.length
 code : fd.code = .ref c
 rec_ : B.h0.CodeRec (.ref c) fd.qualname
 ctab : c ∉ B.tabs
 nest : ∀ q, pgT.nest (fn.qual ++ ".<locals>.") = some q -> ∃ P, B.codeT q = some (c, P)
 keeps : keepIn B.K (.ref a) = true
noncomputable def isiNames : List String := ["bool", "str", "list", "tuple"]
noncomputable def isiT (T n : String) : Option Bool := if isiNames.contains n then some (T == n) else none
structure BOk (B : Bs) : Prop where
 fns : ∀ a fn, pgT.fns a = some fn -> ∃ o fd c, FnOk B a fn o fd c
 isiA : ∀ T n b, isiBasics.contains T = true -> isiT T n = some b -> kitOne B.K (.type T) (.type n) = some b
 isiB : ∀ C c T, pgT.cls C = some c -> isiBasics.contains T = true -> kitOne B.K (.type T) (.ref C) = some false
 isiC : ∀ D c n, pgT.cls D = some c -> isiNames.contains n = true -> kitOne B.K (.ref D) (.type n) = some false
 isiD : ∀ D c C c', pgT.cls D = some c -> pgT.cls C = some c' -> kitOne B.K (.ref D) (.ref C) = some (c.mro.contains C)
 cls : ∀ C c, pgT.cls C = some c -> ClsOk B C c
 two : 100 <= B.n0
 gtab : mainGlobals ∉ B.tabs /\ builtinsNs ∉ B.tabs /\ cStatics ∉ B.tabs
 nolim : B.h0.NoLimit
 glob : ∃ mg mb, B.h0.Ns mainGlobals mg /\ B.h0.Ns builtinsNs mb /\ (∀ x v, pgT.glob x = some v -> ∃ u, mg x = some u /\ VR (m0 B) v u) /\
  ∀ x v, pgT.glob x = none -> pgT.bltn x = some v -> mg x = none /\ ∃ u, mb x = some u /\ VR (m0 B) v u
 frag : ∀ a o, B.K.lookup a = some o -> B.h0.get? a = some o /\ a ∉ B.tabs
 dicts : ∀ a es, pgT.obj a = some (.dict es) -> (a == sysModules) = false
 codes : ∀ q c P, B.codeT q = some (c, P) -> CodeHd B.h0 c P /\ c ∉ B.tabs
 ctinj : ∀ q q' c c' P, B.codeT q = some (c, P) -> B.codeT q' = some (c', P) -> q = q'
 bmain : ∃ mg bm o, B.h0.Ns mainGlobals mg /\ mg "__builtins__" = some (.ref bm) /\ bm ≠ builtinsNs /\ bm ≠ mainGlobals /\ bm ∉ B.tabs /\ B.h0.get? bm = some o /\ o.cls = .type "module" /\ o.dict = some builtinsNs /\ o.data = .plain
inductive Ans where
 | c | all | v (x : V) | ov (x : Option V) | vh (x : V × Hp) | yes | no | h (x : Hp) | o (x : O) | oo (x : Option O) | k (x : Key) | bo (x : Bool) | vs (x : List V) | eh (x : En × Hp) | fl (x : Fl × En × Hp) | is (x : List Int)
structure Fact where
 a : Ans
 p : Prop
 pf : p
inductive Res (α : Type) where
 | ok (x : α) (rest : List Ans) (ps : List Prop)
 | need (p : Prop)
 | stop
noncomputable abbrev OM (α : Type) := List Ans -> Res α
noncomputable def AllP : List Prop -> Prop
 | [] => True
 | p :: ps => p /\ AllP ps
theorem AllP.app : ∀ {a b : List Prop}, AllP (a ++ b) -> AllP a /\ AllP b
 | [], _, h => ⟨trivial, h⟩
 | _ :: _, _, ⟨h, k⟩ => ⟨⟨h, (AllP.app k).1⟩, (AllP.app k).2⟩
theorem AllP.facts : ∀ fs : List Fact, AllP (fs.map Fact.p)
 | [] => trivial
 | f :: fs => ⟨f.pf, AllP.facts fs⟩
noncomputable def OM.bind {α β : Type} (m : OM α) (f : α -> OM β) : OM β := fun a => match m a with
 | .ok x a1 p => match f x a1 with
  | .ok y a2 q => .ok y a2 (p ++ q)
  | .need p => .need p
  | .stop => .stop
 | .need p => .need p
 | .stop => .stop
noncomputable def ret {α : Type} (x : α) : OM α := fun a => .ok x a []
noncomputable def OM.no {α : Type} : OM α := fun _ => .stop
noncomputable def OM.say {α : Type} (p : Prop) (m : OM α) : OM α := fun a => match m a with
 | .ok x r ps => .ok x r (p :: ps)
 | .need p => .need p
 | .stop => .stop
def Says {α : Type} (m : OM α) (F : α -> Prop) : Prop := ∀ a r a' p, m a = .ok r a' p -> AllP p -> F r
theorem Says.bind {α β : Type} {m : OM α} {f : α -> OM β} {F : α -> Prop} {G : β -> Prop} (h : Says m F) (k : ∀ r, F r -> Says (f r) G) : Says (m.bind f) G := by
 intro a r a' p e hp;unfold OM.bind at e;cases h1 : m a with
 | need q => rw [h1] at e; cases e
 | stop => rw [h1] at e; cases e
 | ok y a1 p1 =>
  rw [h1] at e;dsimp only at e;cases h2 : f y a1 with
  | need q => rw [h2] at e; cases e
  | stop => rw [h2] at e; cases e
  | ok y2 a2 p2 =>
   rw [h2] at e;cases e;exact k y (h a y a1 p1 h1 (AllP.app hp).1) a1 r a' p2 h2 (AllP.app hp).2
theorem Says.ret {α : Type} {x : α} {F : α -> Prop} (h : F x) : Says (ret x) F := by
 intro a r a' p e _;cases e; exact h
theorem Says.no {α : Type} {F : α -> Prop} : Says OM.no F := fun _ _ _ _ e => by cases e
theorem Says.mono {α : Type} {m : OM α} {F G : α -> Prop} (h : Says m F) (k : ∀ r, F r -> G r) : Says m G := fun a r a' p e hp => k r (h a r a' p e hp)
theorem Says.say {α : Type} {q : Prop} {m : OM α} {F : α -> Prop} (h : q -> Says m F) : Says (OM.say q m) F := by
 intro a r a' p e hp;unfold OM.say at e;cases h1 : m a with
 | need q => rw [h1] at e; cases e
 | stop => rw [h1] at e; cases e
 | ok y a1 p1 => rw [h1] at e; cases e; exact h hp.1 a r a' p1 h1 hp.2
theorem Says.ok {α : Type} {m : OM α} {F : α -> Prop} (h : Says m F) {r : α} (fs : List Fact) (e : m (fs.map Fact.a) = .ok r [] (fs.map Fact.p)) : F r := h _ r _ _ e (AllP.facts fs)
theorem Says.all {α : Type} {m : OM α} {F : α -> Prop} (h : Says m F) {r : α} (e : m [.all] = .ok r [.all] []) : F r := h _ r _ _ e trivial
noncomputable def ask {α : Type} (sel : Ans -> Option α) (P : α -> Prop) (alt : OM α) : OM α
 | [] => .need (∃ r, P r)
 | y :: r => match sel y with
  | some v => .ok v r [P v]
  | none => match y with
   | .c => OM.say True alt r
   | .all => alt (.all :: r)
   | _ => .need (∃ r, P r)
theorem Says.ask {α : Type} {sel : Ans -> Option α} {P : α -> Prop} {alt : OM α} {F : α -> Prop} (h : ∀ r, P r -> F r) (k : Says alt F) : Says (ask sel P alt) F := by
 intro a r a' p e hp;cases a with
 | nil => cases e
 | cons y l =>
  unfold Mine.ask at e;dsimp only at e;cases h1 : sel y with
  | some v => rw [h1] at e; cases e; exact h _ hp.1
  | none =>
   rw [h1] at e;cases y
   case c => exact Says.say (fun _ => k) l r a' p e hp
   case all => exact k _ r a' p e hp
   all_goals cases e
namespace Ans
noncomputable def v? : Ans -> Option V | .v x => some x | _ => none
noncomputable def ov? : Ans -> Option (Option V) | .ov x => some x | _ => none
noncomputable def vh? : Ans -> Option (V × Hp) | .vh x => some x | _ => none
noncomputable def k? : Ans -> Option Key | .k x => some x | _ => none
noncomputable def bo? : Ans -> Option Bool | .bo x => some x | .yes => some true | .no => some false | _ => none
noncomputable def vs? : Ans -> Option (List V) | .vs x => some x | _ => none
noncomputable def eh? : Ans -> Option (En × Hp) | .eh x => some x | _ => none
noncomputable def fl? : Ans -> Option (Fl × En × Hp) | .fl x => some x | _ => none
noncomputable def oo? : Ans -> Option (Option O) | .o x => some (some x) | .oo x => some x | _ => none
noncomputable def is? : Ans -> Option (List Int) | .is x => some x | _ => none
noncomputable def h? : Ans -> Option Hp | .h x => some x | _ => none
end Ans
noncomputable def askO {α : Type} (sel : Ans -> Option α) (x : Option α) : OM α := ask sel (fun r => x = some r) (match x with | some r => ret r | none => OM.no)
theorem Says.askO {α : Type} {sel : Ans -> Option α} {x : Option α} {F : α -> Prop} (h : ∀ r, x = some r -> F r) : Says (askO sel x) F := by
 refine Says.ask h ?_;cases x with
 | none => exact Says.no
 | some r => exact Says.ret (h r rfl)
noncomputable def askT {α : Type} (sel : Ans -> Option α) (x : α) : OM α := ask sel (fun r => x = r) (ret x)
theorem Says.askT {α : Type} {sel : Ans -> Option α} {x : α} {F : α -> Prop} (h : ∀ r, x = r -> F r) : Says (askT sel x) F := Says.ask h (Says.ret (h x rfl))
noncomputable def testO (p : Prop) [Decidable p] : OM Bool := ask Ans.bo? (fun b => match b with | true => p | false => ¬ p) (fun a => match decide p with | true => .ok true a [] | false => .ok false a [])
theorem Says.test {p : Prop} [Decidable p] {F : Bool -> Prop} (h1 : p -> F true) (h2 : ¬ p -> F false) : Says (testO p) F := by
 refine Says.ask (fun r => ?_) ?_
 ·cases r
  ·exact h2
  ·exact h1
 ·intro a r a' q e _;dsimp only at e;split at e
  ·rename_i h; cases e; exact h1 (of_decide_eq_true h)
  ·rename_i h; cases e; exact h2 (of_decide_eq_false h)
noncomputable def reqO {α : Type} (p : Prop) [Decidable p] (m : OM α) : OM α := (testO p).bind fun b => match b with
 | true => m
 | false => OM.no
theorem Says.req {α : Type} {p : Prop} [Decidable p] {m : OM α} {F : α -> Prop} (h : p -> Says m F) : Says (reqO p m) F := by
 refine Says.bind (F := fun b => b = true -> p) (Says.test (fun h _ => h) (fun _ => nofun)) fun b hb => ?_
 cases b
 ·exact Says.no
 ·exact h (hb rfl)
noncomputable def guardO {α : Type} (b : Bool) (m : OM α) : OM α := match b with
 | true => m
 | false => OM.no
theorem Says.guard {α : Type} {b : Bool} {m : OM α} {F : α -> Prop} (h : b = true -> Says m F) : Says (guardO b m) F := by
 cases b
 ·exact Says.no
 ·exact h rfl
noncomputable def liftO {α β : Type} (x : Option α) (f : α -> OM β) : OM β := match x with
 | some x => f x
 | none => OM.no
theorem Says.lift {α β : Type} {x : Option α} {f : α -> OM β} {F : β -> Prop} (h : ∀ r, x = some r -> Says (f r) F) : Says (liftO x f) F := by
 cases x with
 | none => exact Says.no
 | some r => exact h r rfl
noncomputable def getO (H : Hp) (r i : Nat) : OM (Option O) := askT Ans.oo? (H.get r i)
section
variable {α : Type} {H : Hp} {r i : Nat} {F : α -> Prop}
noncomputable def onL (o : Option O) (f : List V -> OM α) : OM α := match o with
 | some (.list xs) => f xs
 | _ => OM.no
noncomputable def onT (o : Option O) (f : List V -> OM α) : OM α := match o with
 | some (.tup xs) => f xs
 | _ => OM.no
noncomputable def onD (o : Option O) (f : List (V × V) -> OM α) : OM α := match o with
 | some (.dict xs) => f xs
 | _ => OM.no
noncomputable def onI (o : Option O) (f : Nat -> List (Str × V) -> OM α) : OM α := match o with
 | some (.inst C fs) => f C fs
 | _ => OM.no
noncomputable def onC (o : Option O) (f : Option V -> OM α) : OM α := match o with
 | some (.cell v) => f v
 | _ => OM.no
noncomputable def onO (o : Option O) (fl ft : List V -> OM α) (fd : List (V × V) -> OM α) (fi : Nat -> List (Str × V) -> OM α) : OM α := match o with
 | some (.list xs) => fl xs
 | some (.tup xs) => ft xs
 | some (.dict es) => fd es
 | some (.inst C fs) => fi C fs
 | _ => OM.no
theorem Says.onO {o : Option O} {fl ft : List V -> OM α} {fd : List (V × V) -> OM α} {fi : Nat -> List (Str × V) -> OM α} (h1 : ∀ xs, o = some (.list xs) -> Says (fl xs) F) (h2 : ∀ xs, o = some (.tup xs) -> Says (ft xs) F) (h3 : ∀ xs, o = some (.dict xs) -> Says (fd xs) F)
  (h4 : ∀ C fs, o = some (.inst C fs) -> Says (fi C fs) F) : Says (onO o fl ft fd fi) F := by
 cases o with
 | none => exact Says.no
 | some o => cases o with
  | list xs => exact h1 xs rfl
  | tup xs => exact h2 xs rfl
  | dict xs => exact h3 xs rfl
  | inst C fs => exact h4 C fs rfl
  | _ => exact Says.no
theorem Says.onL {o : Option O} {f : List V -> OM α} (h : ∀ xs, o = some (.list xs) -> Says (f xs) F) : Says (onL o f) F := by
 cases o with
 | none => exact Says.no
 | some o => cases o with
  | list xs => exact h xs rfl
  | _ => exact Says.no
theorem Says.onT {o : Option O} {f : List V -> OM α} (h : ∀ xs, o = some (.tup xs) -> Says (f xs) F) : Says (onT o f) F := by
 cases o with
 | none => exact Says.no
 | some o => cases o with
  | tup xs => exact h xs rfl
  | _ => exact Says.no
theorem Says.onD {o : Option O} {f : List (V × V) -> OM α} (h : ∀ xs, o = some (.dict xs) -> Says (f xs) F) : Says (onD o f) F := by
 cases o with
 | none => exact Says.no
 | some o => cases o with
  | dict xs => exact h xs rfl
  | _ => exact Says.no
theorem Says.onI {o : Option O} {f : Nat -> List (Str × V) -> OM α} (h : ∀ C fs, o = some (.inst C fs) -> Says (f C fs) F) : Says (onI o f) F := by
 cases o with
 | none => exact Says.no
 | some o => cases o with
  | inst C fs => exact h C fs rfl
  | _ => exact Says.no
theorem Says.onC {o : Option O} {f : Option V -> OM α} (h : ∀ v, o = some (.cell v) -> Says (f v) F) : Says (onC o f) F := by
 cases o with
 | none => exact Says.no
 | some o => cases o with
  | cell v => exact h v rfl
  | _ => exact Says.no
theorem Says.get {f : Option O -> OM α} (h : ∀ o, H.get r i = o -> Says (f o) F) : Says ((getO H r i).bind f) F := Says.bind (F := fun o => H.get r i = o) (Says.askT fun _ e => e) h
noncomputable def setO (H : Hp) (r i : Nat) (o : O) : OM Hp := (reqO (r ≠ 0) (askT Ans.h? (H.upd r i o)))
theorem Says.set {o : O} {F : Hp -> Prop} (h : r ≠ 0 -> F (H.upd r i o)) : Says (setO H r i o) F := Says.req fun h0 => Says.askT fun _ e => e ▸ h h0
noncomputable def newO (H : Hp) (o : O) : OM (V × Hp) := (askT Ans.h? (H.push o)).bind fun K => ret (.ref H.reg H.nxt, K)
theorem Says.new {o : O} {F : V × Hp -> Prop} (h : F (.ref H.reg H.nxt, H.push o)) : Says (newO H o) F := Says.bind (F := fun K => H.push o = K) (Says.askT fun _ e => e) fun _ e => Says.ret (e ▸ h)
noncomputable def onRef (v : V) (f : Nat -> Nat -> OM α) : OM α := match v with
 | .ref r i => f r i
 | _ => OM.no
noncomputable def onInt (v : V) (f : Int -> OM α) : OM α := match v with
 | .int i => f i
 | _ => OM.no
noncomputable def onStr (v : V) (f : Str -> OM α) : OM α := match v with
 | .str i => f i
 | _ => OM.no
noncomputable def onBool (v : V) (f : Bool -> OM α) : OM α := match v with
 | .bool i => f i
 | _ => OM.no
theorem Says.onRef {v : V} {f : Nat -> Nat -> OM α} (h : ∀ r i, v = .ref r i -> Says (f r i) F) : Says (onRef v f) F := by
 cases v with
 | ref r i => exact h r i rfl
 | _ => exact Says.no
theorem Says.onInt {v : V} {f : Int -> OM α} (h : ∀ i, v = .int i -> Says (f i) F) : Says (onInt v f) F := by
 cases v with
 | int i => exact h i rfl
 | _ => exact Says.no
theorem Says.onStr {v : V} {f : Str -> OM α} (h : ∀ i, v = .str i -> Says (f i) F) : Says (onStr v f) F := by
 cases v with
 | str i => exact h i rfl
 | _ => exact Says.no
theorem Says.onBool {v : V} {f : Bool -> OM α} (h : ∀ i, v = .bool i -> Says (f i) F) : Says (onBool v f) F := by
 cases v with
 | bool i => exact h i rfl
 | _ => exact Says.no
end
section
variable {B : Bs} {A : Around} {m : Mp} {s s' : Shared} {H H' : Hp} {d : Nat}
theorem objs_size (h : Heap) (o : Obj) : (h.push o).objs.size = h.objs.size + 1 := Heap.size_push ..
theorem objs_le (h : Heap) (o : Obj) : h.objs.size <= (h.push o).objs.size := by rw [objs_size]; exact Nat.le_succ _
theorem objs_lt (h : Heap) (o : Obj) : h.objs.size < (h.push o).objs.size := by rw [objs_size]; exact Nat.lt_succ_self _
theorem push_self {h : Heap} {o : Obj} (f : o.isFreed = false) : (h.push o).get? h.objs.size = some o := Heap.get?_push_size _ f
theorem push_old {h : Heap} (o : Obj) : ∀ (b : Nat) o', h.get? b = some o' -> (h.push o).get? b = some o' := fun _ _ e => Heap.get?_push_of_some o e
theorem val_new {t : Sem Value} {o : O} {a : Nat} (R : Rel B m H s.heap) (w : ∀ (Q : Value -> Shared -> Prop) (E : Value -> Shared -> Prop), Q (.ref a) s' -> wpAny (model B.prog B.w) A t Q E s)
  (hk : ∀ (b : Nat) o, s.heap.get? b = some o -> s'.heap.get? b = some o) (hs : s.heap.objs.size <= s'.heap.objs.size) (ha : s.heap.objs.size <= a /\ a < s'.heap.objs.size) (ho : ∀ m', MLe m m' -> OR B m' o (a, a) s'.heap) (sm : Sam B s -> Sam B s' := by intro; infer_instance) :
  Does B A [] t m s (ValP B (.ref H.reg H.nxt, H.push o)) := by
 obtain ⟨m', R', st, hm⟩ := R.make o hk hs (p := (a, a)) ha ha ho;exact Does.wp w st ⟨R', (a, a), hm, rfl⟩ sm
theorem val_push {t : Sem Value} {o : O} {ob : Obj} {k : Nat} (R : Rel B m H s.heap) (w : ∀ (Q : Value -> Shared -> Prop) (E : Value -> Shared -> Prop), Q (.ref s.heap.objs.size) { s with heap := s.heap.push ob, toks := k } -> wpAny (model B.prog B.w) A t Q E s)
  (ho : ∀ m', MLe m m' -> OR B m' o (s.heap.objs.size, s.heap.objs.size) (s.heap.push ob)) : Does B A [] t m s (ValP B (.ref H.reg H.nxt, H.push o)) :=
 val_new (s' := { s with heap := s.heap.push ob, toks := k }) R w (push_old _) (objs_le ..) ⟨Nat.le_refl _, objs_lt ..⟩ ho
theorem lim_line {n : Nat} (h : n <= limN) : n <= sizeLine := by rw [sizeLine_eq]; exact le_trans h (by decide)
theorem VRs.size {m : Mp} {xs : List V} {us : Array Value} (h : VRs m xs us.toList) : us.size = xs.length := by rw [<- h.length, Array.length_toList]
theorem val_list {t : Sem Value} {xs : List V} {us : Array Value} {k : Nat} (R : Rel B m H s.heap) (hl : xs.length <= limN) (hv : VRs m xs us.toList)
  (w : us.size <= sizeLine -> ∀ (Q : Value -> Shared -> Prop) (E : Value -> Shared -> Prop), Q (.ref s.heap.objs.size) { s with heap := s.heap.push { cls := .type "list", data := .seq us }, toks := k } -> wpAny (model B.prog B.w) A t Q E s) :
  Does B A [] t m s (ValP B (.ref H.reg H.nxt, H.push (.list xs))) :=
 val_push R (w (by rw [hv.size]; exact lim_line hl)) fun _ l => ⟨us, 0, push_self rfl, hv.mono l⟩
theorem val_tup {t : Sem Value} {xs : List V} {us : Array Value} {k : Nat} (R : Rel B m H s.heap) (hl : xs.length <= limN) (hv : VRs m xs us.toList)
  (w : us.size <= sizeLine -> ∀ (Q : Value -> Shared -> Prop) (E : Value -> Shared -> Prop), Q (.ref s.heap.objs.size) { s with heap := s.heap.push { cls := .type "tuple", data := .seq us }, toks := k } -> wpAny (model B.prog B.w) A t Q E s) :
  Does B A [] t m s (ValP B (.ref H.reg H.nxt, H.push (.tup xs))) :=
 val_push R (w (by rw [hv.size]; exact lim_line hl)) fun _ l => ⟨us, 0, push_self rfl, hv.mono l⟩
theorem val_same {t : Sem Value} {v : V} {u : Value} {k : Nat} (R : Rel B m H s.heap) (hv : VR m v u) (w : ∀ (Q : Value -> Shared -> Prop) (E : Value -> Shared -> Prop), Q u { s with toks := k } -> wpAny (model B.prog B.w) A t Q E s) :
  Does B A [] t m s (ValP B (v, H)) := Does.wp (s' := { s with toks := k }) w (Step.refl ..) ⟨R, hv⟩
theorem is_same {t : Sem Value} {b : Bool} (R : Rel B m H s.heap) (w : ∀ (Q : Value -> Shared -> Prop) (E : Value -> Shared -> Prop), Q (.bool b) s -> wpAny (model B.prog B.w) A t Q E s) : Does B A [] t m s (IsP B b H) :=
 Does.wp w (Step.refl ..) ⟨R, rfl⟩
theorem Rel.list (R : Rel B m H s.heap) {r i : Nat} {u : Value} {xs : List V} (v : VR m (.ref r i) u) (g : H.get r i = some (.list xs)) : ∃ p us n, m r i = some p /\ u = .ref p.1 /\ IsL s.heap p.1 us n /\ VRs m xs us.toList :=
 let ⟨p, e, e2⟩ := v
 let ⟨us, n, a, b⟩ := R.obj r i p _ e g
 ⟨p, us, n, e, e2, a, b⟩
theorem Rel.tup (R : Rel B m H s.heap) {r i : Nat} {u : Value} {xs : List V} (v : VR m (.ref r i) u) (g : H.get r i = some (.tup xs)) : ∃ p us n, m r i = some p /\ u = .ref p.1 /\ IsT s.heap p.1 us n /\ VRs m xs us.toList :=
 let ⟨p, e, e2⟩ := v
 let ⟨us, n, a, b⟩ := R.obj r i p _ e g
 ⟨p, us, n, e, e2, a, b⟩
theorem isL_of {h : Heap} {a : Addr} {us : Array Value} {n : Nat} (x : IsL h a us n) : h.IsList a us := ⟨_, x, rfl, n, rfl⟩
theorem isT_of {h : Heap} {a : Addr} {us : Array Value} {n : Nat} (x : IsT h a us n) : h.IsTuple a us := ⟨_, x, rfl, n, rfl⟩
theorem bits_small {a : Int} (h : a.natAbs < 2 ^ 63) : Builtin.Int.intBits a <= 64 := by
 unfold Builtin.Int.intBits;split
 ·exact Nat.zero_le _
 ·rename_i z;have : a.natAbs ≠ 0 := fun q => z (by rw [Int.natAbs_eq_zero.1 q]; rfl)
  exact le_trans (Nat.succ_le_of_lt ((Nat.log2_lt this (k := 63)).mpr h)) (by decide)
theorem lm_fold (us : Array Value) : (List.foldl (fun x1 x2 => x1 ++ x2) #[] (List.replicate (if us.isEmpty = true then 0 else 2) us)) = us ++ us := by
 split
 ·rename_i h;have : us = #[] := by simpa using h
  subst this; rfl
 ·simp [List.replicate]
end
def Op2J (B : Bs) (H : Hp) (t : Value -> Value -> Sem Value) (a b : V) (r : V × Hp) : Prop := ∀ m A s x y, Rel B m H s.heap -> Room 0 A -> VR m a x -> VR m b y -> Does B A [] (t x y) m s (ValP B r)
theorem Op2J.ints {B : Bs} {H : Hp} {f : Value -> Value -> Sem Value} {i j k : Int} (h : ∀ (A : Around) (s : Shared) (t u : Tok) (Q : Value -> Shared -> Prop) (E : Value -> Shared -> Prop), Q (.int k s.toks) { s with toks := s.toks + 1 } -> wpAny (model B.prog B.w) A (f (.int i t) (.int j u)) Q E s) :
  Op2J B H f (.int i) (.int j) (.int k, H) := by
 rintro m A s x y R rm ⟨t, rfl⟩ ⟨u, rfl⟩;exact val_same R ⟨_, rfl⟩ (h A s t u)
noncomputable def newLO (H : Hp) (xs : List V) : OM (V × Hp) := reqO (xs.length <= limN) (newO H (.list xs))
noncomputable def newTO (H : Hp) (xs : List V) : OM (V × Hp) := reqO (xs.length <= limN) (newO H (.tup xs))
theorem Says.newL {H : Hp} {xs : List V} {F : V × Hp -> Prop} (h : xs.length <= limN -> F (.ref H.reg H.nxt, H.push (.list xs))) : Says (newLO H xs) F := Says.req fun l => Says.new (h l)
theorem Says.newT {H : Hp} {xs : List V} {F : V × Hp -> Prop} (h : xs.length <= limN -> F (.ref H.reg H.nxt, H.push (.tup xs))) : Says (newTO H xs) F := Says.req fun l => Says.new (h l)
noncomputable def addO (H : Hp) (a b : V) : OM (V × Hp) := match a with
 | .int i => onInt b fun j => ret (.int (i + j), H)
 | .str x => onStr b fun y => reqO ((x ++ y).cps.size <= limN) (ret (.str (x ++ y), H))
 | .ref r i => onRef b fun r' i' => (getO H r i).bind fun o => (getO H r' i').bind fun o' => onO o (fun xs => onL o' fun ys => newLO H (xs ++ ys)) (fun xs => onT o' fun ys => guardO (!xs.isEmpty && !ys.isEmpty) (newTO H (xs ++ ys))) (fun _ => OM.no) (fun _ _ => OM.no)
 | _ => OM.no
theorem size_append (x y : Str) : (x ++ y : Str).cps.size = x.length + y.length := by
 show (x.cps ++ y.cps).size = _;rw [Array.size_append]; rfl
theorem isEmpty_of {m : Mp} {xs : List V} {us : Array Value} (v : VRs m xs us.toList) : us.isEmpty = xs.isEmpty := by
 have h := v.size;cases xs with
 | nil => simp at h; simp [h]
 | cons a b => simp at h; simp [Array.isEmpty, h]
section
variable {B : Bs} {H : Hp}
theorem addO_ok {a b : V} : Says (addO H a b) (Op2J B H (binaryOp .Add) a b) := by
 cases a with
 | int i =>
  refine Says.onInt fun j e => ?_;subst e;exact Says.ret (Op2J.ints fun _ _ _ _ _ _ q => P.add_int q)
 | str x =>
  refine Says.onStr fun y e => Says.req fun hz => ?_;subst e;refine Says.ret ?_;rintro m A s _ _ R rm ⟨t, rfl⟩ ⟨u, rfl⟩ Q E q;exact SB.add (fun t' k => q m _ _ (Step.refl ..) ⟨R, _, rfl⟩) (by rw [<- size_append]; exact lim_line hz)
 | ref r i =>
  refine Says.onRef fun r' i' e => Says.get fun o g => Says.get fun o' g' => ?_;subst e;refine Says.onO (fun xs e => Says.onL fun ys e' => Says.newL fun hl => ?_) (fun xs e => Says.onT fun ys e' => Says.guard fun hne => Says.newT fun hl => ?_) (fun _ _ => Says.no) (fun _ _ _ => Says.no)
  ·intro m A s x y R rm ha hb;obtain ⟨p, us, n, e1, rfl, l1, v1⟩ := R.list ha (g.trans e);obtain ⟨p', us', n', e2, rfl, l2, v2⟩ := R.list hb (g'.trans e');exact val_list (us := us ++ us') R hl (by rw [Array.toList_append]; exact v1.append v2) fun hz Q E q => P.add_list l1 l2 q (by rw [<- Array.size_append]; exact hz)
  ·intro m A s x y R rm ha hb;obtain ⟨p, us, n, e1, rfl, l1, v1⟩ := R.tup ha (g.trans e);obtain ⟨p', us', n', e2, rfl, l2, v2⟩ := R.tup hb (g'.trans e');rw [Bool.and_eq_true, Bool.not_eq_true', Bool.not_eq_true'] at hne;exact val_tup (us := us ++ us') R hl (by rw [Array.toList_append]; exact v1.append v2) fun hz Q E q => P.add_tuple l1 l2 (by rw [isEmpty_of v1, hne.1]; decide) (by rw [isEmpty_of v2, hne.2]; decide) q (by rw [<- Array.size_append]; exact hz)
 | _ => exact Says.no
noncomputable def mulO (H : Hp) (a b : V) : OM (V × Hp) := match a with
 | .int i => onInt b fun j => reqO (j.natAbs < 2 ^ 63 \/ i.natAbs < 2 ^ 63) (ret (.int (i * j), H))
 | .ref r i => onInt b fun n => guardO (n == 2) ((getO H r i).bind fun o => onL o fun xs => newLO H (xs ++ xs))
 | _ => OM.no
theorem mulO_ok {a b : V} : Says (mulO H a b) (Op2J B H (binaryOp .Mult) a b) := by
 cases a with
 | int i =>
  refine Says.onInt fun j e => Says.req fun z => ?_;subst e;exact Says.ret (Op2J.ints fun _ _ _ _ _ _ q => P.mul_int q (z.elim (fun z => IntMulOk.of_right (bits_small z)) fun z => IntMulOk.of_left (bits_small z)))
 | ref r i =>
  refine Says.onInt fun n e => Says.guard fun hn => Says.get fun o g => Says.onL fun xs e' => Says.newL fun hl => ?_;obtain rfl : n = 2 := by simpa using hn
  subst e;rintro m A s x _ R rm ha ⟨u, rfl⟩;obtain ⟨p, us, n, e1, rfl, l1, v1⟩ := R.list ha (g.trans e');refine val_list (us := us ++ us) (k := s.toks) R hl (by rw [Array.toList_append]; exact v1.append v1) fun hz Q E q => ?_
  rw [Array.size_append, sizeLine_eq] at hz;exact wpAny_binaryOp_repeat_ref (T := "list") (U := "int") (by decide) ⟨_, l1, rfl⟩ (fun s' => typeIs_int s' 2 u) noFill_list_mul F.fills_int_mul F.slot_int_rmul repeat_list F.slot_int_index.lookup
   (call_meets F.slot_int_rmul (typeIs_int s 2 u) F.entry_int_rmul (F.args_int_rmul_2 _ _) (int___rmul___int_list 2 u p.1 us n)
    ⟨l1, rfl, ⟨_, l1, rfl⟩, call_meets F.slot_list_mul ⟨_, l1, rfl⟩ F.entry_list_mul (F.args_list_mul_2 _ _)
     (AutoListH.list___mul___list_int_3 p.1 us n 2 u (by decide) (Nat.not_lt.2 (le_trans (Nat.mul_two us.size ▸ hz) (by decide))) (fun z => absurd (of_decide_eq_true z) (Nat.not_lt.2 (Nat.mul_two us.size ▸ hz))))
     ⟨l1, by rw [<- lm_fold us] at q; exact q⟩⟩)
 | _ => exact Says.no
noncomputable def binO (H : Hp) (op : Operator) (a b : V) : OM (V × Hp) := match op with
 | .Add => addO H a b
 | .Sub => onInt a fun i => onInt b fun j => ret (.int (i - j), H)
 | .Mult => mulO H a b
 | .FloorDiv => onInt a fun i => onInt b fun j => reqO (0 < j /\ j < 1073741824) (ret (.int (Int.fdiv i j), H))
 | .Mod => onInt a fun i => onInt b fun j => reqO (0 < j) (ret (.int (Int.fmod i j), H))
 | .Pow => onInt a fun i => onInt b fun j => reqO (0 <= j /\ j <= 100 /\ i = 10) (ret (.int (i ^ j.toNat), H))
 | _ => OM.no
theorem bin2 {op : Operator} {a b : V} {f : Int -> Int -> OM (V × Hp)} (h : ∀ i j, Says (f i j) (Op2J B H (binaryOp op) (.int i) (.int j))) : Says (onInt a fun i => onInt b fun j => f i j) (Op2J B H (binaryOp op) a b) :=
 Says.onInt fun i e => Says.onInt fun j e' => e ▸ e' ▸ h i j
theorem binO_ok {op : Operator} {a b : V} : Says (binO H op a b) (Op2J B H (binaryOp op) a b) := by
 cases op
 case Add => exact addO_ok
 case Mult => exact mulO_ok
 case Sub => exact bin2 fun i j => Says.ret (Op2J.ints fun _ _ _ _ _ _ q => P.sub_int q)
 case FloorDiv => exact bin2 fun i j => Says.req fun z => Says.ret (Op2J.ints fun _ _ _ _ _ _ q => AutoIntOps.floordiv_1 (by simp; omega) (by rw [PyProof.noPylong_small (by omega)]; decide) q)
 case Mod => exact bin2 fun i j => Says.req fun z => Says.ret (Op2J.ints fun _ _ _ _ _ _ q => AutoIntOps.mod_1 (by simp; omega) q)
 case Pow =>
  refine bin2 fun i j => Says.req fun z => Says.ret (Op2J.ints fun A s t u Q E q => ?_);obtain ⟨z1, z2, rfl⟩ := z;by_cases w : (j == 0) = true
  ·refine AutoIntOps.pow_0 z1 w ?_;obtain rfl : j = 0 := by simpa using w
   exact q
  ·exact AutoIntOps.pow_4 z1 w (by decide) (by decide) (by rw [show Builtin.Int.intBits 10 = 4 by decide]; simp [Builtin.Int.intTooBig, bitsLine]; omega) q
 all_goals exact Says.no
end
section
open PySem.SeqAt PySem.Builtin.Str
def OptP {α : Type} (o : Option α) (F : α -> Prop) : Prop := match o with
 | some k => F k
 | none => True
theorem OptP.get {α : Type} {o : Option α} {F : α -> Prop} (h : OptP o F) {k : α} (e : o = some k) : F k := by subst e; exact h
noncomputable def eqS (a b : V) : Option Bool := match a with
 | .none => match b with
  | .none => some true
  | .int _ => some false
  | .str _ => some false
  | _ => none
 | .bool x => match b with
  | .bool y => some (x == y)
  | _ => none
 | .int i => match b with
  | .int j => some (decide (i = j))
  | .none => some false
  | .str _ => some false
  | _ => none
 | .str s => match b with
  | .str t => some (decide (s = t))
  | .none => some false
  | .int _ => some false
  | _ => none
 | _ => none
noncomputable def eqL : List V -> List V -> Option Bool
 | [], [] => some true
 | x :: xs, y :: ys => (eqS x y).bind fun b => (eqL xs ys).map (b && ·)
 | _, _ => none
noncomputable def inL (x : V) : List V -> Option Bool
 | [] => some false
 | y :: r => (eqS y x).bind fun b => (inL x r).map (b || ·)
def EqP (x y : Value) (k : Bool) : Prop := ∀ A s, EqAt A s x y k /\ RcNeAt A s x y (!k) /\ RcAt A s x y k
theorem dec_beq {α : Type} [DecidableEq α] (i j : α) : decide (i = j) = (i == j) := (Bool.beq_eq_decide_eq i j).symm
theorem eqS_all (a b : V) : OptP (eqS a b) fun k => ∀ m x y, VR m a x -> VR m b y -> EqP x y k := by
 cases a
 case none =>
  cases b
  case none => intro m x y ha hb A s; rw [show x = .none from ha, show y = .none from hb]; exact ⟨EqAt.same _, RcNeAt.none_none, RcAt.none_none⟩
  case int => rintro m x y ha ⟨u, rfl⟩ A s; rw [show x = .none from ha]; exact ⟨EqAt.none_int _ _, RcNeAt.none_int _ _, RcAt.none_int _ _⟩
  case str => rintro m x y ha ⟨u, rfl⟩ A s; rw [show x = .none from ha]; exact ⟨EqAt.none_str _ _, RcNeAt.none_str _ _, RcAt.none_str _ _⟩
  all_goals trivial
 case bool =>
  cases b
  case bool => intro m x y ha hb A s; rw [show x = .bool _ from ha, show y = .bool _ from hb]; exact ⟨EqAt.bool_bool _ _, RcNeAt.bool_bool _ _, RcAt.bool_bool _ _⟩
  all_goals trivial
 case int i =>
  cases b
  case none => rintro m x y ⟨u, rfl⟩ hb A s; rw [show y = .none from hb]; exact ⟨EqAt.int_none _ _, RcNeAt.int_none _ _, RcAt.int_none _ _⟩
  case int j => rintro m x y ⟨t, rfl⟩ ⟨u, rfl⟩ A s; rw [dec_beq]; exact ⟨EqAt.int_int _ _ _ _, RcNeAt.int_int _ _ _ _, RcAt.int_int _ _ _ _⟩
  case str => rintro m x y ⟨t, rfl⟩ ⟨u, rfl⟩ A s; exact ⟨EqAt.int_str _ _ _ _, RcNeAt.int_str _ _ _ _, RcAt.int_str _ _ _ _⟩
  all_goals trivial
 case str i =>
  cases b
  case none => rintro m x y ⟨u, rfl⟩ hb A s; rw [show y = .none from hb]; exact ⟨EqAt.str_none _ _, RcNeAt.str_none _ _, RcAt.str_none _ _⟩
  case int => rintro m x y ⟨t, rfl⟩ ⟨u, rfl⟩ A s; exact ⟨EqAt.str_int _ _ _ _, RcNeAt.str_int _ _ _ _, RcAt.str_int _ _ _ _⟩
  case str j => rintro m x y ⟨t, rfl⟩ ⟨u, rfl⟩ A s; rw [dec_beq]; exact ⟨EqAt.str_str _ _ _ _, RcNeAt.str_str _ _ _ _, RcAt.str_str _ _ _ _⟩
  all_goals trivial
 all_goals trivial
theorem eqS_ok {a b : V} {k : Bool} {x y : Value} {m : Mp} (h : eqS a b = some k) (ha : VR m a x) (hb : VR m b y) : EqP x y k := (eqS_all a b).get h m x y ha hb
theorem bnd {α β : Type} {x : Option α} {f : α -> Option β} {b : β} (h : x.bind f = some b) : ∃ a, x = some a /\ f a = some b := Option.bind_eq_some_iff.mp h
theorem mpd {α β : Type} {x : Option α} {f : α -> β} {b : β} (h : x.map f = some b) : ∃ a, x = some a /\ f a = b := Option.map_eq_some_iff.mp h
theorem eqL_ok {m : Mp} : ∀ {xs ys : List V} {k : Bool} {us vs : List Value}, eqL xs ys = some k -> VRs m xs us -> VRs m ys vs ->
  ∃ e : Nat -> Bool, us.length = vs.length /\ (∀ (A : Around) (s : Shared) j (h1 : j < us.length) (h2 : j < vs.length), EqAt A s us[j] vs[j] (e j)) /\ (List.range us.length).all e = k
 | [], [], k, [], [], h, _, _ => ⟨fun _ => true, rfl, (fun _ _ j h => absurd h (Nat.not_lt_zero j)), Option.some.inj h⟩
 | x :: xs, y :: ys, k, u :: us, v :: vs, h, ⟨a1, a2⟩, ⟨b1, b2⟩ => by
  obtain ⟨b, g1, h⟩ := bnd h;obtain ⟨c, g2, rfl⟩ := mpd h;obtain ⟨e, hl, he, hk⟩ := eqL_ok g2 a2 b2;refine ⟨fun j => match j with | 0 => b | j + 1 => e j, congrArg (· + 1) hl, fun A s j h1 h2 => ?_, ?_⟩
  ·cases j with
   | zero => exact (eqS_ok g1 a1 b1 A s).1
   | succ j => exact he A s j (Nat.lt_of_succ_lt_succ h1) (Nat.lt_of_succ_lt_succ h2)
  ·rw [List.length_cons, List.range_succ_eq_map, List.all_cons, List.all_map, <- hk]; rfl
 | [], _ :: _, _, _, _, h, _, _ => nomatch h
 | _ :: _, [], _, _, _, h, _, _ => nomatch h
 | _ :: _, _ :: _, _, [], _, _, a, _ => a.elim
 | _ :: _, _ :: _, _, _ :: _, [], _, _, b => b.elim
 | [], [], _, _ :: _, _, _, a, _ => a.elim
 | [], [], _, [], _ :: _, _, _, b => b.elim
noncomputable def toV : Value -> V
 | .none => .none | .bool b => .bool b | .int i _ => .int i | .str s _ => .str s | .builtin i => .bi i | .type n => .ty n | _ => .none
theorem toV_of {m : Mp} {a b : V} {k : Bool} {y : Value} (h : VR m a y) (hn : eqS a b = some k) : toV y = a := by
 cases a with
 | ref r i => cases hn
 | int i => obtain ⟨t, rfl⟩ := h; rfl
 | str i => obtain ⟨t, rfl⟩ := h; rfl
 | _ => cases h; rfl
theorem inL_ok {m : Mp} {x : V} {u : Value} (hx : VR m x u) : ∀ {ys : List V} {k : Bool} {vs : List Value}, inL x ys = some k -> VRs m ys vs ->
  (∀ (A : Around) (s : Shared) y, y ∈ vs -> EqAt A s y u ((eqS (toV y) x).getD false)) /\ (vs.any fun y => (eqS (toV y) x).getD false) = k
 | [], k, [], h, _ => ⟨(fun _ _ _ h => nomatch h), Option.some.inj h⟩
 | y :: ys, k, v :: vs, h, ⟨a1, a2⟩ => by
  obtain ⟨b, g1, h⟩ := bnd h;obtain ⟨c, g2, rfl⟩ := mpd h;obtain ⟨h1, h2⟩ := inL_ok hx g2 a2;have e : (eqS (toV v) x).getD false = b := by rw [toV_of a1 g1, g1]; rfl
  refine ⟨fun A s z hz => ?_, by rw [List.any_cons, h2, e]⟩
  rcases List.mem_cons.mp hz with hz | hz
  ·rw [hz, e]; exact (eqS_ok g1 a1 hx A s).1
  ·exact h1 A s z hz
 | [], _, _ :: _, _, b => b.elim
 | _ :: _, _, [], _, b => b.elim
section
variable {B : Bs} {A : Around} {m : Mp} {s s' : Shared} {H H' : Hp} {d : Nat}
theorem key_is {x : V} {k : Key} {y : Value} (h : keyV x = some k) (hx : VR m x y) : (uKind B.prog B.w).is k y = true := by
 cases x with
 | none => cases h; cases hx; rfl
 | int i => cases h; obtain ⟨t, rfl⟩ := hx; simp [uKind, Key.isV, Value.isInt]
 | str i => cases h; obtain ⟨t, rfl⟩ := hx; simp [uKind, Key.isV, Value.isStrOf]
 | _ => cases h
theorem key_of {x : V} {k : Key} {y : Value} (h : keyV x = some k) (hx : (uKind B.prog B.w).is k y = true) : VR m x y := by
 cases x with
 | none => cases h; exact Key.isV_none hx
 | int i => cases h; exact Key.isV_int hx
 | str i => cases h; exact Key.isV_str hx
 | _ => cases h
theorem keyIs_eq {k j : Key} {x : V} (h : keyV x = some j) : keyIs k x = decide (j = k) := by unfold keyIs; rw [h]
theorem inD_ok {k : Key} : ∀ {es : List (V × V)} {kvs : List (Key × Value)}, DRs m es kvs -> match inD k es with | some v => ∃ u, valueAt kvs k = some u /\ VR m v u | none => valueAt kvs k = none
 | [], [], _ => rfl
 | x :: es, y :: kvs, ⟨⟨a1, a2⟩, b⟩ => by
  have ih := inD_ok (k := k) b;unfold inD;rw [keyIs_eq a1];by_cases e : y.1 = k
  ·rw [decide_eq_true e];exact ⟨y.2, by simp [valueAt, List.find?_cons, e], a2⟩
  ·rw [decide_eq_false e];have : valueAt (y :: kvs) k = valueAt kvs k := by simp [valueAt, List.find?_cons, e]
   rw [this];exact ih
 | [], _ :: _, h => h.elim
 | _ :: _, [], h => h.elim
theorem stored_cons_same (y : Key × Value) (kvs : List (Key × Value)) (u : Value) (hn : y.1 ∉ kvs.map (·.1)) : stored (y :: kvs) y.1 u = (y.1, u) :: kvs := by
 unfold stored;simp only [List.any_cons, decide_true, Bool.true_or, if_true, List.map_cons];rw [map_store_of_not_mem kvs y.1 u hn]
theorem stored_cons_other (y : Key × Value) (kvs : List (Key × Value)) (k : Key) (u : Value) (hne : y.1 ≠ k) : stored (y :: kvs) k u = y :: stored kvs k u := by
 unfold stored;simp only [List.any_cons, decide_eq_false hne, Bool.false_or, List.map_cons, if_neg hne];split <;> rfl
theorem putD_ok {k : Key} {x v : V} {u : Value} (hk : keyV x = some k) (hv : VR m v u) : ∀ {es : List (V × V)} {kvs : List (Key × Value)}, DRs m es kvs -> (kvs.map (·.1)).Nodup -> DRs m (putD k x v es) (stored kvs k u)
 | [], [], _, _ => ⟨⟨hk, hv⟩, trivial⟩
 | z :: es, y :: kvs, ⟨⟨a1, a2⟩, b⟩, hn => by
  rw [List.map_cons, List.nodup_cons] at hn;unfold putD;rw [keyIs_eq a1];by_cases e : y.1 = k
  ·rw [decide_eq_true e];subst e;rw [stored_cons_same y kvs u hn.1];exact ⟨⟨a1, hv⟩, b⟩
  ·rw [decide_eq_false e, stored_cons_other y kvs k u e];exact ⟨⟨a1, a2⟩, putD_ok hk hv b hn.2⟩
 | [], _ :: _, h, _ => h.elim
 | _ :: _, [], h, _ => h.elim

theorem dictSet_at {dd : Addr} {kvs : List (Key × Value)} {k : Key} {key v : Value} {Q : Unit -> Shared -> Prop} {E : Value -> Shared -> Prop} (hkey : (uKind B.prog B.w).is k key = true) (hm : s.heap.DictAt (uKind B.prog B.w) dd kvs kvs.length)
  (hQ : ∀ h', h'.DictAt (uKind B.prog B.w) dd (stored kvs k v) (stored kvs k v).length -> Heap.SameBut dd s.heap h' -> Q () { s with heap := h', toks := s.toks + 1 })
  (hsz : kvs.length <= sizeLine) : wpAny (model B.prog B.w) A (dictSet dd key v) Q E s := by
 obtain ⟨o, es, ho, hc, hd, hk, hp, hn⟩ := hm;have hes : es.size <= sizeLine := by have e1 := hp.length; rw [Array.length_toList] at e1; omega
 unfold dictSet
 try with_reducible refine wpAny_holding ?_
 refine wpAny_bind ((uKind B.prog B.w).pyHash hkey ?_);unfold dictSetHashed
 try with_reducible refine wpAny_holding ?_
 refine wpAny_bind (wpAny_dictFind_of (s := { s with toks := s.toks + 1 }) hkey ho hd hk ?_)
 have hidx : (es.findIdx? fun e => (uKind B.prog B.w).is k e.key) = kvs.findIdx? fun kv => decide (kv.1 = k) := by
  rw [<- hp.findIdx k]; obtain ⟨l⟩ := es; simp
 cases hi : es.findIdx? fun e => (uKind B.prog B.w).is k e.key with
 | some i =>
  have hst : stored kvs k v = kvs.map (fun kv => if kv.1 = k then (kv.1, v) else kv) := by rw [stored, if_pos (any_of_findIdx_some (hidx ▸ hi))]
  have hln : (stored kvs k v).length = kvs.length := by rw [hst, length_map]
  refine wpAny_bind (wpAny_rule (wpAny_bind (wpAny_updateDict (s := { s with toks := s.toks + 1 }) ho hd (wpAny_point (hQ _ ⟨_, _, Heap.get?_update_self _ ho (Obj.isFreed_of_dict (Obj.data_mapDict hd _)),
   hc.mapDict _, by rw [hln]; exact Obj.data_mapDict hd _, hk.modify _ _, ?_, ?_⟩ (Heap.SameBut.update ..))))))
  ·rw [hst];have hl : (es.toList.findIdx? fun e => (uKind B.prog B.w).is k e.key) = some i := by rw [<- hi]; obtain ⟨l⟩ := es; simp
   have := hp.modify hn hl v;obtain ⟨l⟩ := es;simpa using this
  ·rw [hst, keys_map_store]; exact hn
 | none =>
  have hnot : k ∉ kvs.map (·.1) := not_mem_of_findIdx_none (hidx ▸ hi)
  have hany : ¬ (kvs.any fun kv => decide (kv.1 = k)) = true := by
   rw [List.any_eq_true]; rintro ⟨kv, hkv, he⟩;exact hnot (List.mem_map.mpr ⟨kv, hkv, of_decide_eq_true he⟩)
  have hst : stored kvs k v = kvs ++ [(k, v)] := by rw [stored, if_neg hany]
  have hln : (stored kvs k v).length = kvs.length + 1 := by rw [hst]; simp
  refine wpAny_bind (wpAny_rule (wpAny_updateDictKeys (hz := hes) (s := { s with toks := s.toks + 1 }) ho hd (hQ _ ⟨_, _, Heap.get?_update_self _ ho (Obj.isFreed_of_dict (Obj.data_mapDictKeys hd _)),
   hc.mapDictKeys _, by rw [hln]; exact Obj.data_mapDictKeys hd _, hk.push hkey _, ?_, ?_⟩ (Heap.SameBut.update ..))))
  ·rw [hst];have := hp.append hkey ((uKind B.prog B.w).hash k) v;obtain ⟨l⟩ := es;simpa using this
  ·rw [hst, List.map_append, List.nodup_append];refine ⟨hn, by simp, ?_⟩
   intro a ha b hb;simp only [List.map_cons, List.map_nil, List.mem_singleton] at hb;subst hb;exact fun e => hnot (e ▸ ha)
theorem setItem_at {dd : Addr} {kvs : List (Key × Value)} {k : Key} {key v : Value} {Q : Unit -> Shared -> Prop} {E : Value -> Shared -> Prop} (hkey : (uKind B.prog B.w).is k key = true) (hm : s.heap.DictAt (uKind B.prog B.w) dd kvs kvs.length)
  (hQ : ∀ h', h'.DictAt (uKind B.prog B.w) dd (stored kvs k v) (stored kvs k v).length -> Heap.SameBut dd s.heap h' -> Q () { s with heap := h', toks := s.toks + 1 })
  (hsz : kvs.length <= sizeLine) : wpAny (model B.prog B.w) A (setItem (.ref dd) key v) Q E s := by
 have hT := hm.dictOf.typeIs;unfold setItem
 try with_reducible refine wpAny_holding ?_
 refine wpAny_bind (wpAny_sequenceKey hT (by decide) ?_)
 refine wpAny_bind (wpAny_callSpecial?_slot (name := ofString "__setitem__") hT slot_dict_setitem
  (wpAny_call_entry slot_dict_setitem hT entry_dict_setitem ?_ (args_dict_setitem _ _ _)))
 show wpAny _ _ (Builtin.Dict.notOrdered "__setitem__" ⟨[.ref dd, key, v], []⟩ >>= _) _ _ s;refine wpAny_bind (wpAny_notOrdered_dict hT ?_);show wpAny _ _ (dictSet dd key v >>= _) _ _ s;exact wpAny_bind (dictSet_at hkey hm (fun h' hm' hs' => wpAny_pure ⟨.none, rfl, wpAny_pure (hQ h' hm' hs')⟩) hsz)

theorem Rel.dict (K : BOk B) (R : Rel B m H s.heap) {r i : Nat} {u : Value} {es : List (V × V)} (v : VR m (.ref r i) u) (g : H.get r i = some (.dict es)) :
  ∃ p kvs, m r i = some p /\ u = .ref p.1 /\ s.heap.DictAt (uKind B.prog B.w) p.1 kvs kvs.length /\ DRs m es kvs /\ (p.1 == sysModules) = false := by
 obtain ⟨p, e, rfl⟩ := v;obtain ⟨kvs, a, b⟩ := R.obj r i p _ e g;refine ⟨p, kvs, e, rfl, a, b, ?_⟩;by_cases hr : r = 0
 ·subst hr;obtain ⟨rfl, h2, _⟩ := R.zero i p e;rw [Hp.get_eq, if_neg (fun z : 0 = H.reg => absurd (z ▸ R.reg : 2 <= 0) (by decide)), R.top] at g
  unfold Bs.ob at g;cases q : Nat.beq i 1718 with
  | true => rw [q] at g; cases g
  | false => rw [q] at g; exact K.dicts i es g
 ·have := R.hi r i p hr e;have k2 := K.two;have : p.1 ≠ sysModules := by unfold sysModules; omega
  simpa using this
end
def CmpJ (B : Bs) (H : Hp) (op : CmpOp) (a b : V) (k : Bool) : Prop := ∀ m A s x y, Rel B m H s.heap -> Room 0 A -> VR m a x -> VR m b y -> Does B A [] (compareOp op x y) m s (IsP B k H)
theorem CmpJ.ints {B : Bs} {H : Hp} {op : CmpOp} {i j : Int} {k : Bool} (h : ∀ (A : Around) (s : Shared) (t u : Tok) (Q : Value -> Shared -> Prop) (E : Value -> Shared -> Prop), Q (.bool k) s -> wpAny (model B.prog B.w) A (compareOp op (.int i t) (.int j u)) Q E s) :
  CmpJ B H op (.int i) (.int j) k := by
 rintro m A s x y R rm ⟨t, rfl⟩ ⟨u, rfl⟩;exact is_same R (h A s t u)
noncomputable abbrev EqJ (B : Bs) (H : Hp) (a b : V) (k : Bool) : Prop := CmpJ B H .Eq a b k /\ CmpJ B H .NotEq a b (!k)
theorem EqJ.of {B : Bs} {H : Hp} {a b : V} {k : Bool} (h : ∀ m x y, VR m a x -> VR m b y -> EqP x y k) : EqJ B H a b k :=
 ⟨fun m A s x y R _ ha hb => is_same R fun Q E z => (h m x y ha hb A s).2.2 _ _ E Q z, fun m A s x y R _ ha hb => is_same R fun Q E z => (h m x y ha hb A s).2.1 _ _ E Q z⟩
noncomputable def askB (x : Option Bool) : OM Bool := askO Ans.bo? x
noncomputable def eqSO (a b : V) : OM Bool := match a with
 | .int i => match b with
  | .int j => testO (i = j)
  | b => askB (eqS (.int i) b)
 | .str s => match b with
  | .str t => testO (s = t)
  | b => askB (eqS (.str s) b)
 | a => askB (eqS a b)
noncomputable def eqO (H : Hp) (a b : V) : OM Bool := match a with
 | .ref r i => onRef b fun r' i' => (getO H r i).bind fun o => (getO H r' i').bind fun o' => onO o
   (fun xs => onL o' fun ys => (testO (xs.length = ys.length)).bind fun c => match c with
    | true => askB (eqL xs ys)
    | false => ret false)
   (fun xs => onT o' fun ys => (testO (xs.length = ys.length)).bind fun c => match c with
    | true => askB (eqL xs ys)
    | false => guardO (xs.isEmpty || ys.isEmpty) (ret false))
   (fun _ => OM.no) (fun _ _ => OM.no)
 | a => eqSO a b
section
variable {B : Bs} {H : Hp}
theorem eqSO_ok {a b : V} : Says (eqSO a b) (EqJ B H a b) := by
 have plain : ∀ {a b : V}, Says (askB (eqS a b)) (EqJ B H a b) := fun {a b} => Says.askO fun k e => EqJ.of ((eqS_all a b).get e);cases a with
 | int i => cases b with
  | int j => exact Says.test (fun h => EqJ.of ((eqS_all (.int i) (.int j)).get (congrArg some (decide_eq_true h)))) (fun h => EqJ.of ((eqS_all (.int i) (.int j)).get (congrArg some (decide_eq_false h))))
  | _ => exact plain
 | str i => cases b with
  | str j => exact Says.test (fun h => EqJ.of ((eqS_all (.str i) (.str j)).get (congrArg some (decide_eq_true h)))) (fun h => EqJ.of ((eqS_all (.str i) (.str j)).get (congrArg some (decide_eq_false h))))
  | _ => exact plain
 | _ => exact plain
theorem eq_lists {r i r' i' : Nat} {xs ys : List V} {k : Bool} (g : H.get r i = some (.list xs)) (g' : H.get r' i' = some (.list ys)) (h : eqL xs ys = some k) : EqJ B H (.ref r i) (.ref r' i') k := by
 have key : ∀ m A s x y, Rel B m H s.heap -> Room 0 A -> VR m (.ref r i) x -> VR m (.ref r' i') y -> Does B A [] (compareOp .Eq x y) m s (IsP B k H) /\ Does B A [] (compareOp .NotEq x y) m s (IsP B (!k) H) := by
  intro m A s x y R rm ha hb;obtain ⟨p, us, n, e1, rfl, l1, v1⟩ := R.list ha g;obtain ⟨p', us', n', e2, rfl, l2, v2⟩ := R.list hb g';obtain ⟨e, hl, he, hk⟩ := eqL_ok h v1 v2;rw [Array.length_toList, Array.length_toList] at hl;rw [Array.length_toList] at hk;have he' : ∀ j (h1 : j < us.size) (h2 : j < us'.size), EqAt A.in1 s us[j] us'[j] (e j) := fun j h1 h2 => he A.in1 s j h1 h2;rw [<- hk];exact ⟨is_same R fun Q E q => RcAt.lists (isL_of l1) (isL_of l2) hl rm.u he' _ _ E Q q, is_same R fun Q E q => RcNeAt.lists (isL_of l1) (isL_of l2) hl rm.u he' _ _ E Q q⟩
 exact ⟨fun m A s x y R rm ha hb => (key m A s x y R rm ha hb).1, fun m A s x y R rm ha hb => (key m A s x y R rm ha hb).2⟩
theorem ne_lists {r i r' i' : Nat} {xs ys : List V} (g : H.get r i = some (.list xs)) (g' : H.get r' i' = some (.list ys)) (h : ¬ xs.length = ys.length) : EqJ B H (.ref r i) (.ref r' i') false := by
 have key : ∀ m A s x y, Rel B m H s.heap -> Room 0 A -> VR m (.ref r i) x -> VR m (.ref r' i') y -> Does B A [] (compareOp .Eq x y) m s (IsP B false H) /\ Does B A [] (compareOp .NotEq x y) m s (IsP B true H) := by
  intro m A s x y R rm ha hb;obtain ⟨p, us, n, e1, rfl, l1, v1⟩ := R.list ha g;obtain ⟨p', us', n', e2, rfl, l2, v2⟩ := R.list hb g';have sz : (us.size != us'.size) = true := by rw [v1.size, v2.size]; exact bne_iff_ne.mpr h
  exact ⟨is_same R fun Q E q => RcAt.lists_lengths (isL_of l1) (isL_of l2) sz rm.u _ _ E Q q, is_same R fun Q E q => RcNeAt.lists_lengths (isL_of l1) (isL_of l2) sz rm.u _ _ E Q q⟩
 exact ⟨fun m A s x y R rm ha hb => (key m A s x y R rm ha hb).1, fun m A s x y R rm ha hb => (key m A s x y R rm ha hb).2⟩
theorem eq_tups {r i r' i' : Nat} {xs ys : List V} {k : Bool} (g : H.get r i = some (.tup xs)) (g' : H.get r' i' = some (.tup ys)) (h : (xs.length = ys.length /\ eqL xs ys = some k) \/ ((xs.isEmpty || ys.isEmpty) = true /\ ¬ xs.length = ys.length /\ k = false)) : EqJ B H (.ref r i) (.ref r' i') k := by
 have key : ∀ m A s x y, Rel B m H s.heap -> Room 0 A -> VR m (.ref r i) x -> VR m (.ref r' i') y -> Does B A [] (compareOp .Eq x y) m s (IsP B k H) /\ Does B A [] (compareOp .NotEq x y) m s (IsP B (!k) H) := by
  intro m A s x y R rm ha hb;obtain ⟨p, us, n, e1, rfl, l1, v1⟩ := R.tup ha g;obtain ⟨p', us', n', e2, rfl, l2, v2⟩ := R.tup hb g';have fin : ∀ e : Nat -> Bool, (∀ j (h1 : j < us.size) (h2 : j < us'.size), EqAt A.in1 s us[j] us'[j] (e j)) -> ((List.range (min us.size us'.size)).all e && us.size == us'.size) = k ->
    Does B A [] (compareOp .Eq (.ref p.1) (.ref p'.1)) m s (IsP B k H) /\ Does B A [] (compareOp .NotEq (.ref p.1) (.ref p'.1)) m s (IsP B (!k) H) := fun e he hk => by
   rw [<- hk];exact ⟨is_same R fun Q E q => RcAt.tuples (isT_of l1) (isT_of l2) rm.u he _ _ E Q q, is_same R fun Q E q => RcNeAt.tuples (isT_of l1) (isT_of l2) rm.u he _ _ E Q q⟩
  rcases h with ⟨_, h⟩ | ⟨h1, h2, h3⟩
  ·obtain ⟨e, hl, he, hk⟩ := eqL_ok h v1 v2;rw [Array.length_toList, Array.length_toList] at hl;rw [Array.length_toList] at hk;exact fin e (fun j h1 h2 => he A.in1 s j h1 h2) (by rw [<- hl, Nat.min_self, hk, beq_self_eq_true, Bool.and_true])
  ·refine fin (fun _ => true) (fun j g1 g2 => ?_) (by rw [v1.size, v2.size, beq_false_of_ne h2, Bool.and_false, h3])
   rw [v1.size] at g1;rw [v2.size] at g2;rw [Bool.or_eq_true, List.isEmpty_iff, List.isEmpty_iff] at h1;rcases h1 with h1 | h1
   ·rw [h1] at g1; exact absurd g1 (Nat.not_lt_zero _)
   ·rw [h1] at g2; exact absurd g2 (Nat.not_lt_zero _)
 exact ⟨fun m A s x y R rm ha hb => (key m A s x y R rm ha hb).1, fun m A s x y R rm ha hb => (key m A s x y R rm ha hb).2⟩
theorem eqO_ok {a b : V} : Says (eqO H a b) (EqJ B H a b) := by
 cases a with
 | ref r i =>
  refine Says.onRef fun r' i' e => Says.get fun o g => Says.get fun o' g' => ?_;subst e;refine Says.onO (fun xs e => Says.onL fun ys e' => ?_) (fun xs e => Says.onT fun ys e' => ?_) (fun _ _ => Says.no) (fun _ _ _ => Says.no)
  ·refine Says.bind (F := fun c => c = false -> ¬ xs.length = ys.length) (Says.test (fun _ => nofun) fun h _ => h) fun c hc => ?_
   cases c
   ·exact Says.ret (ne_lists (g.trans e) (g'.trans e') (hc rfl))
   ·exact Says.askO fun k h => eq_lists (g.trans e) (g'.trans e') h
  ·refine Says.bind (F := fun c => match c with | true => xs.length = ys.length | false => ¬ xs.length = ys.length) (Says.test (fun h => h) fun h => h) fun c hc => ?_
   cases c
   ·exact Says.guard fun hm => Says.ret (eq_tups (g.trans e) (g'.trans e') (.inr ⟨hm, hc, rfl⟩))
   ·exact Says.askO fun k h => eq_tups (g.trans e) (g'.trans e') (.inl ⟨hc, h⟩)
 | none => exact eqSO_ok (a := .none)
 | bool x => exact eqSO_ok (a := .bool x)
 | int x => exact eqSO_ok (a := .int x)
 | str x => exact eqSO_ok (a := .str x)
 | bi x => exact eqSO_ok (a := .bi x)
 | ty x => exact eqSO_ok (a := .ty x)
end
end
section
open PySem.SeqAt PySem.Builtin.Str
section
variable {B : Bs} {H : Hp}
noncomputable def ltS : List Nat -> List Nat -> Bool := Spec.ltCps
theorem plain_other {m : Mp} {a : V} {x : Value} (ha : VR m a x) (h1 : a ≠ .none) (h2 : ∀ i, a ≠ .bi i) : plainIs x .none = true /\ x ≠ .none := by
 cases a with
 | none => exact absurd rfl h1
 | bi i => exact absurd rfl (h2 i)
 | int i => obtain ⟨t, rfl⟩ := ha; exact ⟨rfl, nofun⟩
 | str i => obtain ⟨t, rfl⟩ := ha; exact ⟨rfl, nofun⟩
 | bool i => cases ha; exact ⟨rfl, nofun⟩
 | ty i => cases ha; exact ⟨rfl, nofun⟩
 | ref r i => obtain ⟨p, _, rfl⟩ := ha; exact ⟨rfl, nofun⟩
noncomputable def isO (a b : V) : OM Bool := match b with
 | .none => match a with
  | .none => ret true
  | .bi _ => OM.no
  | _ => ret false
 | _ => OM.no
theorem is_other {a : V} (h1 : a ≠ .none) (h2 : ∀ i, a ≠ .bi i) : CmpJ B H .Is a .none false /\ CmpJ B H .IsNot a .none true :=
 ⟨fun m A s x y R _ ha hb => is_same R fun Q E q => by rw [show y = .none from hb]; exact wpAny_is_other (plain_other ha h1 h2).1 (plain_other ha h1 h2).2 q,
  fun m A s x y R _ ha hb => is_same R fun Q E q => by rw [show y = .none from hb]; exact wpAny_isNot_other (plain_other ha h1 h2).1 (plain_other ha h1 h2).2 q⟩
theorem isO_ok {a b : V} : Says (isO a b) (fun k => CmpJ B H .Is a b k /\ CmpJ B H .IsNot a b (!k)) := by
 cases b with
 | none => cases a with
  | none => exact Says.ret ⟨fun m A s x y R _ ha hb => is_same R fun Q E q => by rw [show x = .none from ha, show y = .none from hb]; exact wpAny_is_plain rfl q, fun m A s x y R _ ha hb => is_same R fun Q E q => by rw [show x = .none from ha, show y = .none from hb]; exact wpAny_isNot_plain rfl q⟩
  | bi i => exact Says.no
  | bool _ => exact Says.ret (is_other nofun nofun)
  | int _ => exact Says.ret (is_other nofun nofun)
  | str _ => exact Says.ret (is_other nofun nofun)
  | ref _ _ => exact Says.ret (is_other nofun nofun)
  | ty _ => exact Says.ret (is_other nofun nofun)
 | _ => exact Says.no
noncomputable abbrev InJ (B : Bs) (H : Hp) (a b : V) (k : Bool) : Prop := CmpJ B H .In a b k /\ CmpJ B H .NotIn a b (!k)
end
section
variable {B : Bs} {A : Around} {m : Mp} {s : Shared} {H : Hp}
theorem dict_in (K : BOk B) {r i : Nat} {es : List (V × V)} {a : V} {x y : Value} {k : Key} (g : H.get r i = some (.dict es)) (R : Rel B m H s.heap) (ha : VR m a x) (hb : VR m (.ref r i) y) (hk : keyV a = some k) :
  Does B A [] (compareOp .In x y) m s (IsP B (inD k es).isSome H) /\ Does B A [] (compareOp .NotIn x y) m s (IsP B (!(inD k es).isSome) H) := by
 obtain ⟨p, kvs, e, rfl, D, dr, hs⟩ := R.dict K hb g;have q := inD_ok (k := k) dr;have e2 : (valueAt kvs k).isSome = (inD k es).isSome := by
  cases z : inD k es with
  | none => rw [z] at q; rw [show valueAt kvs k = none from q]; rfl
  | some v => rw [z] at q; obtain ⟨u, h, _⟩ := q; rw [h]; rfl
 rw [<- e2];exact ⟨Does.wp (s' := { s with toks := s.toks + 1 }) (fun Q E z => wpAny_in_of (key_is hk ha) hs D.dictOf.mapOf z) (Step.refl ..) ⟨R, rfl⟩,
  Does.wp (s' := { s with toks := s.toks + 1 }) (fun Q E z => wpAny_notIn_of (key_is hk ha) hs D.dictOf.mapOf z) (Step.refl ..) ⟨R, rfl⟩⟩
end
section
variable {B : Bs} {H : Hp}
noncomputable def inRO (H : Hp) (a : V) (r i : Nat) : OM Bool := (getO H r i).bind fun o => onO o (fun xs => askB (inL a xs)) (fun xs => askB (inL a xs)) (fun es => (askO Ans.k? (keyV a)).bind fun k => (askT Ans.ov? (inD k es)).bind fun v => ret v.isSome) (fun _ _ => OM.no)
theorem in_list {a : V} {r i : Nat} {xs : List V} {k : Bool} (g : H.get r i = some (.list xs)) (h : inL a xs = some k) : InJ B H a (.ref r i) k := by
 refine ⟨fun m A s x y R _ ha hb => ?_, fun m A s x y R _ ha hb => ?_⟩
 all_goals
  obtain ⟨p, us, n, e1, rfl, l1, v1⟩ := R.list hb g;obtain ⟨h1, h2⟩ := inL_ok ha h v1
 ·exact is_same R fun Q E q => in_listAt _ (isL_of l1) (fun y hy => h1 A.in1 s y (Array.mem_toList_iff.mpr hy)) (by rw [<- Array.any_toList, h2]; exact q)
 ·exact is_same R fun Q E q => notIn_listAt _ (isL_of l1) (fun y hy => h1 A.in1 s y (Array.mem_toList_iff.mpr hy)) (by rw [<- Array.any_toList, h2]; exact q)
theorem in_tup {a : V} {r i : Nat} {xs : List V} {k : Bool} (g : H.get r i = some (.tup xs)) (h : inL a xs = some k) : InJ B H a (.ref r i) k := by
 refine ⟨fun m A s x y R _ ha hb => ?_, fun m A s x y R _ ha hb => ?_⟩
 all_goals
  obtain ⟨p, us, n, e1, rfl, l1, v1⟩ := R.tup hb g;obtain ⟨h1, h2⟩ := inL_ok ha h v1
 ·exact is_same R fun Q E q => in_tupleAt _ (isT_of l1) (fun y hy => h1 A.in1 s y (Array.mem_toList_iff.mpr hy)) (by rw [<- Array.any_toList, h2]; exact q)
 ·exact is_same R fun Q E q => notIn_tupleAt _ (isT_of l1) (fun y hy => h1 A.in1 s y (Array.mem_toList_iff.mpr hy)) (by rw [<- Array.any_toList, h2]; exact q)
theorem inRO_ok (K : BOk B) {a : V} {r i : Nat} : Says (inRO H a r i) (InJ B H a (.ref r i)) := by
 refine Says.get fun o g => Says.onO (fun xs e => Says.askO fun k h => in_list (g.trans e) h) (fun xs e => Says.askO fun k h => in_tup (g.trans e) h) (fun es e => ?_) (fun _ _ _ => Says.no);refine Says.bind (F := fun k => keyV a = some k) (Says.askO fun _ h => h) fun k hk => Says.bind (F := fun v => inD k es = v) (Says.askT fun _ h => h) fun v hv => Says.ret ?_;subst hv;exact ⟨fun m A s x y R _ ha hb => (dict_in K (g.trans e) R ha hb hk).1, fun m A s x y R _ ha hb => (dict_in K (g.trans e) R ha hb hk).2⟩
theorem occ_nil (x : Str) (y : Str) (h : y.cps.toList = []) : (!(occurrences x y 0 x.length 1).isEmpty) = true := by
 have hl : y.length = 0 := by show y.cps.size = 0; rw [<- Array.length_toList, h]; rfl
 refine (StrLaws.found_iff x y).mpr ⟨0, by rw [hl]; exact Nat.zero_le _, ?_⟩
 rw [StrLaws.subAt_eq, hl, h]; rfl
theorem str_of (y : Str) (l : List Nat) (h : y.cps.toList = l) : y = ⟨l.toArray⟩ := by
 cases y with | mk c => cases c with | mk d => cases h; rfl
noncomputable def inSO (x y : Str) : OM Bool := match x.cps.toList with
 | [] => ret true
 | [c] => ret (y.cps.toList.contains c)
 | _ => OM.no
theorem inSO_ok {x y : Str} : Says (inSO x y) (CmpJ B H .In (.str x) (.str y)) := by
 unfold inSO;cases e : x.cps.toList with
 | nil =>
  refine Says.ret ?_;rintro m A s _ _ R _ ⟨t, rfl⟩ ⟨u, rfl⟩;exact is_same R fun Q E q => P.in_str (by rw [occ_nil _ _ e]; exact q)
 | cons c l => cases l with
  | nil =>
   refine Says.ret ?_;rintro m A s _ _ R _ ⟨t, rfl⟩ ⟨u, rfl⟩;refine is_same R fun Q E q => P.in_str ?_;rw [str_of _ _ e];rw [show (occurrences _ (⟨[c].toArray⟩ : Str) 0 _ 1) = occurrences _ (⟨#[c]⟩ : Str) 0 _ 1 from rfl, StrLaws.found_one]
   rw [List.contains_eq_mem] at q;exact q
  | cons _ _ => exact Says.no
noncomputable def inO (H : Hp) (a b : V) : OM Bool := match b with
 | .ref r i => inRO H a r i
 | .str y => onStr a fun x => inSO x y
 | _ => OM.no
noncomputable def cmpO (H : Hp) (op : CmpOp) (a b : V) : OM Bool := match op with
 | .Eq => eqO H a b
 | .NotEq => (eqO H a b).bind fun k => ret (!k)
 | .Lt => onInt a fun i => onInt b fun j => testO (i < j)
 | .LtE => match a with
  | .str x => onStr b fun y => ret (!(ltS y.cps.toList x.cps.toList))
  | a => onInt a fun i => onInt b fun j => testO (i <= j)
 | .Gt => onInt a fun i => onInt b fun j => testO (j < i)
 | .GtE => onInt a fun i => onInt b fun j => testO (j <= i)
 | .Is => isO a b
 | .IsNot => (isO a b).bind fun k => ret (!k)
 | .In => inO H a b
 | .NotIn => onRef b fun r i => (inRO H a r i).bind fun k => ret (!k)
theorem cmp2 {op : CmpOp} {a b : V} {p : Int -> Int -> Prop} [∀ i j, Decidable (p i j)] (h : ∀ i j (A : Around) (s : Shared) (t u : Tok) (Q : Value -> Shared -> Prop) (E : Value -> Shared -> Prop), Q (.bool (decide (p i j))) s -> wpAny (model B.prog B.w) A (compareOp op (.int i t) (.int j u)) Q E s) :
  Says (onInt a fun i => onInt b fun j => testO (p i j)) (CmpJ B H op a b) :=
 Says.onInt fun i e => Says.onInt fun j e' => e ▸ e' ▸ Says.test (fun z => CmpJ.ints fun A s t u Q E q => h i j A s t u Q E (by rw [decide_eq_true z]; exact q)) (fun z => CmpJ.ints fun A s t u Q E q => h i j A s t u Q E (by rw [decide_eq_false z]; exact q))
theorem cmpO_ok (K : BOk B) {op : CmpOp} {a b : V} : Says (cmpO H op a b) (CmpJ B H op a b) := by
 cases op
 case Eq => exact eqO_ok.mono fun _ h => h.1
 case NotEq => exact eqO_ok.bind fun _ h => Says.ret h.2
 case Lt => exact cmp2 fun _ _ _ _ _ _ _ _ q => P.lt_int q
 case LtE =>
  cases a with
  | str x =>
   refine Says.onStr fun y e => ?_;subst e;refine Says.ret ?_;rintro m A s _ _ R _ ⟨t, rfl⟩ ⟨u, rfl⟩;exact is_same R fun Q E q => P.le_str (by rw [le_meets]; exact q)
  | int i => exact cmp2 (a := .int i) (p := fun i j => i <= j) fun _ _ _ _ _ _ _ _ q => P.le_int q
  | _ => exact Says.no
 case Gt => exact cmp2 fun _ _ _ _ _ _ _ _ q => P.gt_int q
 case GtE => exact cmp2 fun _ _ _ _ _ _ _ _ q => P.ge_int q
 case Is => exact isO_ok.mono fun _ h => h.1
 case IsNot => exact isO_ok.bind fun _ h => Says.ret h.2
 case In =>
  cases b with
  | ref r i => exact (inRO_ok K).mono fun _ h => h.1
  | str y => exact Says.onStr fun x e => e ▸ inSO_ok
  | _ => exact Says.no
 case NotIn => exact Says.onRef fun r i e => e ▸ (inRO_ok K).bind fun _ h => Says.ret h.2
end
def HasItem (s : Shared) (x : Value) : Prop := ∃ T id, typeLookup (.type T) "__getitem__" = pure (some (.builtin id)) /\ s.TypeIs x T
section
variable {B : Bs} {s : Shared}
theorem has_str (s : Shared) (x : Str) (t : Tok) : HasItem s (.str x t) := ⟨"str", _, F.slot_str_getitem.lookup, typeIs_str s x t⟩
theorem has_list {a : Addr} {us : Array Value} {n : Nat} (h : IsL s.heap a us n) : HasItem s (.ref a) := ⟨"list", _, slot_list_getitem.lookup, ⟨_, h, rfl⟩⟩
theorem has_tup {a : Addr} {us : Array Value} {n : Nat} (h : IsT s.heap a us n) : HasItem s (.ref a) := ⟨"tuple", _, F.slot_tuple_getitem.lookup, ⟨_, h, rfl⟩⟩
theorem has_dict {a : Addr} {kvs : List (Key × Value)} {ep : Nat} (h : s.heap.DictAt (uKind B.prog B.w) a kvs ep) : HasItem s (.ref a) := ⟨"dict", _, slot_dict_getitem.lookup, h.dictOf.typeIs⟩
end
def ItemJ (B : Bs) (H : Hp) (a k v : V) : Prop := ∀ m A s x y, Rel B m H s.heap -> VR m a x -> VR m k y -> HasItem s x /\ Does B A [] (getItem x y) m s (ValP B (v, H))
noncomputable def atI {α : Type} (xs : List α) (i : Int) : Option α := if 1000000 <= i.natAbs then none else if i < 0 then (if 0 <= i + xs.length then xs[(i + xs.length).toNat]? else none) else xs[i.toNat]?
noncomputable def itemO (H : Hp) (a k : V) : OM V := match a with
 | .str s => onInt k fun i => reqO (0 <= i /\ i < 1000000) (liftO (s.cps.toList[i.toNat]?) fun c => ret (.str ⟨#[c]⟩))
 | .ref r i => (getO H r i).bind fun o => onO o (fun xs => onInt k fun j => askO Ans.v? (atI xs j)) (fun xs => onInt k fun j => askO Ans.v? (atI xs j)) (fun es => (askO Ans.k? (keyV k)).bind fun q => askO Ans.v? (inD q es)) (fun _ _ => OM.no)
 | _ => OM.no
theorem neg_le_of {i : Int} {n : Nat} (h : 0 <= i + n) : -(n : Int) <= i := by omega
theorem seq_in {i : Int} {n : Nat} (h : 0 <= i) (h1 : i.toNat < n) : seqIndex? i n = some i.toNat := by
 unfold seqIndex?;dsimp only;rw [if_neg (Int.not_lt.2 h), if_pos (Bool.and_eq_true_iff.2 ⟨decide_eq_true h, decide_eq_true ((Int.toNat_lt h).1 h1)⟩)]
theorem small_rng {i : Int} (h : i.natAbs < 1000000) : -2 ^ 63 <= i /\ i < 2 ^ 63 := by omega
theorem at_ok {xs : List V} {us : Array Value} {m : Mp} {i : Int} {v : V} (hv : VRs m xs us.toList) (h : atI xs i = some v) : i.natAbs < 1000000 /\ ∃ w, VR m v w /\ ((0 <= i /\ seqIndex? i us.size = some i.toNat /\ us[i.toNat]? = some w) \/ (i < 0 /\ -(us.size : Int) <= i /\ seqIndex? i us.size = some (i + us.size).toNat /\ us[(i + us.size).toNat]? = some w)) := by
 have hz := hv.size;unfold atI at h;split at h
 ·cases h
 rename_i hs;refine ⟨Nat.lt_of_not_le hs, ?_⟩;split at h
 ·rename_i h0;split at h
  ·rename_i h1;obtain ⟨w, w1, w2⟩ := hv.get h;rw [Array.getElem?_toList, <- hz] at w1;have h2 : -(us.size : Int) <= i := neg_le_of (hz ▸ h1);exact ⟨w, w2, .inr ⟨h0, h2, seqIndex_neg h0 h2, w1⟩⟩
  ·cases h
 ·rename_i h0;obtain ⟨w, w1, w2⟩ := hv.get h;rw [Array.getElem?_toList] at w1;refine ⟨w, w2, .inl ⟨Int.not_lt.1 h0, ?_, w1⟩⟩;have hlt : i.toNat < us.size := by
   rcases Nat.lt_or_ge i.toNat us.size with z | z
   ·exact z
   ·rw [Array.getElem?_eq_none z] at w1; cases w1
  exact seq_in (Int.not_lt.1 h0) hlt
section
variable {B : Bs} {H : Hp}
theorem item_list {r i : Nat} {xs : List V} {j : Int} {v : V} (g : H.get r i = some (.list xs)) (h : atI xs j = some v) : ItemJ B H (.ref r i) (.int j) v := by
 rintro m A s x _ R ha ⟨u, rfl⟩;obtain ⟨p, us, n, e1, rfl, l1, v1⟩ := R.list ha g;refine ⟨has_list l1, ?_⟩;obtain ⟨j3, w, w2, h⟩ := at_ok v1 h;refine val_same (k := s.toks) R w2 fun Q E q => ?_;rcases h with ⟨h0, _, w1⟩ | ⟨h0, h1, _, w1⟩
 ·exact wpAny_getItem_list (isL_of l1) h0 (small_rng j3).2 w1 q
 ·exact wpAny_getItem_list_neg (isL_of l1) h0 h1 (small_rng j3).1 w1 q
theorem item_tup {r i : Nat} {xs : List V} {j : Int} {v : V} (g : H.get r i = some (.tup xs)) (h : atI xs j = some v) : ItemJ B H (.ref r i) (.int j) v := by
 rintro m A s x _ R ha ⟨u, rfl⟩;obtain ⟨p, us, n, e1, rfl, l1, v1⟩ := R.tup ha g;refine ⟨has_tup l1, ?_⟩;obtain ⟨j3, w, w2, h⟩ := at_ok v1 h;refine val_same (k := s.toks) R w2 fun Q E q => ?_;rcases h with ⟨h0, j1, w1⟩ | ⟨h0, h1, j1, w1⟩
 ·exact P.getItem_tuple l1 (small_rng j3).1 (small_rng j3).2 j1 w1 q
 ·exact P.getItem_tuple l1 (small_rng j3).1 (small_rng j3).2 j1 w1 q
theorem itemO_ok (K : BOk B) {a k : V} : Says (itemO H a k) (ItemJ B H a k) := by
 cases a with
 | str x =>
  refine Says.onInt fun i e => Says.req fun z => Says.lift fun c h1 => Says.ret ?_;subst e;rintro m A s _ _ R ⟨t, rfl⟩ ⟨u, rfl⟩;refine ⟨has_str _ _ _, val_same (u := .str _ s.toks) (k := s.toks + 1) R ⟨_, rfl⟩ fun Q E q => ?_⟩;refine P.getItem_str (c := c) (Bool.or_eq_false_iff.2 ⟨decide_eq_false (Int.not_lt.2 (Int.le_trans (by decide) z.1)), decide_eq_false (Int.not_le.2 (Int.lt_trans z.2 (by decide)))⟩) ?_ q
  have hlt : i.toNat < x.cps.size := by
   rw [Array.getElem?_toList] at h1;rcases Nat.lt_or_ge i.toNat x.cps.size with z | z
   ·exact z
   ·rw [Array.getElem?_eq_none z] at h1; cases h1
  rw [show seqIndex? i x.length = some i.toNat from seq_in z.1 hlt, Option.bind_some, <- h1, Array.getElem?_toList]
 | ref r i =>
  refine Says.get fun o g => Says.onO (fun xs e => Says.onInt fun j e' => Says.askO fun v h => e' ▸ item_list (g.trans e) h) (fun xs e => Says.onInt fun j e' => Says.askO fun v h => e' ▸ item_tup (g.trans e) h) (fun es e => ?_) (fun _ _ _ => Says.no);refine Says.bind (F := fun q => keyV k = some q) (Says.askO fun _ h => h) fun q hq => Says.askO fun v hv => ?_;intro m A s x y R ha hk;obtain ⟨p, kvs, e1, rfl, D, dr, hs⟩ := R.dict K ha (g.trans e);refine ⟨has_dict D, ?_⟩;have z := inD_ok (k := q) dr;rw [hv] at z;obtain ⟨w, w1, w2⟩ := z;exact val_same R w2 fun Q E z => wpAny_getItem_of (key_is hq hk) D.dictOf.mapOf w1 z
 | _ => exact Says.no
end
noncomputable def cut {α : Type} (xs : List α) (lo hi : Nat) : List α := (xs.drop lo).take (hi - lo)
noncomputable def optI : V -> Option (Option Int)
 | .none => some none
 | .int i => some (some i)
 | _ => none
def SliceJ (B : Bs) (H : Hp) (a lo hi st : V) (r : V × Hp) : Prop := ∀ m A s x l u t sl, Rel B m H s.heap -> VR m a x -> VR m lo l -> VR m hi u -> VR m st t -> s.heap.IsSliceOf sl l u t -> HasItem s x /\ Does B A [] (getItem x (.ref sl)) m s (ValP B r)
noncomputable def sliceO (H : Hp) (a lo hi st : V) : OM (V × Hp) := match a with
 | .str s => match st with
  | .none => onInt lo fun lo => onInt hi fun hi => reqO (0 <= lo /\ lo <= hi /\ hi <= s.cps.size /\ s.cps.size <= limN) (ret (.str ⟨(cut s.cps.toList lo.toNat hi.toNat).toArray⟩, H))
  | _ => OM.no
 | .ref r i => (getO H r i).bind fun o => onL o fun xs => reqO (xs.length <= limN) (match st with
  | .none => liftO (optI lo) fun lo => liftO (optI hi) fun hi => newLO H (cut xs (lo.elim 0 (clipAt xs.length)) (hi.elim xs.length (clipAt xs.length)))
  | .int s => guardO (s == -1) (liftO (optI lo) fun l => liftO (optI hi) fun h => guardO (l.isNone && h.isNone) (newLO H xs.reverse))
  | _ => OM.no)
 | _ => OM.no
theorem part_of {m : Mp} {a : V} {k : Option Int} {x : Value} (h : optI a = some k) (ha : VR m a x) : IsPart x k := by
 cases a with
 | none => cases h; rw [show x = .none from ha]; exact .none
 | int i => cases h; obtain ⟨t, rfl⟩ := ha; exact .int _ _
 | _ => cases h
theorem pick_eq {m : Mp} {xs : List V} {us : Array Value} (v : VRs m xs us.toList) (lo hi : Option Int) : VRs m (cut xs (lo.elim 0 (clipAt xs.length)) (hi.elim xs.length (clipAt xs.length))) (slicePick us lo hi none).toList := by
 rw [slicePick_plain, <- v.size];exact (v.drop _).take _
section
variable {B : Bs} {H : Hp}
theorem slice_str {x : Str} {lo hi : Int} (z : 0 <= lo /\ lo <= hi /\ hi <= x.cps.size /\ x.cps.size <= limN) : SliceJ B H (.str x) (.int lo) (.int hi) .none (.str ⟨(cut x.cps.toList lo.toNat hi.toNat).toArray⟩, H) := by
 rintro m A s _ _ _ t sl R ⟨tx, rfl⟩ ⟨tl, rfl⟩ ⟨tu, rfl⟩ ht hs;obtain ⟨z1, z2, z3, z4⟩ := z;obtain ⟨a, rfl⟩ := Int.eq_ofNat_of_zero_le z1;obtain ⟨b, rfl⟩ := Int.eq_ofNat_of_zero_le (Int.le_trans z1 z2);have z2 := Int.ofNat_le.1 z2;have z3 := Int.ofNat_le.1 z3;rw [Int.toNat_natCast, Int.toNat_natCast];rw [show t = .none from ht] at hs
 refine ⟨has_str _ _ _, fun Q E q => ?_⟩;obtain ⟨o, o1, o2, o3⟩ := hs;refine wpAny_getItem_str_slice (l := some (a, tl)) (u := some (b, tu)) (st := none) ⟨o, o1, o2, o3⟩ rfl ?_;have pk : slicePicked x (some (a, tl)) (some (b, tu)) none = (List.range (b - a)).map (fun k => a + k) := StrLaws.strSliceIndices_plain (a := a) (b := b) (len := x.length) z2 z3;have fm : ((slicePicked x (some (a, tl)) (some (b, tu)) none).filterMap (x.cps[·]?)) = cut x.cps.toList a b := by
  rw [pk]; exact pick_run x.cps a (b - a)
 have cl : (cut x.cps.toList a b).length <= x.cps.size := le_trans (List.length_take_le' _ _) (le_trans (List.length_drop ▸ Nat.sub_le _ _) (le_of_eq Array.length_toList));unfold sliceMade;split
 ·rename_i w;have w2 := eq_of_beq (Bool.and_eq_true_iff.mp w).2;rw [pk, length_map, List.length_range] at w2;have e : cut x.cps.toList a b = x.cps.toList := by
   have z5 : x.cps.size + a <= b := le_of_eq ((congrArg (· + a) w2.symm).trans (Nat.sub_add_cancel z2))
   have a0 : a = 0 := Nat.le_zero.1 (Nat.le_of_add_le_add_left (le_trans z5 z3 : x.cps.size + a <= x.cps.size + 0));unfold cut;rw [a0, List.drop_zero, Nat.sub_zero, List.take_of_length_le (le_trans (le_of_eq Array.length_toList) (le_trans (Nat.le_add_right _ _) z5))]
  exact q m _ _ (Step.refl ..) ⟨R, tx, by rw [e]⟩
 ·refine ⟨?_, q m _ _ (Step.refl ..) ⟨R, s.toks, by rw [fm]⟩⟩
  rw [fm];exact le_trans cl (lim_line z4)
theorem sliceO_ok {a lo hi st : V} : Says (sliceO H a lo hi st) (SliceJ B H a lo hi st) := by
 cases a with
 | str x => cases st with
  | none => exact Says.onInt fun i e => Says.onInt fun j e' => Says.req fun z => Says.ret (e ▸ e' ▸ slice_str z)
  | _ => exact Says.no
 | ref r i =>
  refine Says.get fun o g => Says.onL fun xs e => Says.req fun hl2 => ?_;cases st with
  | none =>
   refine Says.lift fun l g1 => Says.lift fun h g2 => Says.newL fun hl => ?_;intro m A s x lv uv t sl R ha hlo hhi ht hs;obtain ⟨p, us, n, e1, rfl, l1, v1⟩ := R.list ha (g.trans e);rw [show t = .none from ht] at hs
   exact ⟨has_list l1, val_list (k := s.toks) R hl (pick_eq v1 _ _) fun hz Q E q => wpAny_getItem_list_slice (isL_of l1) hs (part_of g1 hlo) (part_of g2 hhi) .none (by simp) q (by rw [v1.size]; exact lim_line hl2)⟩
  | int k =>
   refine Says.guard fun hk => Says.lift fun l g1 => Says.lift fun h g2 => Says.guard fun hlh => Says.newL fun hl => ?_;obtain rfl : k = -1 := by simpa using hk
   rw [Bool.and_eq_true, Option.isNone_iff_eq_none, Option.isNone_iff_eq_none] at hlh;rw [hlh.1] at g1;rw [hlh.2] at g2;rintro m A s x lv uv t sl R ha hlo hhi ⟨tt, rfl⟩ hs;obtain ⟨p, us, n, e1, rfl, l1, v1⟩ := R.list ha (g.trans e);exact ⟨has_list l1, val_list (k := s.toks) R hl (by rw [krv_pick]; exact v1.reverse) fun hz Q E q => wpAny_getItem_list_slice (isL_of l1) hs (part_of g1 hlo) (part_of g2 hhi) (.int _ _) (by simp) q (by rw [v1.size]; exact lim_line hl2)⟩
  | _ => exact Says.no
 | _ => exact Says.no
end
end
section
open PySem.SeqAt PySem.Builtin.Str
noncomputable def noSuper : Expr -> Bool
 | .Call (.Name _ _) [] [] _ => false
 | _ => true
theorem Ns_keep {h h' : Heap} {a : Addr} {f : Str -> Option Value} (n : h.Ns a f) (k : ∀ o, h.get? a = some o -> h'.get? a = some o) : h'.Ns a f :=
 let ⟨o, es, ep, e, r⟩ := n; ⟨o, es, ep, k _ e, r⟩
section
variable {B : Bs} {A : Around} {env : Env} {m : Mp} {s s' : Shared} {H H' : Hp} {d : Nat} {e : En}
theorem Rel.kIn (R : Rel B m H s.heap) (K : BOk B) : B.K.In s.heap := fun a o x => R.keep a o (K.frag a o x).2 (K.frag a o x).1
theorem Rel.ns (R : Rel B m H s.heap) {a : Addr} {f : Str -> Option Value} (t : a ∉ B.tabs) (n : B.h0.Ns a f) : s.heap.Ns a f := Ns_keep n fun o x => R.keep a o t x
theorem Rel.nolim (R : Rel B m H s.heap) (K : BOk B) : s.heap.NoLimit := let ⟨mc, a, b⟩ := K.nolim; ⟨mc, R.ns K.gtab.2.2 a, b⟩
theorem Rel.two {r i : Nat} {o : O} (R : Rel B m H s.heap) (g : H.get r i = some o) (h : r ≠ 0) : 2 <= r := by
 rcases Nat.lt_or_ge r 2 with z | z
 ·have : r = 1 := by omega
  rw [this, R.pin] at g; cases g
 ·exact z
theorem Rel.cell (R : Rel B m H s.heap) {p q : Nat × Nat} {v : V} (g : H.get p.1 p.2 = some (.cell (some v))) (e : m p.1 p.2 = some q) : ∃ u, s.heap.IsCell q.1 (some u) /\ VR m v u := by
 obtain ⟨u, a, b⟩ := R.obj p.1 p.2 q _ e g;obtain ⟨y, rfl, c⟩ := b _ rfl;exact ⟨y, a, c⟩
theorem Rel.inst (R : Rel B m H s.heap) {r i C : Nat} {fs : List (Str × V)} {u : Value} (v : VR m (.ref r i) u) (g : H.get r i = some (.inst C fs)) :
  ∃ p f o es ep, m r i = some p /\ u = .ref p.1 /\ s.heap.get? p.1 = some (instObj C p.2) /\ s.heap.get? p.2 = some o /\ o.data = .dict es ep /\ StrKeys es /\ (∀ name, nsFind es name = f name) /\ LocR m fs f /\ s.heap.Ns1 p.2 f /\ Within f (fs.map (·.1)) := by
 obtain ⟨p, e, rfl⟩ := v;obtain ⟨a, f, n1, c, w⟩ := R.obj r i p _ e g;obtain ⟨o, es, ep, b1, b2, b3, b4⟩ := n1.ns;exact ⟨p, f, o, es, ep, e, rfl, a, b1, b2, b3, b4, c, n1, w⟩
theorem lookIn_of {o : Obj} {es : Array DictEntry} {ep : Nat} {name : Str} {u : Value} (hd : o.data = .dict es ep) (h : nsFind es name = some u) : lookIn name o = some (some u) := by
 unfold lookIn;rw [hd];unfold nsFind findBy at h;rw [<- Array.find?_toList] at h;cases q : es.toList.find? fun e => e.key.isStr name with
 | none => rw [q] at h; cases h
 | some e => rw [q] at h; cases h; simp only [q]
theorem handed {a : V} {x : Value} (ha : VR m a x) (h : ∀ i, a ≠ .bi i) : handedIn x = true := by
 cases a with
 | bi i => exact absurd rfl (h i)
 | int i => obtain ⟨t, rfl⟩ := ha; rfl
 | str i => obtain ⟨t, rfl⟩ := ha; rfl
 | ref r i => obtain ⟨p, _, rfl⟩ := ha; rfl
 | none => cases ha; rfl
 | bool i => cases ha; rfl
 | ty i => cases ha; rfl
theorem base_ok {o : Expr} {attr : Str} {t : Sem Value} {P : Mp -> Value -> Shared -> Prop} (hn : noSuper o = true) (h : Does B A [] t m s P) : Does B A [] (attributeBase o attr env t) m s P := by
 cases o with
 | Call f args kws pos => cases f with
  | Name id p => cases args with
   | nil => cases kws with
    | nil => cases hn
    | cons _ _ => exact h
   | cons _ _ => exact h
  | _ => exact h
 | _ => exact h
theorem sub_tail {x i : Value} {value slice : Expr} {P : Mp -> Value -> Shared -> Prop} (hi : HasItem s x) (h : Does B A [] (getItem x i) m s P) :
  Does B A [] (getitemInPython x >>= fun b => subscripted slice b x i >>= fun r => letTemporaryGo value x r >>= fun _ => pure r) m s P := by
 obtain ⟨T, id, hl, hT⟩ := hi;intro Q E q _;refine wpAny_bind ?_;rw [getitemInPython_of_ne hT.not_modules];refine wpAny_bind (wpAny_specialOf hT hl (wpAny_pure ?_));have fin : ∀ vs, wpAny (model B.prog B.w) A (operate vs (getItem x i) >>= fun r => letTemporaryGo value x r >>= fun _ => pure r) Q E s := fun vs =>
  (show Does B A [] (operate vs (getItem x i) >>= fun r => letTemporaryGo value x r >>= fun _ => pure r) m s P from h.operate.bind fun m1 u s1 st1 p1 => Does.letGo (Does.pure p1)) Q E q
 have e : ∃ vs, subscripted slice false x i = operate vs (getItem x i) := by
  cases slice with
  | Slice a b c p => cases c <;> exact ⟨_, rfl⟩
  | _ => exact ⟨_, rfl⟩
 obtain ⟨vs, e⟩ := e;rw [e];exact fin vs
end
noncomputable def nameO (e : En) (H : Hp) (x : Str) : OM V := guardO (!badName x) (liftO (lk e.names x) fun k => match k with
 | .local => liftO (lk e.loc x) ret
 | .cell => liftO (lk e.cel x) fun p => (getO H p.1 p.2).bind fun o => onC o fun v => liftO v ret
 | .free => liftO (lk e.cel x) fun p => (getO H p.1 p.2).bind fun o => onC o fun v => liftO v ret
 | .globalImplicit => liftO (globV x) ret
 | _ => OM.no)
def NameJ (B : Bs) (e : En) (H : Hp) (x : Str) (v : V) : Prop := ∀ m A env s pos, Rel B m H s.heap -> EnvOk B m e env s.heap -> Does B A [] (eval (.Name x pos) env) m s (ValP B (v, H))
theorem bad_no {x : Str} (h : (!badName x) = true) : (x == ("__debug__" : Str)) = false /\ (x == ("__classdict__" : Str)) = false := by
 unfold badName at h;rw [Bool.not_eq_true', Bool.or_eq_false_iff] at h;exact h
theorem EnvOk.kindOf {B : Bs} {m : Mp} {e : En} {env : Env} {h : Heap} (N : EnvOk B m e env h) {x : Str} {k : NameKind} (z : lk e.names x = some k) : env.kindOf x = some k := by unfold Env.kindOf; rw [N.names]; exact z
section
variable {B : Bs} (K : BOk B) {e : En} {H : Hp}
include K
theorem nameO_ok {x : Str} : Says (nameO e H x) (NameJ B e H x) := by
 refine Says.guard fun hb => Says.lift fun k hk => ?_;have hb := bad_no hb;cases k
 case «local» =>
  refine Says.lift fun v h => Says.ret ?_;intro m A env s pos R N;obtain ⟨f, hf, hl⟩ := N.loc;obtain ⟨u, u1, u2⟩ := hl x v h;exact val_same (k := s.toks) R u2 fun Q E q => wpAny_Name (wpAny_loadName_local N.kind (N.kindOf hk) hf u1 q) hb.1
 case cell =>
  refine Says.lift fun p p1 => Says.get fun o g => Says.onC fun w e1 => Says.lift fun v e2 => Says.ret ?_;intro m A env s pos R N;obtain ⟨q, q1, q2⟩ := N.cel x p p1;obtain ⟨u, u1, u2⟩ := R.cell (g.trans (e2 ▸ e1)) q1;exact val_same (k := s.toks) R u2 fun Q E z => wpAny_Name (wpAny_loadName_cell N.kind (N.kindOf hk) q2 u1 z) hb.1
 case free =>
  refine Says.lift fun p p1 => Says.get fun o g => Says.onC fun w e1 => Says.lift fun v e2 => Says.ret ?_;intro m A env s pos R N;obtain ⟨q, q1, q2⟩ := N.cel x p p1;obtain ⟨u, u1, u2⟩ := R.cell (g.trans (e2 ▸ e1)) q1;exact val_same (k := s.toks) R u2 fun Q E z => wpAny_Name (wpAny_loadName_free N.kind (N.kindOf hk) q2 u1 z hb.2) hb.1
 case globalImplicit =>
  refine Says.lift fun v h => Says.ret ?_;intro m A env s pos R N;obtain ⟨mg, mb, n1, n2, k1, k2⟩ := K.glob;have n1 := R.ns K.gtab.1 n1;have n2 := R.ns K.gtab.2.1 n2;rw [<- N.globals] at n1;rw [<- N.builtins] at n2;unfold globV at h;cases g : pgT.glob x with
  | some w =>
   rw [g] at h;cases h;obtain ⟨u, u1, u2⟩ := k1 x _ g;exact val_same (k := s.toks) R (u2.mono R.m0) fun Q E z => Name_function_global N.kind (N.kindOf hk) (loadGlobal_global n1 u1 z) hb.1
  | none =>
   rw [g] at h;obtain ⟨k3, u, u1, u2⟩ := k2 x v g h;exact val_same (k := s.toks) R (u2.mono R.m0) fun Q E z => Name_function_global N.kind (N.kindOf hk) (loadGlobal_builtin n1 k3 n2 u1 z) hb.1
 all_goals exact Says.no
end
noncomputable def fieldOk (C : Nat) (x : Str) : Bool := match pgT.cls C with
 | some c => c.fields.contains x
 | none => false
noncomputable def noBi (x : Option V) : Option V := match x with
 | none => none
 | some v => match v with
  | .bi _ => none
  | v => some v
theorem noBi_some {x : Option V} {v : V} (h : noBi x = some v) : x = some v /\ ∀ i, v ≠ .bi i := by
 cases x with
 | none => cases h
 | some w => cases w <;> cases h <;> exact ⟨rfl, nofun⟩
theorem field_ok {C : Nat} {x : Str} (h : fieldOk C x = true) : ∃ c, pgT.cls C = some c /\ c.fields.contains x = true := by
 unfold fieldOk at h;cases q : pgT.cls C with
 | none => rw [q] at h; cases h
 | some c => rw [q] at h; exact ⟨c, rfl, h⟩
def AttrJ (B : Bs) (H : Hp) (a : V) (name : Str) (v : V) : Prop := ∀ m A s x expr, Rel B m H s.heap -> VR m a x -> Does B A [] (getAttr x name expr) m s (ValP B (v, H))
noncomputable def attrO (H : Hp) (a : V) (x : Str) : OM V := onRef a fun r i => (getO H r i).bind fun o => onI o fun C fs => guardO (fieldOk C x) (askO Ans.v? (noBi (lk fs x)))
section
variable {B : Bs} (K : BOk B) {e : En} {H : Hp}
include K
theorem attrO_ok {a : V} {x : Str} : Says (attrO H a x) (AttrJ B H a x) := by
 refine Says.onRef fun r i e => Says.get fun o g => Says.onI fun C fs e' => Says.guard fun hc => Says.askO fun v hv => ?_;subst e;intro m A s x' expr R ha;obtain ⟨hv, hv2⟩ := noBi_some hv;obtain ⟨c, c1, hc⟩ := field_ok hc;have q := K.cls C c c1;obtain ⟨p, f, o, es, ep, e1, rfl, i1, i2, i3, i4, i5, i6, -⟩ := R.inst ha (g.trans e');obtain ⟨u, u1, u2⟩ := i6 x v hv;have lk : lookIn x o = some (some u) := lookIn_of i3 (by rw [i5]; exact u1)
 obtain ⟨cd, d1, d2⟩ := any_some q.dict;have fo : findObj B.K C (some o) x = some (.value u) := by
  unfold findObj;rw [d1, Option.bind_some, q.field x hc, Option.bind_some];show (some none).bind _ = _;rw [Option.bind_some];show (some false).bind _ = _;rw [Option.bind_some];show (W.ownOf cd (some o) x).bind _ = _;unfold W.ownOf;rw [d2, if_pos rfl];show (lookIn x o).bind _ = _;rw [lk]; rfl
 exact val_same R u2 fun Q E z => get_value (R.kIn K) ⟨i1, rfl, rfl, i2⟩ q.ga fo (handed u2 hv2) z
end
theorem lookup_putL (x y : Str) (v : V) : ∀ (l : List (Str × V)), (putL l x v).lookup y = if y = x then some v else l.lookup y
 | [] => by
  unfold putL;rw [List.lookup_cons];by_cases h : y = x
  ·subst h; simp
  ·have : (y == x) = false := by simpa using h
   rw [this, if_neg h]
 | (z, u) :: r => by
  unfold putL;by_cases h : x = z
  ·subst h;rw [if_pos rfl, List.lookup_cons, List.lookup_cons];by_cases q : y = x
   ·subst q; simp
   ·have : (y == x) = false := by simpa using q
    simp only [this, if_neg q]
  ·rw [if_neg h, List.lookup_cons, List.lookup_cons];by_cases q : y = z
   ·subst q;have : ¬ y = x := fun e => h e.symm;simp [this]
   ·have : (y == z) = false := by simpa using q
    simp only [this];exact lookup_putL x y v r
theorem LocR.put {m : Mp} {l : List (Str × V)} {f : Str -> Option Value} {x : Str} {v : V} {u : Value} (h : LocR m l f) (hv : VR m v u) : LocR m (putL l x v) (fun y => if y = x then some u else f y) := fun y w e => by
 rw [lookup_putL] at e;by_cases q : y = x
 ·rw [if_pos q] at e; cases e;exact ⟨u, if_pos q, hv⟩
 ·rw [if_neg q] at e;obtain ⟨z, a, b⟩ := h y w e;exact ⟨z, (if_neg q).trans a, b⟩
theorem within_putL {f : Str -> Option Value} {v : V} (x : Str) (u : Value) : ∀ {l : List (Str × V)}, Within f (l.map (·.1)) -> Within (fun y => if y = x then some u else f y) ((putL l x v).map (·.1)) := by
 intro l w y hy;have key : y = x \/ y ∈ l.map (·.1) := by
  by_cases e : y = x
  ·exact .inl e
  ·simp only [if_neg e] at hy; exact .inr (w y hy)
 clear hy w
 induction l with
 | nil => rcases key with rfl | h; exact List.mem_singleton.mpr rfl; cases h
 | cons z r ih =>
  obtain ⟨z1, z2⟩ := z;unfold putL;by_cases e : x = z1
  ·subst e;rw [if_pos rfl];rcases key with rfl | h
   ·exact mem_cons_self
   ·exact h
  ·rw [if_neg e];rcases key with rfl | h
   ·exact mem_cons_of_mem _ (ih (.inl rfl))
   ·rcases List.mem_cons.mp h with h | h
    ·exact h ▸ mem_cons_self
    ·exact mem_cons_of_mem _ (ih (.inr h))
theorem length_putL (x : Str) (v : V) : ∀ (l : List (Str × V)), (putL l x v).length <= l.length + 1
 | [] => Nat.le_refl _
 | (z, u) :: r => by
  unfold putL;split
  ·exact Nat.le_succ _
  ·exact Nat.succ_le_succ (length_putL x v r)
def StoreJ (B : Bs) (e : En) (H : Hp) (x : Str) (v : V) (r : En × Hp) : Prop := ∀ m A env s u, Rel B m H s.heap -> EnvOk B m e env s.heap -> VR m v u -> Does B A [env.locals] (storeName env x u) m s (EnvP B env r)
noncomputable def storeO (e : En) (H : Hp) (x : Str) (v : V) : OM (En × Hp) := liftO (lk e.names x) fun k => match k with
 | .local => ret ({ e with loc := putL e.loc x v }, H)
 | .cell => liftO (lk e.cel x) fun p => (getO H p.1 p.2).bind fun o => onC o fun _ => (setO H p.1 p.2 (.cell (some v))).bind fun H => ret (e, H)
 | _ => OM.no
theorem EnvOk.same {B : Bs} {m : Mp} {e : En} {env : Env} {h h' : Heap} (x : EnvOk B m e env h) (k : ∀ o, h.get? env.locals = some o -> h'.get? env.locals = some o) : EnvOk B m e env h' :=
 let ⟨f, a, b⟩ := x.loc
 { x with loc := ⟨f, Ns_keep a k, b⟩ }
theorem SameBut.but {a b : Nat} {h h' : Heap} {o : Obj} (hs : Heap.SameBut a h h') (hb : b ∉ [a]) (z : h.get? b = some o) : h'.get? b = some o := (hs.2 b (fun w => hb (by rw [w]; exact List.mem_singleton.mpr rfl))).trans z
section
variable {B : Bs} {A : Around} {env : Env} {m : Mp} {s s' : Shared} {H H' : Hp} {d : Nat} {e e' : En}
theorem Rel.priv1 (R : Rel B m H s.heap) {a : Nat} {h' : Heap} (n : NP m a) (l : B.n0 <= a) (hs : Heap.SameBut a s.heap h') : Rel B m H h' /\ Step B [a] m s.heap m h' :=
 R.priv (fun b hb => by rw [List.mem_singleton] at hb; subst hb; exact ⟨n, l⟩) (fun _ _ hb z => SameBut.but hs hb z) (by rw [hs.1]; exact Nat.le_refl _)
theorem Rel.write1 (R : Rel B m H s.heap) {r i : Nat} {p : Nat × Nat} {o o0 : O} {h' : Heap} (g : H.get r i = some o0) (r0 : r ≠ 0) (hm : m r i = some p) (hs : Heap.SameBut p.1 s.heap h') (ho : OR B m o p h') : Rel B m (H.upd r i o) h' /\ Step B [] m s.heap m h' :=
 R.write (R.two g r0) hm (fun b _ hb _ z => (hs.2 b hb).trans z) hs.1 ho
theorem storeO_ok {x : Str} {v : V} : Says (storeO e H x v) (StoreJ B e H x v) := by
 refine Says.lift fun k hk => ?_;cases k
 case «local» =>
  refine Says.ret ?_;intro m A env s u R N hv Q E q _;obtain ⟨f, hf, hl⟩ := N.loc;refine wpAny_storeName_local (N.kindOf hk) hf (fun h' hn hs => ?_) (by rw [N.kind]; rfl)
  have pr := R.priv1 N.np N.low hs;exact q m () _ pr.2 ⟨pr.1, { N with loc := ⟨_, hn, hl.put hv⟩ }⟩
 case cell =>
  refine Says.lift fun p g1 => Says.get fun o g => Says.onC fun w e1 => Says.bind (F := fun K => p.1 ≠ 0 /\ K = H.upd p.1 p.2 (.cell (some v))) (Says.set fun h => ⟨h, rfl⟩) fun K hK => Says.ret ?_;obtain ⟨r2, rfl⟩ := hK;intro m A env s u R N hv Q E q _;have g2 := g.trans e1;obtain ⟨c, c1, c2⟩ := N.cel x p g1;obtain ⟨old, o1, o2⟩ := R.obj p.1 p.2 c _ c1 g2;refine wpAny_storeName_cell N.kind (N.kindOf hk) c2 o1 fun h' hc hs => ?_;have wr := R.write1 (o := .cell (some v)) g2 r2 c1 hs ⟨some u, hc, fun y e => by cases e; exact ⟨u, rfl, hv⟩⟩
  have nl : (env.locals : Nat) ≠ c.1 := fun z => (N.np p.1 p.2 c r2 c1).1 z.symm;exact q m () _ wr.2.nil ⟨wr.1, N.same fun o z => (hs.2 _ nl).trans z⟩
 all_goals exact Says.no
end
def SetAJ (B : Bs) (H : Hp) (a : V) (name : Str) (v : V) (H' : Hp) : Prop := ∀ m A s x u, Rel B m H s.heap -> VR m a x -> VR m v u -> Does B A [] (setAttr x name u) m s (fun m' _ s' => Rel B m' H' s'.heap)
noncomputable def setAttrO (H : Hp) (a : V) (x : Str) (v : V) : OM Hp := onRef a fun r i => (getO H r i).bind fun o => onI o fun C fs => guardO (fieldOk C x && decide (fs.length < 1000)) (setO H r i (.inst C (putL fs x v)))
theorem setAttrO_ok {B : Bs} (K : BOk B) {H : Hp} {a v : V} {name : Str} : Says (setAttrO H a name v) (SetAJ B H a name v) := by
 refine Says.onRef fun r i e => Says.get fun o g => Says.onI fun C fs e' => Says.guard fun hc => Says.set fun r2 => ?_;subst e;rw [Bool.and_eq_true, decide_eq_true_eq] at hc;obtain ⟨hc, hlen⟩ := hc;obtain ⟨c, c1, hc⟩ := field_ok hc;intro m A s x u R ha hv Q E z _;have g2 := g.trans e';have q := K.cls C c c1;obtain ⟨p, f, o, es, ep, e1, rfl, i1, i2, i3, i4, i5, i6, n1, w1⟩ := R.inst ha g2;have I : InstAt s.heap p.1 (instObj C p.2) C (some o) := ⟨i1, rfl, rfl, i2⟩;obtain ⟨cd, d1, d2⟩ := any_some q.dict;have X := R.kIn K;refine set_plain X I q.sa ?_;have tk : takerIn B.K C name = some none := by unfold takerIn; rw [q.field name hc]; rfl
 refine osa_open (s := { s with toks := s.toks + 1 }) X I q.over tk fun b => ?_
 refine wpAny_bind (wpAny_pure (wpAny_bind (wpAny_bind (wpAny_loadPart (s := { s with toks := s.toks + 1 }) i1 (wpAny_bind ((looks_clsIn X d1).at ?_))))))
 rw [d2];refine wpAny_pure (a := some p.2) (wpAny_bind (wpAny_pure (wpAny_bind ?_)));refine wpAny_nsSet1 (s := { s with toks := s.toks + 1 }) n1 fun h' hn hs => ?_
 have w2 := within_putL (v := v) name u w1;have hne : p.1 ≠ p.2 := fun w => by
  rw [w, i2] at i1;cases i1; cases i3
 have wr := R.write (o := .inst C (putL fs name v)) (R.two g2 r2) e1 (h' := h') (fun b o _ hb y => (hs.2 b hb).trans y) hs.1 ⟨(hs.2 _ hne).trans i1, _, hn, i6.put hv, w2⟩;obtain ⟨o2, es2, ep2, f1, f2, f3⟩ := hn.count w2;refine wpAny_bind (wpAny_lookBehind (o := o2) f1 (by rw [f2]; exact pastItsLine_dict (by rw [length_map] at f3; have := length_putL name v fs; rw [sizeLine_eq]; omega)) (wpAny_pure ?_))
 exact z m () _ wr.2 wr.1
section
variable {B : Bs} {A : Around} {env : Env} {m : Mp} {s s' : Shared} {H H' : Hp} {d : Nat} {e e' : En}
theorem setItem_listX {l : Nat} {us : Array Value} {n : Nat} {k : Int} {t : Tok} {v : Value} {Q : Unit -> Shared -> Prop} {E : Value -> Shared -> Prop} (hl : IsL s.heap l us n)
  (h0 : 0 <= k) (hfit : k < 2 ^ 63) (hn : k < us.size)
  (hQ : ∀ h' n', IsL h' l (us.setIfInBounds k.toNat v) n' -> Heap.SameBut l s.heap h' -> Q () { s with heap := h' }) :
  wpAny (model B.prog B.w) A (setItem (.ref l) (.int k t) v) Q E s := by
 have hL := isL_of hl;unfold setItem
 try with_reducible refine wpAny_holding ?_
 first | refine wpAny_bind (wpAny_pure ?_) | skip
 refine wpAny_bind (wpAny_sequenceKey hL.typeIs (by decide) ?_)
 refine wpAny_bind (wpAny_callSpecial?_slot (name := ofString "__setitem__") hL.typeIs slot_list_setitem
  (wpAny_call_entry slot_list_setitem hL.typeIs entry_list_setitem ?_ (args_list_setitem _ _ _)))
 show wpAny _ _ (Builtin.List.listSubscript? (.int k t) >>= _) _ _ s;refine wpAny_bind (wpAny_listSubscript_int (fitsIndex_of h0 hfit) ?_);clear hfit;obtain ⟨j, rfl⟩ := Int.eq_ofNat_of_zero_le h0;have hj : j < us.size := Int.ofNat_lt.1 hn;have hx' : us[j]? = some us[j] := Array.getElem?_eq_getElem hj;show wpAny _ _ ((seqItemAt l j >>= fun r => pure (r.map (j, ·))) >>= _) _ _ s
 refine wpAny_bind (wpAny_bind (wpAny_seqItemAt hl rfl (wpAny_pure ?_)));rw [hx'];show wpAny _ _ (setSeqItemAt l j v >>= _) _ _ s;have hfin := IsL.update hl (·.setIfInBounds j v)
 refine wpAny_bind (wpAny_setSeqItemAt hl rfl ?_)
 first
  | exact wpAny_bind (wpAny_pure (wpAny_pure ⟨.none, rfl, wpAny_pure (hQ _ _ hfin (Heap.SameBut.update ..))⟩))
  | exact wpAny_pure ⟨.none, rfl, wpAny_pure (hQ _ _ hfin (Heap.SameBut.update ..))⟩
end
def SetIJ (B : Bs) (H : Hp) (a k v : V) (H' : Hp) : Prop := ∀ m A s x y u, Rel B m H s.heap -> VR m a x -> VR m k y -> VR m v u -> Does B A [] (setItem x y u) m s (fun m' _ s' => Rel B m' H' s'.heap)
noncomputable def setItemO (H : Hp) (a k v : V) : OM Hp := onRef a fun r i => (getO H r i).bind fun o => onO o
 (fun xs => onInt k fun j => reqO (0 <= j /\ j.toNat < xs.length /\ j < 1000000) (setO H r i (.list (xs.set j.toNat v))))
 (fun _ => OM.no)
 (fun es => reqO (es.length < limN) ((askO Ans.k? (keyV k)).bind fun q => setO H r i (.dict (putD q k v es))))
 (fun _ _ => OM.no)
theorem setItemO_ok {B : Bs} (K : BOk B) {H : Hp} {a k v : V} : Says (setItemO H a k v) (SetIJ B H a k v) := by
 refine Says.onRef fun r i e => Says.get fun o g => Says.onO (fun xs e' => Says.onInt fun j ej => Says.req fun hj => Says.set fun r2 => ?_) (fun _ _ => Says.no)
  (fun es e' => Says.req fun hz => Says.bind (F := fun q => keyV k = some q) (Says.askO fun _ h => h) fun q hq => Says.set fun r2 => ?_) (fun _ _ _ => Says.no)
 ·subst e ej;rintro m A s x _ u R ha ⟨tk, rfl⟩ hv Q E z _;obtain ⟨p, us, n, e1, rfl, l1, v1⟩ := R.list ha (g.trans e');have hz := v1.size;refine setItem_listX l1 hj.1 (Int.lt_trans hj.2.2 (by decide)) ((Int.toNat_lt hj.1).1 (hz ▸ hj.2.1)) fun h' n' hl hs => ?_
  have wr := R.write1 (o := .list (xs.set j.toNat v)) (g.trans e') r2 e1 hs ⟨_, n', hl, by rw [Array.toList_setIfInBounds]; exact v1.set hv _⟩
  exact z m () _ wr.2 wr.1
 ·subst e;intro m A s x y u R ha hk hv Q E z _;obtain ⟨p, kvs, e1, rfl, D, dr, hs⟩ := R.dict K ha (g.trans e');refine setItem_at (key_is hq hk) D (fun h' hd hs => ?_) (by rw [dr.length]; exact lim_line (Nat.le_of_lt hz))
  have wr := R.write1 (o := .dict (putD q _ v _)) (g.trans e') r2 e1 hs ⟨_, hd, putD_ok hq hv dr D.nodup⟩;exact z m () _ wr.2 wr.1
end
section
open PySem.SeqAt PySem.Builtin.Str
def Codes (B : Bs) (A : Around) (c : Code) (m : Mp) (s : Shared) (P : Mp -> Value -> Shared -> Prop) : Prop :=
 ∀ Rr : Result -> Shared -> Prop, (∀ m' u s', Step B [] m s.heap m' s'.heap -> P m' u s' -> [Sam B s'] -> Rr (.ok (.ret u)) s') -> [Sam B s] -> codeAny (model B.prog B.w) A c Rr s
theorem Codes.does {B : Bs} {A : Around} {f : Value} {us : List Value} {m : Mp} {s : Shared} {P : Mp -> Value -> Shared -> Prop} (h : Codes B A (.call f ⟨us, []⟩) m s P) : Does B A [] (call f us) m s P :=
 fun Q E q => wpAny_call (h _ fun m' u s' st p => q m' u s' st p)
def FnJ (B : Bs) (d a : Nat) (as : List V) (H : Hp) (r : V × Hp) : Prop := keepIn B.K (.ref a) = true /\ ∀ m A s us, Rel B m H s.heap -> VRs m as us -> Room d A -> Codes B A (.call (.ref a) ⟨us, []⟩) m s (ValP B r)
structure Own (B : Bs) (m : Mp) (h : Heap) (a : Nat) : Prop where
 np : NP m a
 low : B.n0 <= a
 lt : a < h.objs.size
theorem Own.step {B : Bs} {X : List Nat} {m m' : Mp} {h h' : Heap} {a : Nat} (o : Own B m h a) (s : Step B X m h m' h') : Own B m' h' a := ⟨s.np o.np o.lt, o.low, lt_of_lt_of_le o.lt s.size⟩
noncomputable def IR (B : Bs) (m : Mp) (h : Heap) (a j : Nat) : It -> Prop
 | .lst r i k => ∃ p, m r i = some p /\ h.IsListIter a p.1 k
 | .tup r i k => ∃ p, m r i = some p /\ h.IsTupleIter a p.1 k
 | .keys r i k n => ∃ p, m r i = some p /\ h.IsKeyIter a p.1 k n n
 | .rng k n => IsRangeIter h a k (n - k) 1
 | .enm r i k => ∃ p old, m r i = some p /\ IsEnum h a j k old /\ h.IsListIter j p.1 k /\ a ≠ j
 | .sgn s => ∃ x t k, h.IsStrIter a (strIterType x) x t k /\ s = x.cps.toList.drop k
structure ItOk (B : Bs) (L : Nat) (m : Mp) (h : Heap) (a j : Nat) (it : It) : Prop where
 oa : Own B m h a
 oj : Own B m h j
 na : a ≠ L
 nj : j ≠ L
 ir : IR B m h a j it
noncomputable def compE (elt : Expr ⊕ (Expr × Expr)) (gs : List Comprehension) (scope : Scope) (pos : Pos) : Expr := match elt with
 | .inl x => .ListComp x gs scope pos
 | .inr kx => .DictComp kx.1 kx.2 gs scope pos
def WhJ (B : Bs) (d : Nat) (e : En) (H : Hp) (t : Expr) (b : List Stmt) (r : Fl × En × Hp) : Prop := ∀ m A env s, At B d e H m A env s -> ∀ Rr : Result -> Shared -> Prop,
  (∀ m' u s', Step B [env.locals] m s.heap m' s'.heap -> FlowP B env r m' u s' -> [Sam B s'] -> Rr (.ok u) s') -> [Sam B s] -> codeAny (model B.prog B.w) A (.whileLoop t b [] env) Rr s
def FoJ (B : Bs) (d : Nat) (e : En) (H : Hp) (t : Expr) (it : It) (b : List Stmt) (r : Fl × En × Hp) : Prop := ∀ m A env s a j, At B d e H m A env s -> ItOk B env.locals m s.heap a j it -> ∀ Rr : Result -> Shared -> Prop,
  (∀ m' u s', Step B [env.locals, a, j] m s.heap m' s'.heap -> FlowP B env r m' u s' -> [Sam B s'] -> Rr (.ok u) s') -> [Sam B s] -> codeAny (model B.prog B.w) A (.forLoop t (.ref a) b [] env) Rr s
def CoJ (B : Bs) (d : Nat) (e : En) (H : Hp) (elt : Expr ⊕ (Expr × Expr)) (g : Comprehension) (it : It) (r i : Nat) (q : En × Hp) : Prop := ∀ m A env s a j p scope pos, At B d e H m A env s -> ItOk B env.locals m s.heap a j it -> m r i = some p -> g.is_async = 0 ->
  ∀ Rr : Result -> Shared -> Prop, (∀ m' s', Step B [env.locals, a, j] m s.heap m' s'.heap -> EnvP B env q m' () s' -> [Sam B s'] -> Rr (.ok .next) s') -> [Sam B s] -> codeAny (model B.prog B.w) A (.compLoop (compE elt [g] scope pos) 0 (.ref a) (.ref p.1) env) Rr s
structure OI where
 ev : Nat -> En -> Hp -> Expr -> OM (V × Hp)
 ts : Nat -> En -> Hp -> Expr -> OM (Bool × Hp)
 ex : Nat -> En -> Hp -> Stmt -> OM (Fl × En × Hp)
 fn : Nat -> Nat -> List V -> Hp -> OM (V × Hp)
 wh : Nat -> En -> Hp -> Expr -> List Stmt -> OM (Fl × En × Hp)
 fo : Nat -> En -> Hp -> Expr -> It -> List Stmt -> OM (Fl × En × Hp)
 co : Nat -> En -> Hp -> Expr ⊕ (Expr × Expr) -> Comprehension -> It -> Nat -> Nat -> OM (En × Hp)
structure IOk (B : Bs) (I : OI) : Prop where
 ev : ∀ d e H x, Says (I.ev d e H x) (EvJ B d e H x)
 ts : ∀ d e H x, Says (I.ts d e H x) (TsJ B d e H x)
 ex : ∀ d e H x, Says (I.ex d e H x) (ExJ B d e H x)
 fn : ∀ d a as H, Says (I.fn d a as H) (FnJ B d a as H)
 wh : ∀ d e H t b, Says (I.wh d e H t b) (WhJ B d e H t b)
 fo : ∀ d e H t it b, Says (I.fo d e H t it b) (FoJ B d e H t it b)
 co : ∀ d e H elt g it r i, Says (I.co d e H elt g it r i) (CoJ B d e H elt g it r i)
section
variable (I : OI) (d : Nat) (e : En)
noncomputable def evsO : Hp -> List Expr -> OM (List V × Hp)
 | H, [] => ret ([], H)
 | H, x :: r => (I.ev d e H x).bind fun a => (evsO a.2 r).bind fun b => ret (a.1 :: b.1, b.2)
noncomputable def exsO : En -> Hp -> List Stmt -> OM (Fl × En × Hp)
 | e, H, [] => ret (.next, e, H)
 | e, H, x :: r => (I.ex d e H x).bind fun p => match p.1 with
  | .next => exsO p.2.1 p.2.2 r
  | f => ret (f, p.2.1, p.2.2)
noncomputable def stopB : BoolOp -> Bool
 | .And => false
 | .Or => true
noncomputable def boolVO (op : BoolOp) : Hp -> List Expr -> OM (V × Hp)
 | _, [] => OM.no
 | H, x :: r => match r with
  | [] => I.ev d e H x
  | _ :: _ => (I.ev d e H x).bind fun a => onBool a.1 fun b => match b == stopB op with
   | true => ret a
   | false => boolVO op a.2 r
noncomputable def boolTO (op : BoolOp) : Hp -> List Expr -> OM (Bool × Hp)
 | H, [] => ret (!stopB op, H)
 | H, x :: r => (I.ts d e H x).bind fun a => match a.1 == stopB op with
  | true => ret a
  | false => boolTO op a.2 r
noncomputable def chainO : Hp -> V -> List CmpOp -> List Expr -> OM (Bool × Hp)
 | _, _, [], _ => OM.no
 | _, _, _ :: _, [] => OM.no
 | H, a, op :: ops, x :: xs => (I.ev d e H x).bind fun b => (cmpO b.2 op a b.1).bind fun c => match ops with
  | [] => match xs with
   | [] => guardO (!behindInMarks op x) (ret (c, b.2))
   | _ :: _ => OM.no
  | _ :: _ => match xs with
   | [] => OM.no
   | _ :: _ => match c with
    | true => chainO b.2 b.1 ops xs
    | false => ret (false, b.2)
noncomputable def optO (H : Hp) : Option Expr -> OM (V × Hp)
 | none => ret (.none, H)
 | some x => I.ev d e H x
end
noncomputable def noStars (xs : List Expr) : Bool := xs.all fun x => !isStar x
theorem star_cons {x : Expr} (h : (!isStar x) = true) (xs : List Expr) (env : Env) : starEach (x :: xs) env = (false, eval x env) :: starEach xs env := by
 cases x <;> first | rfl | cases h
theorem noStars_cons {x : Expr} {xs : List Expr} (h : noStars (x :: xs) = true) : (!isStar x) = true /\ noStars xs = true := by
 unfold noStars at h;rw [List.all_cons, Bool.and_eq_true] at h;exact h
theorem evs_plain {env : Env} {pos : Pos} : ∀ {xs : List Expr}, noStars xs = true -> (backTo pos (starEach xs env)).any (·.1) = false
 | [], _ => rfl
 | x :: xs, h => by
  obtain ⟨h1, h2⟩ := noStars_cons h;rw [star_cons h1];show (false || (backTo pos (starEach xs env)).any (·.1)) = false
  rw [evs_plain h2]; rfl
section
variable {B : Bs} (K : BOk B) {I : OI} (O : IOk B I) {d : Nat} {e : En} {H : Hp}
theorem evsJ_nil : EvsJ B d e H [] ([], H) := fun m A env s pos z => Does.pure ⟨z.R, trivial⟩
theorem evsJ_cons {x : Expr} {xs : List Expr} {a : V × Hp} {b : List V × Hp} (hs : (!isStar x) = true) (h1 : EvJ B d e H x a) (h2 : EvsJ B d e a.2 xs b) : EvsJ B d e H (x :: xs) (a.1 :: b.1, b.2) := by
 intro m A env s pos z Q E q _;rw [star_cons hs];exact spliced_cons (h1 m A env s z _ E fun m1 u s1 st1 p1 => h2 m1 A env s1 pos (z.step st1 p1.1) _ E fun m2 us s2 st2 p2 => q m2 (u :: us) s2 (st1.trans st2) ⟨p2.1, p1.2.mono st2.le, p2.2⟩)
theorem exsJ_nil : ExsJ B d e H [] (.next, e, H) := fun m A env s z Q E q => wpAny_execs_nil (q m _ s (Step.refl ..) ⟨z.R, z.N, .next⟩)
theorem exsJ_next {x : Stmt} {xs : List Stmt} {e1 : En} {H1 : Hp} {r : Fl × En × Hp} (h1 : ExJ B d e H x (.next, e1, H1)) (h2 : ExsJ B d e1 H1 xs r) : ExsJ B d e H (x :: xs) r := by
 intro m A env s z Q E q _;refine wpAny_execs_cons (h1 m A env s z _ E fun m1 u s1 st1 p1 => ?_);obtain ⟨R1, N1, F1⟩ := p1;cases F1;exact h2 m1 A env s1 ⟨R1, N1, z.rm⟩ Q E fun m2 u2 s2 st2 p2 => q m2 u2 s2 (st1.trans st2) p2
theorem exsJ_stop {x : Stmt} {xs : List Stmt} {p : Fl × En × Hp} (h1 : ExJ B d e H x p) (hp : p.1 ≠ .next) : ExsJ B d e H (x :: xs) p := by
 intro m A env s z Q E q _;refine wpAny_execs_cons (h1 m A env s z _ E fun m1 u s1 st1 p1 => ?_);obtain ⟨f, e', H'⟩ := p;obtain ⟨R1, N1, F1⟩ := p1;cases F1 with
 | next => exact absurd rfl hp
 | brk => exact q m1 _ s1 st1 ⟨R1, N1, .brk⟩
 | cont => exact q m1 _ s1 st1 ⟨R1, N1, .cont⟩
 | ret w => exact q m1 _ s1 st1 ⟨R1, N1, .ret w⟩
theorem boolJ_stop {op : BoolOp} {x y : Expr} {xs : List Expr} {a : V × Hp} {b : Bool} (h1 : EvJ B d e H x a) (ha : a.1 = .bool b) (hb : (b == stopB op) = true) : ∀ m A env s pos, At B d e H m A env s -> Does B A [] (boolOp pos op (evalEach (x :: y :: xs) env)) m s (ValP B a) := by
 intro m A env s pos z;show Does B A [] (do let v <- eval x env; PySem.standAt pos; let t <- PySem.holding [v] (truthy v); match op, t with | .And, false | .Or, true => Pure.pure v | _, _ => boolOp pos op (evalEach (y :: xs) env)) m s _
 refine (h1 m A env s z).bind fun m1 u s1 st1 p1 => Does.standAt ?_;obtain rfl : u = .bool b := by have := p1.2; rw [ha] at this; exact this
 intro Q E q _;refine wpAny_bind (wpAny_holding (wpAny_truthy_bool ?_));cases op <;> cases b <;> first | exact wpAny_pure (q _ _ _ (Step.refl ..) p1) | cases hb
theorem boolJ_more {op : BoolOp} {x y : Expr} {xs : List Expr} {a r : V × Hp} {b : Bool} (h1 : EvJ B d e H x a) (ha : a.1 = .bool b) (hb : (b == stopB op) = false) (h2 : ∀ m A env s pos, At B d e a.2 m A env s -> Does B A [] (boolOp pos op (evalEach (y :: xs) env)) m s (ValP B r)) :
  ∀ m A env s pos, At B d e H m A env s -> Does B A [] (boolOp pos op (evalEach (x :: y :: xs) env)) m s (ValP B r) := by
 intro m A env s pos z;show Does B A [] (do let v <- eval x env; PySem.standAt pos; let t <- PySem.holding [v] (truthy v); match op, t with | .And, false | .Or, true => Pure.pure v | _, _ => boolOp pos op (evalEach (y :: xs) env)) m s _
 refine (h1 m A env s z).bind fun m1 u s1 st1 p1 => Does.standAt ?_;obtain rfl : u = .bool b := by have := p1.2; rw [ha] at this; exact this
 intro Q E q _;refine wpAny_bind (wpAny_holding (wpAny_truthy_bool ?_));have z1 := h2 m1 A env s1 pos (z.step st1 p1.1) Q E q;cases op <;> cases b <;> first | exact z1 | cases hb
theorem boolTJ_stop {op : BoolOp} {x : Expr} {xs : List Expr} {a : Bool × Hp} (h1 : TsJ B d e H x a) (hb : (a.1 == stopB op) = true) : ∀ m A env s, At B d e H m A env s -> Does B A [] (allTrue op (x :: xs) env) m s (BoolP B a) := by
 intro m A env s z;rw [arm_allTrue_cons];refine (h1 m A env s z).bind fun m1 u s1 st1 p1 => ?_;obtain ⟨b, H1⟩ := a;obtain ⟨R1, rfl⟩ := p1;cases op <;> cases u <;> first | exact Does.pure ⟨R1, rfl⟩ | cases hb
theorem boolTJ_more {op : BoolOp} {x : Expr} {xs : List Expr} {a r : Bool × Hp} (h1 : TsJ B d e H x a) (hb : (a.1 == stopB op) = false) (h2 : ∀ m A env s, At B d e a.2 m A env s -> Does B A [] (allTrue op xs env) m s (BoolP B r)) : ∀ m A env s, At B d e H m A env s -> Does B A [] (allTrue op (x :: xs) env) m s (BoolP B r) := by
 intro m A env s z;rw [arm_allTrue_cons];refine (h1 m A env s z).bind fun m1 u s1 st1 p1 => ?_;have z1 := h2 m1 A env s1 (z.step st1 p1.1);obtain ⟨b, H1⟩ := a;obtain ⟨R1, rfl⟩ := p1;cases op <;> cases u <;> first | exact z1 | cases hb
def ChainJ (B : Bs) (d : Nat) (e : En) (H : Hp) (a : V) (ops : List CmpOp) (xs : List Expr) (r : Bool × Hp) : Prop := ∀ m A env s x pos, At B d e H m A env s -> VR m a x ->
  Does B A [] (compareChain pos x ops (markedEach ops xs (evalEach xs env))) m s (IsP B r.1 r.2) /\ Does B A [] (testChain pos x ops (markedEach ops xs (evalEach xs env))) m s (BoolP B r)
theorem chainJ_one {op : CmpOp} {y : Expr} {a : V} {b : V × Hp} {c : Bool} (h1 : EvJ B d e H y b) (h2 : CmpJ B b.2 op a b.1 c) (hy : (!behindInMarks op y) = true) : ChainJ B d e H a [op] [y] (c, b.2) := by
 intro m A env s x pos z va;have EV := h1 m A env s z;have mk : markedEach [op] [y] (evalEach [y] env) = [eval y env] := by
  show [markedBehindIn op y (eval y env)] = _;rw [markedBehindIn_of_false (by simpa using hy)]
 rw [mk];constructor
 ·show Does B A [] (do let rv <- PySem.holding [x] (eval y env); PySem.standAt pos; PySem.operate [x, rv] (compareOp op x rv)) m s _
  exact EV.holding.bind fun m1 u s1 st1 p1 => Does.standAt (Does.operate (h2 m1 A s1 x u p1.1 z.rm.zero (va.mono st1.le) p1.2))
 ·show Does B A [] (do let rv <- PySem.holding [x] (eval y env); PySem.standAt pos; let c <- PySem.operate [x, rv] (compareOp op x rv); PySem.holding [c] (truthy c)) m s _
  refine EV.holding.bind fun m1 u s1 st1 p1 => Does.standAt ((Does.operate (h2 m1 A s1 x u p1.1 z.rm.zero (va.mono st1.le) p1.2)).bind fun m2 w s2 st2 p2 => ?_);rw [p2.2];exact fun Q E q => wpAny_holding (wpAny_truthy_bool (q m2 _ s2 (Step.refl ..) ⟨p2.1, rfl⟩))
theorem chainJ_more {op op' : CmpOp} {ops : List CmpOp} {y y' : Expr} {ys : List Expr} {a : V} {b : V × Hp} {c : Bool} {r : Bool × Hp} (h1 : EvJ B d e H y b) (h2 : CmpJ B b.2 op a b.1 c) (h3 : if c = true then ChainJ B d e b.2 b.1 (op' :: ops) (y' :: ys) r else r = (false, b.2)) :
  ChainJ B d e H a (op :: op' :: ops) (y :: y' :: ys) r := by
 intro m A env s x pos z va;have EV := h1 m A env s z;rw [show markedEach (op :: op' :: ops) (y :: y' :: ys) (evalEach (y :: y' :: ys) env) = eval y env :: markedEach (op' :: ops) (y' :: ys) (evalEach (y' :: ys) env) from rfl]
 generalize hr : markedEach (op' :: ops) (y' :: ys) (evalEach (y' :: ys) env) = rs;obtain ⟨z1, zs, ez⟩ : ∃ z zs, rs = z :: zs := by
  cases ops with
  | nil => cases ys <;> exact ⟨_, _, hr.symm⟩
  | cons _ _ => cases ys <;> exact ⟨_, _, hr.symm⟩
 have rest : ∀ {β : Type} (F : Value -> Value -> Bool -> Sem β) (P : Mp -> β -> Shared -> Prop), (∀ m2 u s2, At B d e b.2 m2 A env s2 -> VR m2 b.1 u -> Does B A [] (F u (.bool c) c) m2 s2 P) ->
   Does B A [] (PySem.holding [x] (eval y env) >>= fun u => PySem.standAt pos >>= fun _ => PySem.holding [x, u] (compareOp op x u) >>= fun w => PySem.release [x, u] [w] >>= fun _ => PySem.holding [w, u] (truthy w) >>= F u w) m s P := by
  intro β F P k;refine EV.holding.bind fun m1 u s1 st1 p1 => Does.standAt ((h2 m1 A s1 x u p1.1 z.rm.zero (va.mono st1.le) p1.2).holding.bind fun m2 w s2 st2 p2 => Does.release ?_);rw [p2.2];exact fun Q E q => wpAny_bind (wpAny_holding (wpAny_truthy_bool (k m2 u s2 ((z.step st1 p1.1).step st2 p2.1) (p1.2.mono st2.le) Q E q)))
 constructor
 ·rw [show compareChain pos x (op :: op' :: ops) (eval y env :: rs) = (PySem.holding [x] (eval y env) >>= fun u => PySem.standAt pos >>= fun _ => PySem.holding [x, u] (compareOp op x u) >>= fun w => PySem.release [x, u] [w] >>= fun _ => PySem.holding [w, u] (truthy w) >>= fun t => if t then compareChain pos u (op' :: ops) rs else Pure.pure w) from by rw [ez]; rfl]
  refine rest (fun u w t => if t then compareChain pos u (op' :: ops) rs else Pure.pure w) _ fun m2 u s2 z2 v2 => ?_
  cases c with
  | true => rw [<- hr]; exact (h3 m2 A env s2 u pos z2 v2).1
  | false => rw [if_neg nofun] at h3; rw [h3]; exact Does.pure ⟨z2.R, rfl⟩
 ·rw [show testChain pos x (op :: op' :: ops) (eval y env :: rs) = (PySem.holding [x] (eval y env) >>= fun u => PySem.standAt pos >>= fun _ => PySem.holding [x, u] (compareOp op x u) >>= fun w => PySem.release [x, u] [w] >>= fun _ => PySem.holding [w, u] (truthy w) >>= fun t => if t then testChain pos u (op' :: ops) rs else Pure.pure false) from by rw [ez]; rfl]
  refine rest (fun u w t => if t then testChain pos u (op' :: ops) rs else Pure.pure false) _ fun m2 u s2 z2 v2 => ?_
  cases c with
  | true => rw [<- hr]; exact (h3 m2 A env s2 u pos z2 v2).2
  | false => rw [if_neg nofun] at h3; rw [h3]; exact Does.pure ⟨z2.R, rfl⟩
include O
theorem evsO_ok : ∀ {xs : List Expr} {H : Hp}, noStars xs = true -> Says (evsO I d e H xs) (EvsJ B d e H xs)
 | [], _, _ => Says.ret evsJ_nil
 | _ :: _, H, hs => (O.ev d e H _).bind fun a h1 => (evsO_ok (noStars_cons hs).2).bind fun _ h2 => Says.ret (evsJ_cons (noStars_cons hs).1 h1 h2)
theorem exsO_ok : ∀ {xs : List Stmt} {e : En} {H : Hp}, Says (exsO I d e H xs) (ExsJ B d e H xs)
 | [], _, _ => Says.ret exsJ_nil
 | x :: xs, e, H => (O.ex d e H x).bind fun p h1 => by
  obtain ⟨f, e1, H1⟩ := p;cases f
  case next => exact exsO_ok.mono fun r h2 => exsJ_next h1 h2
  all_goals exact Says.ret (exsJ_stop h1 nofun)
theorem boolVO_ok {op : BoolOp} : ∀ {xs : List Expr} {H : Hp}, Says (boolVO I d e op H xs) (fun r => ∀ m A env s pos, At B d e H m A env s -> Does B A [] (boolOp pos op (evalEach xs env)) m s (ValP B r))
 | [], _ => Says.no
 | [x], H => (O.ev d e H x).mono fun r h m A env s pos z => h m A env s z
 | x :: y :: xs, H => (O.ev d e H x).bind fun a h1 => Says.onBool fun b hb => by
  cases q : b == stopB op with
  | true => exact Says.ret (boolJ_stop h1 hb q)
  | false => exact boolVO_ok.mono fun r h2 => boolJ_more h1 hb q h2
theorem boolTO_ok {op : BoolOp} : ∀ {xs : List Expr} {H : Hp}, Says (boolTO I d e op H xs) (fun r => ∀ m A env s, At B d e H m A env s -> Does B A [] (allTrue op xs env) m s (BoolP B r))
 | [], H => Says.ret fun m A env s z => by cases op <;> exact Does.pure ⟨z.R, rfl⟩
 | x :: xs, H => (O.ts d e H x).bind fun a h1 => by
  cases q : a.1 == stopB op with
  | true => exact Says.ret (boolTJ_stop h1 q)
  | false => exact boolTO_ok.mono fun r h2 => boolTJ_more h1 q h2
include K
theorem chainO_ok : ∀ {ops : List CmpOp} {xs : List Expr} {H : Hp} {a : V}, Says (chainO I d e H a ops xs) (ChainJ B d e H a ops xs)
 | [], _, _, _ => Says.no
 | _ :: _, [], _, _ => Says.no
 | op :: [], x :: [], H, a => (O.ev d e H x).bind fun b h1 => (cmpO_ok K).bind fun c h2 => Says.guard fun hy => Says.ret (chainJ_one h1 h2 hy)
 | op :: [], x :: _ :: _, H, a => (O.ev d e H x).bind fun b h1 => (cmpO_ok K).bind fun c h2 => Says.no
 | op :: _ :: _, x :: [], H, a => (O.ev d e H x).bind fun b h1 => (cmpO_ok K).bind fun c h2 => Says.no
 | op :: op' :: ops, x :: x' :: xs, H, a => (O.ev d e H x).bind fun b h1 => (cmpO_ok K).bind fun c h2 => by
  cases c with
  | true => exact chainO_ok.mono fun r h3 => chainJ_more h1 h2 (by rw [if_pos rfl]; exact h3)
  | false => exact Says.ret (chainJ_more h1 h2 (by rw [if_neg nofun]))
omit K in
theorem optO_ok {x : Option Expr} : Says (optO I d e H x) (fun r => ∀ m A env s, At B d e H m A env s -> Does B A [] (evalPart x env) m s (ValP B r)) := by
 cases x with
 | none => exact Says.ret fun m A env s z => Does.pure ⟨z.R, rfl⟩
 | some x => exact O.ev d e H x
end
end
section
open PySem.SeqAt PySem.Builtin.Str
noncomputable def constO (c : Const) (H : Hp) : OM (V × Hp) := match c with
 | .none => ret (.none, H)
 | .bool b => ret (.bool b, H)
 | .int i => ret (.int i, H)
 | .str s => ret (.str s, H)
 | _ => OM.no
noncomputable def unaryO (op : UnaryOp) (a : V) (H : Hp) : OM (V × Hp) := match op with
 | .Not => onBool a fun b => ret (.bool (!b), H)
 | .USub => onInt a fun i => ret (.int (-i), H)
 | _ => OM.no
section
variable {B : Bs} {d : Nat} {e : En} {H : Hp}
theorem evJ_const {c : Const} {k : Nat} {pos : Pos} : Says (constO c H) (EvJ B d e H (.Constant c k pos)) := by
 cases c with
 | none => exact Says.ret fun m A env s z => Does.eq (Does.pure ⟨z.R, rfl⟩) (arm_eval_Constant ..)
 | bool b => exact Says.ret fun m A env s z => Does.eq (Does.pure ⟨z.R, rfl⟩) (arm_eval_Constant ..)
 | int i => exact Says.ret fun m A env s z => Does.eq (val_same z.R ⟨_, rfl⟩ fun Q E q => wpAny_mkInt q) (arm_eval_Constant ..)
 | str i => exact Says.ret fun m A env s z => Does.eq (val_same z.R ⟨_, rfl⟩ fun Q E q => wpAny_mkText q) (arm_eval_Constant ..)
 | _ => exact Says.no
theorem evJ_bin {op : Operator} {l r : Expr} {pos : Pos} {a b c : V × Hp} (h1 : EvJ B d e H l a) (h2 : EvJ B d e a.2 r b) (h3 : Op2J B b.2 (binaryOp op) a.1 b.1 c) : EvJ B d e H (.BinOp l op r pos) c := fun m A env s z =>
 Does.eq ((h1 m A env s z).bind fun m1 u s1 st1 p1 => (h2 m1 A env s1 (z.step st1 p1.1)).holding.bind fun m2 w s2 st2 p2 => Does.standAt (Does.operate (h3 m2 A s2 u w p2.1 z.rm.zero (p1.2.mono st2.le) p2.2))) (arm_eval_BinOp ..)
theorem evJ_unary {op : UnaryOp} {x : Expr} {pos : Pos} {a : V × Hp} (h1 : EvJ B d e H x a) : Says (unaryO op a.1 a.2) (EvJ B d e H (.UnaryOp op x pos)) := by
 have key : ∀ {r : V × Hp}, (∀ m1 A u s1, Rel B m1 a.2 s1.heap -> VR m1 a.1 u -> Does B A [] (unaryOp op u) m1 s1 (ValP B r)) -> EvJ B d e H (.UnaryOp op x pos) r := fun {r} k m A env s z =>
  Does.eq ((h1 m A env s z).bind fun m1 u s1 st1 p1 => Does.standAt (Does.holding (k m1 A u s1 p1.1 p1.2))) (arm_eval_UnaryOp ..)
 obtain ⟨a, H1⟩ := a;cases op with
 | Not =>
  refine Says.onBool fun b e => Says.ret (key fun m1 A u s1 R v => ?_);rw [show u = .bool b by rw [show a = .bool b from e] at v; exact v]
  exact val_same (k := s1.toks) R rfl fun Q E q => wpAny_holding (wpAny_bind (wpAny_truthy_bool (wpAny_pure q)))
 | USub =>
  refine Says.onInt fun i e => Says.ret (key fun m1 A u s1 R v => ?_);rw [show a = .int i from e] at v
  obtain ⟨t, rfl⟩ := v;exact val_same R ⟨_, rfl⟩ fun Q E q => P.neg_int q
 | _ => exact Says.no
theorem evJ_ifexp {t b o : Expr} {pos : Pos} {c : Bool × Hp} {r : V × Hp} (h1 : TsJ B d e H t c) (h2 : EvJ B d e c.2 (if c.1 = true then b else o) r) : EvJ B d e H (.IfExp t b o pos) r := fun m A env s z =>
 Does.eq ((h1 m A env s z).bind fun m1 u s1 st1 p1 => by
  obtain ⟨c, H1⟩ := c;obtain ⟨R1, rfl⟩ := p1;cases u
  ·exact h2 m1 A env s1 (z.step st1 R1)
  ·exact h2 m1 A env s1 (z.step st1 R1)) (arm_eval_IfExp ..)
theorem evJ_list {xs : List Expr} {pos : Pos} {a : List V × Hp} (h1 : EvsJ B d e H xs a) (hl : a.1.length <= limN) : EvJ B d e H (.List xs pos) (.ref a.2.reg a.2.nxt, a.2.push (.list a.1)) := fun m A env s z =>
 Does.eq (Does.standAt ((h1 m A env s pos z).bind fun m1 us s1 st1 p1 => val_list (us := us.toArray) (k := s1.toks) p1.1 hl p1.2 fun hz Q E q => wpAny_newObj_type q hz)) (arm_eval_List ..)
theorem evJ_tuple {xs : List Expr} {n : Nat} {pos : Pos} {a : List V × Hp} (h1 : EvsJ B d e H xs a) (hl : a.1.length <= limN) : EvJ B d e H (.Tuple xs n pos) (.ref a.2.reg a.2.nxt, a.2.push (.tup a.1)) := fun m A env s z =>
 Does.eq (Does.standAt ((h1 m A env s pos z).bind fun m1 us s1 st1 p1 => val_tup (us := us.toArray) (k := s1.toks) p1.1 hl p1.2 fun hz Q E q => wpAny_newObj_type q hz)) (arm_eval_Tuple ..)
theorem evJ_cmp {l : Expr} {ops : List CmpOp} {xs : List Expr} {pos : Pos} {a : V × Hp} {b : Bool × Hp} (h1 : EvJ B d e H l a) (h2 : ChainJ B d e a.2 a.1 ops xs b) : EvJ B d e H (.Compare l ops xs pos) (.bool b.1, b.2) := fun m A env s z =>
 Does.eq ((h1 m A env s z).bind fun m1 u s1 st1 p1 => (h2 m1 A env s1 u pos (z.step st1 p1.1) p1.2).1) (arm_eval_Compare ..)
theorem evJ_attr {o : Expr} {n : Str} {pos : Pos} {a : V × Hp} {v : V} (hn : noSuper o = true) (h1 : EvJ B d e H o a) (h2 : AttrJ B a.2 a.1 n v) : EvJ B d e H (.Attribute o n pos) (v, a.2) := fun m A env s z => by
 rw [arm_eval_Attribute];refine (base_ok hn (h1 m A env s z)).bind fun m1 u s1 st1 p1 => Does.standAt ?_;exact (h2 m1 A s1 u _ p1.1 p1.2).holding.bind fun m2 w s2 st2 p2 => Does.letGo (Does.pure p2)
theorem evJ_slice {o : Expr} {lo hi st : Option Expr} {p pos : Pos} {a l u t r : V × Hp} (h1 : EvJ B d e H o a) (h2 : ∀ m A env s, At B d e a.2 m A env s -> Does B A [] (evalPart lo env) m s (ValP B l)) (h3 : ∀ m A env s, At B d e l.2 m A env s -> Does B A [] (evalPart hi env) m s (ValP B u))
  (h4 : ∀ m A env s, At B d e u.2 m A env s -> Does B A [] (evalPart st env) m s (ValP B t)) (h5 : SliceJ B t.2 a.1 l.1 u.1 t.1 r) : EvJ B d e H (.Subscript o (.Slice lo hi st p) pos) r := fun m A env s z => by
 rw [arm_eval_Subscript];refine (h1 m A env s z).bind fun m1 x s1 st1 p1 => ?_;have z1 := z.step st1 p1.1;rw [arm_eval_Slice];have sl : Does B A [] (evalPart lo env >>= fun l => PySem.holding [l] (evalPart hi env) >>= fun u => PySem.holding [l, u] (evalPart st env) >>= fun t => newFields "slice" [l, u, t]) m1 s1
   (fun m' i s' => Rel B m' t.2 s'.heap /\ ∃ lv uv tv sl, i = .ref sl /\ VR m' l.1 lv /\ VR m' u.1 uv /\ VR m' t.1 tv /\ s'.heap.IsSliceOf sl lv uv tv) := by
  refine (h2 m1 A env s1 z1).bind fun m2 lv s2 st2 p2 => ?_;have z2 := z1.step st2 p2.1;refine (h3 m2 A env s2 z2).holding.bind fun m3 uv s3 st3 p3 => ?_;refine (h4 m3 A env s3 (z2.step st3 p3.1)).holding.bind fun m4 tv s4 st4 p4 => ?_;have pr := p4.1.priv (X := []) (h' := s4.heap.push { cls := .type "slice", data := .fields #[lv, uv, tv] }) (fun _ z => nomatch z) (fun b o _ z => Heap.get?_push_of_some _ z) (objs_le ..)
  exact Does.wp (s' := { s4 with heap := s4.heap.push { cls := .type "slice", data := .fields #[lv, uv, tv] } }) (fun Q E q => wpAny_newObj_type q) pr.2
   ⟨pr.1, lv, uv, tv, _, rfl, (p2.2.mono st3.le).mono st4.le, p3.2.mono st4.le, p4.2, Heap.IsSliceOf.new _ _ _ _⟩
 refine (Does.holding (Does.eq sl (by rfl))).bind fun m2 i s2 st2 p2 => Does.standAt ?_
 obtain ⟨R2, lv, uv, tv, sn, rfl, v1, v2, v3, v4⟩ := p2;have q := h5 m2 A s2 _ _ _ _ _ R2 (p1.2.mono st2.le) v1 v2 v3 v4;exact sub_tail q.1 q.2
theorem evJ_sub {o sl : Expr} {pos : Pos} {a k : V × Hp} {v : V} (h1 : EvJ B d e H o a) (h2 : EvJ B d e a.2 sl k) (h3 : ItemJ B k.2 a.1 k.1 v) : EvJ B d e H (.Subscript o sl pos) (v, k.2) := fun m A env s z => by
 rw [arm_eval_Subscript];refine (h1 m A env s z).bind fun m1 x s1 st1 p1 => (h2 m1 A env s1 (z.step st1 p1.1)).holding.bind fun m2 y s2 st2 p2 => Does.standAt ?_;have q := h3 m2 A s2 x y p2.1 (p1.2.mono st2.le) p2.2;exact sub_tail q.1 q.2
theorem tsJ_val {x : Expr} {a : V × Hp} {b : Bool} (hx : ∀ env, isTrue x env (eval x env) = (do let v <- eval x env; standAt x.pos; holding [v] (truthy v))) (h1 : EvJ B d e H x a) (hb : a.1 = .bool b) : TsJ B d e H x (b, a.2) := fun m A env s z => by
 rw [hx];refine (h1 m A env s z).bind fun m1 u s1 st1 p1 => Does.standAt (Does.holding ?_);rw [show u = .bool b by have := p1.2; rw [hb] at this; exact this]
 exact fun Q E q => wpAny_truthy_bool (q m1 b s1 (Step.refl ..) ⟨p1.1, rfl⟩)
theorem tsJ_not {x : Expr} {pos : Pos} {b : Bool × Hp} (h1 : TsJ B d e H x b) : TsJ B d e H (.UnaryOp .Not x pos) (!b.1, b.2) := fun m A env s z => by
 rw [arm_isTrue_UnaryOp];refine (h1 m A env s z).bind fun m1 u s1 st1 p1 => ?_;rw [<- p1.2];exact Does.pure ⟨p1.1, rfl⟩
theorem tsJ_cmp {l : Expr} {ops : List CmpOp} {xs : List Expr} {pos : Pos} {a : V × Hp} {b : Bool × Hp} (h1 : EvJ B d e H l a) (h2 : ChainJ B d e a.2 a.1 ops xs b) : TsJ B d e H (.Compare l ops xs pos) b := fun m A env s z => by
 rw [arm_isTrue_Compare];exact (h1 m A env s z).bind fun m1 u s1 st1 p1 => (h2 m1 A env s1 u pos (z.step st1 p1.1) p1.2).2
end
noncomputable def tsO (I : OI) (d : Nat) (e : En) (H : Hp) (x : Expr) : OM (Bool × Hp) := match x with
 | .UnaryOp op y p => match op with
  | .Not => (I.ts d e H y).bind fun b => ret (!b.1, b.2)
  | _ => OM.no
 | .BoolOp op xs _ => boolTO I d e op H xs
 | .Compare l ops cs _ => (I.ev d e H l).bind fun a => chainO I d e a.2 a.1 ops cs
 | .Name y p => (I.ev d e H (.Name y p)).bind fun a => onBool a.1 fun b => ret (b, a.2)
 | .Attribute o y p => (I.ev d e H (.Attribute o y p)).bind fun a => onBool a.1 fun b => ret (b, a.2)
 | .Call f as ks p => (I.ev d e H (.Call f as ks p)).bind fun a => onBool a.1 fun b => ret (b, a.2)
 | .Constant c k p => (I.ev d e H (.Constant c k p)).bind fun a => onBool a.1 fun b => ret (b, a.2)
 | _ => OM.no
theorem tsO_ok {B : Bs} (K : BOk B) {I : OI} (O : IOk B I) {d : Nat} {e : En} {H : Hp} {x : Expr} : Says (tsO I d e H x) (TsJ B d e H x) := by
 cases x with
 | UnaryOp op y p => cases op with
  | Not => exact (O.ts d e H y).bind fun b h => Says.ret (tsJ_not h)
  | _ => exact Says.no
 | BoolOp op xs p => exact (boolTO_ok O).mono fun r h m A env s z => Does.eq (h m A env s z) (arm_isTrue_BoolOp ..)
 | Compare l ops cs p => exact (O.ev d e H l).bind fun a h1 => (chainO_ok K O).mono fun r h2 => tsJ_cmp h1 h2
 | Name y p => exact (O.ev d e H _).bind fun a h1 => Says.onBool fun b hb => Says.ret (tsJ_val (fun _ => rfl) h1 hb)
 | Attribute o y p => exact (O.ev d e H _).bind fun a h1 => Says.onBool fun b hb => Says.ret (tsJ_val (fun _ => rfl) h1 hb)
 | Call f as ks p => exact (O.ev d e H _).bind fun a h1 => Says.onBool fun b hb => Says.ret (tsJ_val (fun _ => rfl) h1 hb)
 | Constant c k p => exact (O.ev d e H _).bind fun a h1 => Says.onBool fun b hb => Says.ret (tsJ_val (fun _ => rfl) h1 hb)
 | _ => exact Says.no
end
section
open PySem.SeqAt PySem.Builtin.Str
theorem runs_size {M : Model} {Γ : Ctx} {p : Pos} {t : Sem Fin} {fs : List Frame} {s s' : Shared} {e : End} (h : Runs M Γ p t fs s e s') : s.heap.objs.size <= s'.heap.objs.size := by
 induction h <;> (try simp only [Shared.setGen, Heap.size_push, Heap.size_after_update] at *) <;> first | exact Nat.le_refl _ | assumption | omega
theorem returns_size {M : Model} {Γ : Ctx} {p : Pos} {s s' : Shared} {r : Result} (h : Returns M Γ p s r s') : s.heap.objs.size <= s'.heap.objs.size := runs_size h
theorem wakes_size {M : Model} {Γ : Ctx} {p : Pos} {g : Nat} {r : Resume} {s s' : Shared} {res : GenResult} (h : Wakes M Γ p g r s res s') : s.heap.objs.size <= s'.heap.objs.size := by
 unfold Wakes at h;split at h
 ·exact h.elim
 ·split at h
  ·obtain ⟨e₁, s₁, hr, _, _, rfl⟩ := h; exact (runs_size hr : (s.setGen g .running).heap.objs.size <= s₁.heap.objs.size)
  ·rw [h.2]; exact Nat.le_refl _
  ·rw [h.2]; exact Nat.le_refl _
 ·obtain ⟨e₁, s₁, hr, _, _, rfl⟩ := h; exact (runs_size hr : (s.setGen g .running).heap.objs.size <= s₁.heap.objs.size)
 ·rw [h.2]; exact Nat.le_refl _
 ·rw [h.2]; exact Nat.le_refl _
theorem wp_size {α : Type} (M : Model) (Γ : Ctx) (n : Nat) (t : Sem α) : ∀ (Q : α -> Pos -> Shared -> Prop) (E : Value -> Pos -> Shared -> Prop) (p : Pos) (s : Shared), n <= s.heap.objs.size -> Sem.wp M Γ t Q E p s ->
  Sem.wp M Γ t (fun a p' s' => n <= s'.heap.objs.size /\ Q a p' s') (fun e p' s' => n <= s'.heap.objs.size /\ E e p' s') p s := by
 induction t with
 | pure a => intro Q E p s hn h; exact ⟨hn, h⟩
 | raise e => intro Q E p s hn h; exact ⟨hn, h⟩
 | unsupported _ => intro Q E p s _ h; exact h
 | finish _ => intro Q E p s _ h; exact h
 | rule _ k ih => intro Q E p s hn h; exact ih () Q E p s hn h
 | «at» p' k ih => intro Q E p s hn h; exact ih () Q E p' s hn h
 | load a _ k ih => intro Q E p s hn h; obtain ⟨o, ho, h⟩ := h; exact ⟨o, ho, ih o Q E p s hn h⟩
 | update a _ f k ih => intro Q E p s hn h; exact ⟨h.1, ih () Q E p _ (by simp only [Heap.size_after_update]; exact hn) h.2⟩
 | loadIfAlive a k ih => intro Q E p s hn h; exact ih _ Q E p s hn h
 | point _ k ih => intro Q E p s hn h; exact ih () Q E p s hn h
 | register _ _ => intro Q E p s _ h; exact h
 | alloc o k ih => intro Q E p s hn h; exact ih _ Q E p _ (by simp only [Heap.size_push]; omega) h
 | fresh k ih => intro Q E p s hn h; exact ih _ Q E p _ hn h
 | ask k ih => intro Q E p s hn h; exact ih _ Q E p s hn h
 | choose src m k ih => intro Q E p s hn h; exact ⟨h.1, ih _ Q E p _ hn h.2⟩
 | os q _ k ih => intro Q E p s hn h; exact ih _ Q E p _ hn h
 | call c hd _ _ k ih => intro Q E p s hn h; obtain ⟨r, s', hr, h⟩ := h; exact ⟨r, s', hr, ih r Q E p s' (le_trans hn (returns_size hr)) h⟩
 | handled own k ih => intro Q E p s hn h; exact ih _ Q E p s hn h
 | genState g k ih => intro Q E p s hn h; obtain ⟨st, hs, h⟩ := h; exact ⟨st, hs, ih _ Q E p s hn h⟩
 | newGen c k ih => intro Q E p s hn h; exact ih _ Q E p _ hn h
 | resume g r _ k ih => intro Q E p s hn h; obtain ⟨res, s', hw, h⟩ := h; exact ⟨res, s', hw, ih res Q E p s' (le_trans hn (wakes_size hw)) h⟩
 | yield _ _ _ _ => intro Q E p s _ h; exact h
 | stack k ih => intro Q E p s hn h; exact ih _ Q E p s hn h
 | fork _ _ => intro Q E p s _ h; exact h
 | thread k ih => intro Q E p s hn h; exact ih _ Q E p s hn h
 | await _ _ _ _ _ => intro Q E p s _ h; exact h
theorem wpAny_size {α : Type} {M : Model} {A : Around} {s : Shared} {t : Sem α} {Q : α -> Shared -> Prop} {E : Value -> Shared -> Prop}
  (h : wpAny M A t (fun a s' => s.heap.objs.size <= s'.heap.objs.size -> Q a s') (fun e s' => E e s') s) : wpAny M A t Q E s :=
 wpAny_mono (Q := fun a s' => s.heap.objs.size <= s'.heap.objs.size /\ (s.heap.objs.size <= s'.heap.objs.size -> Q a s')) (E := fun e s' => s.heap.objs.size <= s'.heap.objs.size /\ E e s')
  (fun Γ p hΓ => wp_size M Γ _ t _ _ p s (Nat.le_refl _) (h Γ p hΓ)) (fun _ _ x => x.2 x.1) (fun _ _ x => x.2)
theorem Does.bind0 {B : Bs} {A : Around} {X : List Nat} {α β : Type} {m : Mp} {s : Shared} {P : Mp -> α -> Shared -> Prop} {P' : Mp -> β -> Shared -> Prop} {t : Sem α} {f : α -> Sem β} (h : Does B A [] t m s P)
  (k : ∀ m' a s', Step B [] m s.heap m' s'.heap -> P m' a s' -> Does B A X (f a) m' s' P') : Does B A X (t >>= f) m s P' :=
 fun Q E q => wpAny_bind (h _ E fun m' a s' st p => k m' a s' st p Q E fun m'' b s'' st' p' => q m'' b s'' (st.nil.trans st') p')
noncomputable def itemsO (H : Hp) (v : V) : OM (List V) := onRef v fun r i => (getO H r i).bind fun o => onT o ret
def ItemsJ (B : Bs) (d : Nat) (H : Hp) (v : V) (xs : List V) : Prop := ∀ m A s u, Rel B m H s.heap -> Room d A -> VR m v u -> Does B A [] (unpackItems u xs.length none) m s (fun m' us s' => Rel B m' H s'.heap /\ VRs m' xs us)
theorem itemsO_ok {B : Bs} {d : Nat} {H : Hp} {v : V} : Says (itemsO H v) (ItemsJ B d H v) := by
 refine Says.onRef fun r i e => Says.get fun o g => Says.onT fun xs e' => Says.ret ?_;subst e;intro m A s u R rm hv Q E q _;obtain ⟨p, us, k, e1, rfl, l1, v1⟩ := R.tup hv (g.trans e');rw [<- v1.size];refine wpAny_size (wpAny_unpackItems_tuple rm.handled (isT_of l1) fun h' hx hs => ?_);have pr := R.priv (X := []) (h' := h') (fun _ z => nomatch z) (fun b o _ z => hx b o (Nat.ne_of_lt (ltZ z)) z) hs
 exact q m _ _ pr.2 ⟨pr.1, v1⟩
noncomputable def onName {α : Type} (t : Expr) (f : Str -> OM α) : OM α := match t with
 | .Name x _ => f x
 | _ => OM.no
theorem Says.onName {α : Type} {t : Expr} {f : Str -> OM α} {F : α -> Prop} (h : ∀ x p, t = .Name x p -> Says (f x) F) : Says (onName t f) F := by
 cases t with
 | Name x p => exact h x p rfl
 | _ => exact Says.no
noncomputable def namesO : List Expr -> List V -> En -> Hp -> OM (En × Hp)
 | [], [], e, H => ret (e, H)
 | [], _ :: _, _, _ => OM.no
 | _ :: _, [], _, _ => OM.no
 | t :: ts, v :: vs, e, H => onName t fun x => (storeO e H x v).bind fun p => namesO ts vs p.1 p.2
def NamesJ (B : Bs) (ts : List Expr) (vs : List V) (e : En) (H : Hp) (r : En × Hp) : Prop := (∀ env, (assignEach ts env).length = vs.length /\ (assignEach ts env).findIdx? (·.1) = none) /\
 ∀ m A env s us, Rel B m H s.heap -> EnvOk B m e env s.heap -> VRs m vs us -> Does B A [env.locals] (assignInOrder ((assignEach ts env).map (·.2)) us) m s (EnvP B env r)
section
variable {B : Bs} {e : En} {H : Hp} {d : Nat}
theorem assign_name {x : Str} {p : Pos} {v : V} {r : En × Hp} (h : StoreJ B e H x v r) {m : Mp} {A : Around} {env : Env} {s : Shared} {u : Value} (R : Rel B m H s.heap) (N : EnvOk B m e env s.heap) (hv : VR m v u) : Does B A [env.locals] (assign (.Name x p) env u) m s (EnvP B env r) := by
 intro Q E q _;rw [arm_assign_Name];exact wpAny_bind (wpAny_standAt (wpAny_bindName (h m A env s u R N hv Q E q)))
theorem namesJ_cons {x : Str} {p : Pos} {ts : List Expr} {v : V} {vs : List V} {a r : En × Hp} (h1 : StoreJ B e H x v a) (h2 : NamesJ B ts vs a.1 a.2 r) : NamesJ B (.Name x p :: ts) (v :: vs) e H r := by
 have eq : ∀ env, assignEach (.Name x p :: ts) env = (false, assign (.Name x p) env) :: assignEach ts env := fun _ => rfl;refine ⟨fun env => ?_, fun m A env s us R N hv => ?_⟩
 ·rw [eq, List.length_cons, List.length_cons, List.findIdx?_cons, (h2.1 env).1, (h2.1 env).2];exact ⟨rfl, rfl⟩
 ·cases us with
  | nil => exact hv.elim
  | cons u us =>
   rw [eq];show Does B A [env.locals] (PySem.holding us (assign (.Name x p) env u) >>= fun _ => assignInOrder ((assignEach ts env).map (·.2)) us) m s _
   exact (assign_name h1 R N hv.1).holding.bind fun m1 _ s1 st1 p1 => h2.2 m1 A env s1 us p1.1 p1.2 (hv.2.mono st1.le)
theorem namesO_ok : ∀ {ts : List Expr} {vs : List V} {e : En} {H : Hp}, Says (namesO ts vs e H) (NamesJ B ts vs e H)
 | [], [], e, H => Says.ret ⟨fun _ => ⟨rfl, rfl⟩, fun m A env s us R N hv => by
   cases us with
   | nil => exact Does.pure ⟨R, N⟩
   | cons _ _ => exact hv.elim⟩
 | [], _ :: _, _, _ => Says.no
 | _ :: _, [], _, _ => Says.no
 | t :: ts, v :: vs, e, H => Says.onName fun x p hx => storeO_ok.bind fun a h1 => namesO_ok.mono fun r h2 => by
   subst hx;exact namesJ_cons h1 h2
end
def AssJ (B : Bs) (d : Nat) (e : En) (H : Hp) (t : Expr) (v : V) (r : En × Hp) : Prop := ∀ m A env s u, At B d e H m A env s -> VR m v u -> Does B A [env.locals] (assign t env u) m s (EnvP B env r)
noncomputable def assO (I : OI) (d : Nat) (e : En) (H : Hp) (t : Expr) (v : V) : OM (En × Hp) := match t with
 | .Name x _ => storeO e H x v
 | .Attribute o m _ => (I.ev d e H o).bind fun a => (setAttrO a.2 a.1 m v).bind fun H => ret (e, H)
 | .Subscript o s _ => (I.ev d e H o).bind fun a => (I.ev d e a.2 s).bind fun k => (setItemO k.2 a.1 k.1 v).bind fun H => ret (e, H)
 | .Tuple ts _ _ => (itemsO H v).bind fun xs => namesO ts xs e H
 | _ => OM.no
section
variable {B : Bs} {e : En} {H : Hp} {d : Nat}
theorem assJ_attr {o : Expr} {n : Str} {p : Pos} {v : V} {a : V × Hp} {H' : Hp} (h1 : EvJ B d e H o a) (h2 : SetAJ B a.2 a.1 n v H') : AssJ B d e H (.Attribute o n p) v (e, H') := fun m A env s u z hv => by
 rw [arm_assign_Attribute];refine Does.wide ((h1 m A env s z).holding.bind fun m1 x s1 st1 p1 => Does.standAt ((h2 m1 A s1 x u p1.1 p1.2 (hv.mono st1.le)).holding.bind fun m2 _ s2 st2 p2 => ?_));exact fun Q E q => wpAny_release' (q m2 () s2 (Step.refl ..) ⟨p2, ((z.step st1 p1.1).step st2 p2).N⟩)
theorem assJ_sub {o sl : Expr} {p : Pos} {v : V} {a k : V × Hp} {H' : Hp} (h1 : EvJ B d e H o a) (h2 : EvJ B d e a.2 sl k) (h3 : SetIJ B k.2 a.1 k.1 v H') : AssJ B d e H (.Subscript o sl p) v (e, H') := fun m A env s u z hv => by
 rw [arm_assign_Subscript];refine Does.wide ((h1 m A env s z).holding.bind fun m1 x s1 st1 p1 => ?_);refine (h2 m1 A env s1 (z.step st1 p1.1)).holding.bind fun m2 y s2 st2 p2 => Does.standAt ?_;refine (h3 m2 A s2 x y u p2.1 (p1.2.mono st2.le) p2.2 ((hv.mono st1.le).mono st2.le)).holding.bind fun m3 _ s3 st3 p3 => ?_;exact fun Q E q => wpAny_release' (q m3 () s3 (Step.refl ..) ⟨p3, (((z.step st1 p1.1).step st2 p2.1).step st3 p3).N⟩)
theorem assJ_tup {ts : List Expr} {n : Nat} {p : Pos} {v : V} {xs : List V} {r : En × Hp} (h1 : ItemsJ B d H v xs) (h2 : NamesJ B ts xs e H r) : AssJ B d e H (.Tuple ts n p) v r := fun m A env s u z hv => by
 rw [arm_assign_Tuple];refine Does.standAt ?_;unfold unpack;rw [(h2.1 env).1, (h2.1 env).2];exact (h1 m A s u z.R z.rm hv).holding.bind0 fun m1 us s1 st1 p1 => h2.2 m1 A env s1 us p1.1 (z.step st1 p1.1).N p1.2
theorem assO_ok (K : BOk B) {I : OI} (O : IOk B I) {t : Expr} {v : V} : Says (assO I d e H t v) (AssJ B d e H t v) := by
 cases t with
 | Name x p => exact storeO_ok.mono fun r h m A env s u z hv => assign_name h z.R z.N hv
 | Attribute o n p => exact (O.ev d e H o).bind fun a h1 => (setAttrO_ok K).bind fun H' h2 => Says.ret (assJ_attr h1 h2)
 | Subscript o sl p => exact (O.ev d e H o).bind fun a h1 => (O.ev d e a.2 sl).bind fun k h2 => (setItemO_ok K).bind fun H' h3 => Says.ret (assJ_sub h1 h2 h3)
 | Tuple ts n p => exact itemsO_ok.bind fun xs h1 => namesO_ok.mono fun r h2 => assJ_tup h1 h2
 | _ => exact Says.no
end
theorem fm_congr {α β : Type} {f g : α -> Option β} (h : ∀ x, f x = g x) {l : List α} : l.filterMap f = l.filterMap g := by rw [show f = g from funext h]
noncomputable def swapped (ts vs : List Expr) (e : En) : Option (Option (List Str)) :=
 if !(ts.length == 2 || ts.length == 3) || vs.length != ts.length then some none
 else if vs.any (fun | .Starred .. => true | _ => false) then some none
 else
  let line := (ts.head?.map (·.pos.line)).getD 0
  let names := ts.filterMap fun
   | .Name id pos => if lk e.names id = some .local /\ pos.line = line then some id else none
   | _ => none
  if names.length != ts.length || names.eraseDups.length != names.length then some none
  else if vs.all (foldedForSure 8) then some none
  else if vs.all (constantsAlone 8) then none
  else some (some names)
section
variable {env : Env} {e : En}
theorem swapped_ok {ts vs : List Expr} {n n' : Nat} {p p' : Pos} {sw : Option (List Str)} (h : swapped ts vs e = some sw) (hk : env.scope.kind = .function) (hn : env.scope.names = e.names) : swappedStores [.Tuple ts n p] (.Tuple vs n' p') env = pure sw := by
 have hb : (env.blockKind != .function) = false := by unfold Env.blockKind; rw [hk]; rfl
 unfold swapped at h;unfold swappedStores;dsimp only at h ⊢;rw [hb, Bool.or_false];generalize hN : List.filterMap _ ts = N;generalize hM : List.filterMap _ ts = M at h;generalize hS : List.any vs _ = S;generalize hS' : List.any vs _ = S' at h;have eN : N = M := by
  rw [<- hN, <- hM];refine fm_congr fun x => ?_;cases x with
  | Name id pos =>
   have ek : env.kindOf id = lk e.names id := by unfold Env.kindOf; rw [hn]; rfl
   dsimp only;rw [ek];by_cases h1 : lk e.names id = some NameKind.local <;> by_cases h2 : pos.line = (Option.map (fun x => x.pos.line) ts.head?).getD 0 <;> simp [h1, h2]
  | _ => rfl
 have eS : S = S' := by
  rw [<- hS, <- hS']
  rfl
 subst eN eS;split at h
 ·rename_i c1; cases h; rw [if_pos c1]
 ·rename_i c1;rw [if_neg c1];split at h
  ·rename_i c2; cases h; rw [if_pos c2]
  ·rename_i c2;rw [if_neg c2];split at h
   ·rename_i c3; cases h; rw [if_pos c3]
   ·rename_i c3;rw [if_neg c3];split at h
    ·rename_i c4; cases h; rw [if_pos c4]
    ·rename_i c4;rw [if_neg c4];split at h
     ·cases h
     ·rename_i c5; cases h; rw [if_neg c5]
end
end
section
open PySem.SeqAt PySem.Builtin.Str
section
variable {B : Bs} {A : Around} {m : Mp} {s s' : Shared} {H H' : Hp} {d : Nat} {L : Nat}
theorem own_one {h' : Heap} {a : Nat} (R : Rel B m H s.heap) (o : Own B m s.heap a) (hx : Heap.ExtBut a s.heap h') (hs : s.heap.objs.size <= h'.objs.size) : Rel B m H h' /\ Step B [a] m s.heap m h' :=
 R.priv (fun b hb => by rw [List.mem_singleton] at hb; subst hb; exact ⟨o.np, o.low⟩) (fun b o' hb z => hx b o' (fun w => hb (by rw [w]; exact List.mem_singleton.mpr rfl)) z) hs
theorem IR.at {m' : Mp} {h h' : Heap} {a j : Nat} {it : It} (ir : IR B m h a j it) (le : MLe m m') (ka : ∀ o, h.get? a = some o -> h'.get? a = some o) (kj : ∀ o, h.get? j = some o -> h'.get? j = some o) : IR B m' h' a j it := by
 cases it with
 | lst r i n => obtain ⟨p, e, q, q1, q2⟩ := ir; exact ⟨p, le _ _ _ e, q, ka _ q1, q2⟩
 | tup r i n => obtain ⟨p, e, q, q1, q2⟩ := ir; exact ⟨p, le _ _ _ e, q, ka _ q1, q2⟩
 | keys r i n l => obtain ⟨p, e, q, q1, q2⟩ := ir; exact ⟨p, le _ _ _ e, q, ka _ q1, q2⟩
 | rng n l => exact ka _ ir
 | enm r i n => obtain ⟨p, old, e, q1, ⟨q, q2, q3⟩, hne⟩ := ir; exact ⟨p, old, le _ _ _ e, ka _ q1, ⟨q, kj _ q2, q3⟩, hne⟩
 | sgn l => obtain ⟨x, t, n, ⟨q, q1, q2⟩, e⟩ := ir; exact ⟨x, t, n, ⟨q, ka _ q1, q2⟩, e⟩
theorem ItOk.step {X : List Nat} {m' : Mp} {h h' : Heap} {a j : Nat} {it : It} (R : Rel B m H h) (x : ItOk B L m h a j it) (st : Step B X m h m' h') (ha : a ∉ X) (hj : j ∉ X) : ItOk B L m' h' a j it :=
 ⟨x.oa.step st, x.oj.step st, x.na, x.nj, x.ir.at st.le (fun o e => st.keep _ _ (R.notTab x.oa.low) ha x.oa.np e) (fun o e => st.keep _ _ (R.notTab x.oj.low) hj x.oj.np e)⟩
theorem go_skip {t : Expr} {a : Nat} {v : Value} {o : Obj} {T : String} {Q : Unit -> Shared -> Prop} {E : Value -> Shared -> Prop} (ho : s.heap.get? a = some o) (hc : o.cls = .type T)
  (hn : ["enumerate", "zip", "dict_itemiterator", "dict_reverseitemiterator", "odict_iterator", "itertools.zip_longest", "itertools.pairwise"].contains T = false) (q : Q () s) :
  wpAny (model B.prog B.w) A (letOwnedTupleGo t (.ref a) v) Q E s := by
 have key : wpAny (model B.prog B.w) A (do
  let (.ref r, .ref a) := ((Value.ref a, v) : Value × Value) | return
  let o <- load r
  match o.cls, o.data with
  | .type n, .fields vs =>
   if ["enumerate", "zip", "dict_itemiterator", "dict_reverseitemiterator", "odict_iterator", "itertools.zip_longest", "itertools.pairwise"].contains n && vs[0]? == some (rawInt a) then
    rule "for.unpacks-the-owned-tuple"
    updateField r 0 .none
  | _, _ => pure ()) Q E s := by
  cases v with
  | ref b =>
   refine wpAny_bind (wpAny_load ho ?_);rw [hc];split
   ·rename_i n vs e1 e2;cases e1;rw [if_neg (by rw [hn]; simp)]
    exact wpAny_pure q
   ·exact wpAny_pure q
  | _ => exact wpAny_pure q
 unfold letOwnedTupleGo;cases t with
 | Tuple _ _ _ => exact key
 | List _ _ => exact key
 | _ => exact wpAny_pure q
theorem IR.skip {a j : Nat} {it : It} (ir : IR B m s.heap a j it) (hn : ∀ r i k, it ≠ .enm r i k) : ∃ o T, s.heap.get? a = some o /\ o.cls = .type T /\
  ["enumerate", "zip", "dict_itemiterator", "dict_reverseitemiterator", "odict_iterator", "itertools.zip_longest", "itertools.pairwise"].contains T = false := by
 cases it with
 | lst r i n => obtain ⟨p, e, q, q1, q2, _⟩ := ir; exact ⟨q, _, q1, q2, by decide⟩
 | tup r i n => obtain ⟨p, e, q, q1, q2, _⟩ := ir; exact ⟨q, _, q1, q2, by decide⟩
 | keys r i n l => obtain ⟨p, e, q, q1, q2, _⟩ := ir; exact ⟨q, _, q1, q2, by decide⟩
 | rng n l => exact ⟨_, _, ir, rfl, by decide⟩
 | enm r i n => exact absurd rfl (hn _ _ _)
 | sgn l =>
  obtain ⟨x, t, n, ⟨q, q1, q2, _⟩, e⟩ := ir;refine ⟨q, _, q1, q2, ?_⟩;unfold strIterType;split <;> decide
theorem DRs_get {m : Mp} : ∀ {es : List (V × V)} {kvs : List (Key × Value)} {k : Nat} {x : V × V}, DRs m es kvs -> es[k]? = some x -> ∃ y, kvs[k]? = some y /\ keyV x.1 = some y.1 /\ VR m x.2 y.2
 | _ :: _, y :: _, 0, _, ⟨a, _⟩, e => by cases e; exact ⟨y, rfl, a.1, a.2⟩
 | _ :: _, _ :: _, k + 1, _, ⟨_, b⟩, e => DRs_get (k := k) b (by simpa using e)
 | [], [], _, _, _, e => by cases e
 | [], _ :: _, _, _, h, _ => h.elim
 | _ :: _, [], _, _, h, _ => h.elim
end
def NextJ (B : Bs) (H : Hp) (t : Expr) (it : It) (r : Option (V × It) × Hp) : Prop := ∀ m A s a j L, Rel B m H s.heap -> Room 0 A -> ItOk B L m s.heap a j it ->
 ∀ (Qn : Shared -> Prop) (Qs : Value -> Shared -> Prop) (E : Value -> Shared -> Prop),
  (r.1 = none -> ∀ m' s', Step B [a, j] m s.heap m' s'.heap -> Rel B m' r.2 s'.heap -> [Sam B s'] -> Qn s') ->
  (∀ v it, r.1 = some (v, it) -> ∀ m' u s', Step B [a, j] m s.heap m' s'.heap -> Rel B m' r.2 s'.heap -> VR m' v u -> ItOk B L m' s'.heap a j it -> [Sam B s'] -> Qs u s') -> [Sam B s] ->
  wpAny (model B.prog B.w) A (pyNext (.ref a)) (fun r s₁ => match r with
   | none => Qn s₁
   | some u => wpAny (model B.prog B.w) A (letOwnedTupleGo t (.ref a) u) (fun _ s₂ => Qs u s₂) E s₁) E s
theorem mem_pair {a j b : Nat} (h : b ∈ [a]) : b ∈ [a, j] := by rw [List.mem_singleton] at h; rw [h]; exact mem_cons_self
section
variable {B : Bs} {H : Hp} {t : Expr} {it it' : It} {v : V}
theorem nextJ_none (h : ∀ m A s a j, Rel B m H s.heap -> Room 0 A -> IR B m s.heap a j it -> ∀ (Q : Option Value -> Shared -> Prop) (E : Value -> Shared -> Prop), (∀ h', Heap.ExtBut a s.heap h' -> s.heap.objs.size <= h'.objs.size -> Q none { s with heap := h' }) -> wpAny (model B.prog B.w) A (pyNext (.ref a)) Q E s) :
  NextJ B H t it (none, H) := by
 intro m A s a j L R rm x Qn Qs E q1 _;refine h m A s a j R rm x.ir _ E fun h' hx hs => ?_;have pr := own_one R x.oa hx hs;exact q1 rfl m _ (pr.2.wide fun _ => mem_pair) pr.1
theorem nextJ_some (hn : ∀ r i k, it' ≠ .enm r i k) (h : ∀ m A s a j, Rel B m H s.heap -> IR B m s.heap a j it -> ∀ (Q : Option Value -> Shared -> Prop) (E : Value -> Shared -> Prop), (∀ u h' tk, VR m v u -> IR B m h' a j it' -> Heap.SameBut a s.heap h' -> Q (some u) { s with heap := h', toks := tk }) -> wpAny (model B.prog B.w) A (pyNext (.ref a)) Q E s) :
  NextJ B H t it (some (v, it'), H) := by
 intro m A s a j L R rm x Qn Qs E _ q2;refine h m A s a j R x.ir _ E fun u h' tk v1 ir hs => ?_;have pr := R.priv1 x.oa.np x.oa.low hs;obtain ⟨o, T, o1, o2, o3⟩ := IR.skip (s := { s with heap := h', toks := tk }) ir hn
 exact go_skip o1 o2 o3 (q2 v it' rfl m u _ (pr.2.wide fun _ => mem_pair) pr.1 v1 ⟨x.oa.step pr.2, x.oj.step pr.2, x.na, x.nj, ir⟩)
theorem none_at {xs : List V} {us : Array Value} {m : Mp} {k : Nat} (v : VRs m xs us.toList) (q : xs[k]? = none) : us[k]? = none := Array.getElem?_eq_none (by rw [v.size]; exact List.getElem?_eq_none_iff.mp q)
theorem some_at {xs : List V} {us : Array Value} {m : Mp} {k : Nat} {v : V} (h : VRs m xs us.toList) (q : xs[k]? = some v) : ∃ u, us[k]? = some u /\ VR m v u := by
 obtain ⟨u, u1, u2⟩ := h.get q;rw [Array.getElem?_toList] at u1;exact ⟨u, u1, u2⟩
theorem next_lst0 {r i k : Nat} {xs : List V} (g : H.get r i = some (.list xs)) (q : xs[k]? = none) : NextJ B H t (.lst r i k) (none, H) := nextJ_none fun m A s a j R rm ir Q E w => by
 obtain ⟨p, e1, it⟩ := ir;obtain ⟨p', us, n, e2, e3, l1, v1⟩ := R.list (u := .ref p.1) ⟨p, e1, rfl⟩ g;rw [e1] at e2; cases e2;exact wpAny_size (wpAny_pyNext_list_end rm.handled it (isL_of l1) (none_at v1 q) fun h' hx hs => w h' hx hs)
theorem next_lst1 {r i k : Nat} {xs : List V} (g : H.get r i = some (.list xs)) (q : xs[k]? = some v) : NextJ B H t (.lst r i k) (some (v, .lst r i (k + 1)), H) := nextJ_some nofun fun m A s a j R ir Q E w => by
 obtain ⟨p, e1, it⟩ := ir;obtain ⟨p', us, n, e2, e3, l1, v1⟩ := R.list (u := .ref p.1) ⟨p, e1, rfl⟩ g;rw [e1] at e2; cases e2;obtain ⟨u, u1, u2⟩ := some_at v1 q;exact wpAny_pyNext_list_item it (isL_of l1) u1 fun h' it' hs' => w u h' s.toks u2 ⟨p, e1, it'⟩ hs'
theorem next_tup0 {r i k : Nat} {xs : List V} (g : H.get r i = some (.tup xs)) (q : xs[k]? = none) : NextJ B H t (.tup r i k) (none, H) := nextJ_none fun m A s a j R rm ir Q E w => by
 obtain ⟨p, e1, it⟩ := ir;obtain ⟨p', us, n, e2, e3, l1, v1⟩ := R.tup (u := .ref p.1) ⟨p, e1, rfl⟩ g;rw [e1] at e2; cases e2;exact wpAny_size (wpAny_pyNext_tuple_end rm.handled it (isT_of l1) (none_at v1 q) fun h' hx hs => w h' hx hs)
theorem next_tup1 {r i k : Nat} {xs : List V} (g : H.get r i = some (.tup xs)) (q : xs[k]? = some v) : NextJ B H t (.tup r i k) (some (v, .tup r i (k + 1)), H) := nextJ_some nofun fun m A s a j R ir Q E w => by
 obtain ⟨p, e1, it⟩ := ir;obtain ⟨p', us, n, e2, e3, l1, v1⟩ := R.tup (u := .ref p.1) ⟨p, e1, rfl⟩ g;rw [e1] at e2; cases e2;obtain ⟨u, u1, u2⟩ := some_at v1 q;exact wpAny_pyNext_tuple_item it (isT_of l1) u1 fun h' it' hs' => w u h' s.toks u2 ⟨p, e1, it'⟩ hs'
theorem next_keys0 (K : BOk B) {r i k : Nat} {es : List (V × V)} (g : H.get r i = some (.dict es)) (q : (es[k]?).map (·.1) = none) : NextJ B H t (.keys r i k es.length) (none, H) := nextJ_none fun m A s a j R rm ir Q E w => by
 obtain ⟨p, e1, it⟩ := ir;obtain ⟨p', kvs, e2, e3, D, dr, hs⟩ := R.dict K (u := .ref p.1) ⟨p, e1, rfl⟩ g;rw [e1] at e2; cases e2;rw [<- dr.length] at it;have hx : kvs[k]? = none := List.getElem?_eq_none_iff.mpr (by rw [dr.length]; exact List.getElem?_eq_none_iff.mp (Option.map_eq_none_iff.mp q))
 exact wpAny_size (wpAny_pyNext_dict_end rm.handled it D hx fun h' hx hs => w h' hx hs)
theorem next_keys1 (K : BOk B) {r i k : Nat} {es : List (V × V)} (g : H.get r i = some (.dict es)) (q : (es[k]?).map (·.1) = some v) : NextJ B H t (.keys r i k es.length) (some (v, .keys r i (k + 1) es.length), H) := nextJ_some nofun fun m A s a j R ir Q E w => by
 obtain ⟨p, e1, it⟩ := ir;obtain ⟨p', kvs, e2, e3, D, dr, hs⟩ := R.dict K (u := .ref p.1) ⟨p, e1, rfl⟩ g;rw [e1] at e2; cases e2;have hl := dr.length;rw [<- hl] at it;obtain ⟨x, q0, rfl⟩ := mpd q;obtain ⟨y, y1, y2, y3⟩ := DRs_get dr q0;exact wpAny_pyNext_dict_item (k := y.1) (v := y.2) it D y1 fun key h' hk it' hs' => w key h' s.toks (key_of y2 hk) ⟨p, e1, by rw [<- hl]; exact it'⟩ hs'
theorem next_rng0 {k n : Int} (q : ¬ k < n) : NextJ B H t (.rng k n) (none, H) := nextJ_none fun m A s a j R rm ir Q E w =>
 wpAny_size (wpAny_pyNext_range_end rm.handled ir (Int.sub_nonpos_of_le (Int.not_lt.1 q)) fun h' hx hs => w h' hx hs)
theorem next_rng1 {k n : Int} (q : k < n) : NextJ B H t (.rng k n) (some (.int k, .rng (k + 1) n), H) := nextJ_some nofun fun m A s a j R ir Q E w =>
 wpAny_pyNext_range_item ir (Int.sub_pos_of_lt q) fun h' it' hs' => w _ h' _ ⟨_, rfl⟩ (by show IsRangeIter h' a (k + 1) (n - (k + 1)) 1; rw [(Int.sub_sub n k 1).symm]; exact it') hs'
theorem next_sgn0 : NextJ B H t (.sgn []) (none, H) := nextJ_none fun m A s a j R rm ir Q E w => by
 obtain ⟨x, t, k, it, e⟩ := ir;have hx : x.cps[k]? = none := Array.getElem?_eq_none (by have := List.drop_eq_nil_iff.mp e.symm; rw [Array.length_toList] at this; exact this)
 cases ha : x.cps.all (· < 128)
 ·exact wpAny_size (wpAny_pyNext_wide_end rm.handled (by simpa [strIterType, ha] using it) hx fun h' hx hs => w h' hx hs)
 ·exact wpAny_size (wpAny_pyNext_ascii_end rm.handled (by simpa [strIterType, ha] using it) hx fun h' hx hs => w h' hx hs)
theorem next_sgn1 {c : Nat} {l : List Nat} : NextJ B H t (.sgn (c :: l)) (some (.str ⟨#[c]⟩, .sgn l), H) := nextJ_some nofun fun m A s a j R ir Q E w => by
 obtain ⟨x, t, k, it, e⟩ := ir;have hx : x.cps[k]? = some c := by
  have := congrArg (·[0]?) e.symm
  simpa [List.getElem?_drop] using this
 have hl : l = x.cps.toList.drop (k + 1) := by
  have := congrArg List.tail e.symm;simpa [List.tail_drop] using this.symm
 cases ha : x.cps.all (· < 128)
 ·exact wpAny_pyNext_wide_item (by simpa [strIterType, ha] using it) hx fun h' it' hs' => w _ h' _ ⟨_, rfl⟩ ⟨x, t, k + 1, by simpa [strIterType, ha] using it', hl⟩ hs'
 ·exact wpAny_pyNext_ascii_item (by simpa [strIterType, ha] using it) hx fun h' it' hs' => w _ h' _ ⟨_, rfl⟩ ⟨x, t, k + 1, by simpa [strIterType, ha] using it', hl⟩ hs'
theorem next_enm0 {r i k : Nat} {xs : List V} (g : H.get r i = some (.list xs)) (q : xs[k]? = none) : NextJ B H t (.enm r i k) (none, H) := by
 rintro m A s a j L R rm ⟨oa, oj, na, nj, p, old, e1, en, li, hne⟩ Qn Qs E q1 _;obtain ⟨p', us, nn, e2, e3, l1, v1⟩ := R.list (u := .ref p.1) ⟨p, e1, rfl⟩ g;rw [e1] at e2; cases e2;refine wpAny_size (wpAny_pyNext_enum_end rm.handled en li (isL_of l1) (none_at v1 q) fun h' hx hs => ?_);have pr := R.priv (X := [a, j]) (h' := h') (fun b hb => by
   rcases List.mem_cons.mp hb with rfl | hb
   ·exact ⟨oa.np, oa.low⟩
   ·rw [List.mem_singleton] at hb; subst hb; exact ⟨oj.np, oj.low⟩) (fun b o hb e => hx b o (fun w => hb (by simp [w])) e) hs
 exact q1 rfl m _ pr.2 pr.1
theorem next_enm1 {ts : List Expr} {n : Nat} {pos : Pos} {r i k : Nat} {xs : List V} (g : H.get r i = some (.list xs)) (q : xs[k]? = some v) : NextJ B H (.Tuple ts n pos) (.enm r i k) (some (.ref H.reg H.nxt, .enm r i (k + 1)), H.push (.tup [.int k, v])) := by
 rintro m A s a j L R rm ⟨oa, oj, na, nj, p, old, e1, en, li, hne⟩ Qn Qs E _ q2;obtain ⟨p', us, nn, e2, e3, l1, v1⟩ := R.list (u := .ref p.1) ⟨p, e1, rfl⟩ g;rw [e1] at e2; cases e2;obtain ⟨u, u1, u2⟩ := some_at v1 q;refine wpAny_pyNext_enum_item en li (isL_of l1) u1 hne fun h1 he1 hl1 ht1 hs1 hk1 => ?_;dsimp only at hs1 hk1 ht1 he1 hl1 ⊢;refine wpAny_letOwnedTupleGo_enum he1 fun h2 he2 hs2 => ?_;dsimp only at hs2 ⊢
 -- the new pair first
 obtain ⟨m1, R1, st1, hm1⟩ := R.make (.tup [.int k, v]) (h' := s.heap.push { cls := .type "tuple", data := .seq #[.int k s.toks, u] }) (p := (s.heap.objs.size, s.heap.objs.size)) (push_old _) (objs_le ..)
  ⟨Nat.le_refl _, objs_lt ..⟩ ⟨Nat.le_refl _, objs_lt ..⟩ fun m' l => ⟨#[.int k s.toks, u], 0, push_self rfl, ⟨_, rfl⟩, u2.mono l, trivial⟩
 have sz : (s.heap.push { cls := .type "tuple", data := .seq #[.int k s.toks, u] }).objs.size = s.heap.objs.size + 1 := objs_size _ _;have pr := R1.priv (X := [a, j]) (h' := h2) (fun b hb => by
   rcases List.mem_cons.mp hb with rfl | hb
   ·exact ⟨(oa.step st1).np, oa.low⟩
   ·rw [List.mem_singleton] at hb; subst hb; exact ⟨(oj.step st1).np, oj.low⟩)
  (fun b o hb e => by
   have hb1 : b ≠ a := fun w => hb (by simp [w])
   have hb2 : b ≠ j := fun w => hb (by simp [w])
   refine (hs2.2 b hb1).trans ?_;rcases Heap.get?_push_cases e with ⟨rfl, rfl⟩ | e2
   ·exact ht1
   ·exact hk1 b _ hb1 hb2 e2)
  (by rw [sz, hs2.1, hs1]; exact Nat.le_refl _)
 have st := st1.nil.trans pr.2;refine q2 _ _ rfl m1 _ _ st pr.1 ⟨_, hm1, rfl⟩ ⟨oa.step st, oj.step st, na, nj, p, u, st1.le _ _ _ e1, he2, ?_, hne⟩;obtain ⟨o, o1, o2⟩ := hl1;exact ⟨o, (hs2.2 j (Ne.symm hne)).trans o1, o2⟩
end
noncomputable def isTupT : Expr -> Bool
 | .Tuple .. => true
 | _ => false
noncomputable def nextO (H : Hp) (t : Expr) (it : It) : OM (Option (V × It) × Hp) := match it with
 | .lst r i k => (getO H r i).bind fun o => onL o fun xs => (askT Ans.ov? xs[k]?).bind fun v => match v with
  | some v => ret (some (v, .lst r i (k + 1)), H)
  | none => ret (none, H)
 | .tup r i k => (getO H r i).bind fun o => onT o fun xs => (askT Ans.ov? xs[k]?).bind fun v => match v with
  | some v => ret (some (v, .tup r i (k + 1)), H)
  | none => ret (none, H)
 | .keys r i k n => (getO H r i).bind fun o => onD o fun es => reqO (es.length = n) ((askT Ans.ov? ((es[k]?).map (·.1))).bind fun v => match v with
  | some v => ret (some (v, .keys r i (k + 1) n), H)
  | none => ret (none, H))
 | .rng k n => (testO (k < n)).bind fun b => match b with
  | true => ret (some (.int k, .rng (k + 1) n), H)
  | false => ret (none, H)
 | .enm r i k => guardO (isTupT t) ((getO H r i).bind fun o => onL o fun xs => (askT Ans.ov? xs[k]?).bind fun v => match v with
  | some v => (newO H (.tup [.int k, v])).bind fun p => ret (some (p.1, .enm r i (k + 1)), p.2)
  | none => ret (none, H))
 | .sgn s => match s with
  | [] => ret (none, H)
  | c :: s => ret (some (.str ⟨#[c]⟩, .sgn s), H)
theorem nextO_ok {B : Bs} (K : BOk B) {H : Hp} {t : Expr} {it : It} : Says (nextO H t it) (NextJ B H t it) := by
 cases it with
 | lst r i k =>
  refine Says.get fun o g => Says.onL fun xs e => Says.bind (F := fun v => xs[k]? = v) (Says.askT fun _ h => h) fun v hv => ?_;cases v with
  | none => exact Says.ret (next_lst0 (g.trans e) hv)
  | some v => exact Says.ret (next_lst1 (g.trans e) hv)
 | tup r i k =>
  refine Says.get fun o g => Says.onT fun xs e => Says.bind (F := fun v => xs[k]? = v) (Says.askT fun _ h => h) fun v hv => ?_;cases v with
  | none => exact Says.ret (next_tup0 (g.trans e) hv)
  | some v => exact Says.ret (next_tup1 (g.trans e) hv)
 | keys r i k n =>
  refine Says.get fun o g => Says.onD fun es e => Says.req fun hn => Says.bind (F := fun v => (es[k]?).map (·.1) = v) (Says.askT fun _ h => h) fun v hv => ?_
  subst hn;cases v with
  | none => exact Says.ret (next_keys0 K (g.trans e) hv)
  | some v => exact Says.ret (next_keys1 K (g.trans e) hv)
 | rng k n =>
  refine Says.bind (F := fun b => match b with | true => k < n | false => ¬ k < n) (Says.test (fun h => h) fun h => h) fun b hb => ?_
  cases b with
  | false => exact Says.ret (next_rng0 hb)
  | true => exact Says.ret (next_rng1 hb)
 | enm r i k =>
  refine Says.guard fun ht => Says.get fun o g => Says.onL fun xs e => Says.bind (F := fun v => xs[k]? = v) (Says.askT fun _ h => h) fun v hv => ?_;cases v with
  | none => exact Says.ret (next_enm0 (g.trans e) hv)
  | some v =>
   cases t with
   | Tuple ts n pos => exact Says.bind (F := fun p => p = (V.ref H.reg H.nxt, H.push (.tup [.int k, v]))) (Says.new rfl) fun p hp => by subst hp; exact Says.ret (next_enm1 (g.trans e) hv)
   | _ => cases ht
 | sgn s =>
  cases s with
  | nil => exact Says.ret next_sgn0
  | cons c l => exact Says.ret next_sgn1
noncomputable abbrev IterP (B : Bs) (L : Nat) (z : Nat) (it : It) (H : Hp) : Mp -> Value -> Shared -> Prop := fun m u s => Rel B m H s.heap /\ ∃ a j, u = .ref a /\ z <= a /\ z <= j /\ ItOk B L m s.heap a j it
theorem own_new {B : Bs} {m : Mp} {H : Hp} {h : Heap} (R : Rel B m H h) {a : Nat} (h1 : h.objs.size <= a) {h' : Heap} (h2 : a < h'.objs.size) : Own B m h' a := ⟨R.np_new h1, le_trans R.size h1, h2⟩
def IterJ (B : Bs) (H : Hp) (v : V) (it : It) : Prop := ∀ m A s u L, Rel B m H s.heap -> VR m v u -> L < s.heap.objs.size -> Does B A [] (pyIter u) m s (IterP B L s.heap.objs.size it H)
noncomputable def iterO (H : Hp) (a : V) : OM It := match a with
 | .str s => ret (.sgn s.cps.toList)
 | .ref r i => (getO H r i).bind fun o => onO o (fun _ => ret (.lst r i 0)) (fun _ => ret (.tup r i 0)) (fun es => ret (.keys r i 0 es.length)) (fun _ _ => OM.no)
 | _ => OM.no
theorem iterJ_of {B : Bs} {H : Hp} {v : V} {it : It} (ob : Value -> Obj) (hf : ∀ u, (ob u).isFreed = false) (h : ∀ m A s u, Rel B m H s.heap -> VR m v u -> (∀ h' : Heap, h'.get? s.heap.objs.size = some (ob u) -> IR B m h' s.heap.objs.size s.heap.objs.size it) /\
  (∀ (Q : Value -> Shared -> Prop) (E : Value -> Shared -> Prop), Q (.ref s.heap.objs.size) { s with heap := s.heap.push (ob u) } -> wpAny (model B.prog B.w) A (pyIter u) Q E s)) : IterJ B H v it := by
 intro m A s u L R hv hL;obtain ⟨hir, w⟩ := h m A s u R hv;have pr := R.priv (X := []) (h' := s.heap.push (ob u)) (fun _ z => nomatch z) (fun b o' _ e => push_old _ b o' e) (objs_le ..)
 have ow := own_new (h' := s.heap.push (ob u)) R (Nat.le_refl s.heap.objs.size) (objs_lt ..);exact Does.wp w pr.2 ⟨pr.1, _, _, rfl, Nat.le_refl _, Nat.le_refl _, ow, ow, Nat.ne_of_gt hL, Nat.ne_of_gt hL, hir _ (push_self (hf u))⟩
theorem iterO_ok {B : Bs} (K : BOk B) {H : Hp} {a : V} : Says (iterO H a) (IterJ B H a) := by
 cases a with
 | str x => exact Says.ret (iterJ_of (fun u => { cls := .type (strIterType x), data := .fields #[u, .int 0 0] }) (fun _ => rfl) fun m A s u R hv => by
   obtain ⟨t, rfl⟩ := hv;exact ⟨fun h' e => ⟨_, t, 0, ⟨_, e, rfl, rfl⟩, rfl⟩, fun Q E q => wpAny_pyIter_strU q⟩)
 | ref r i =>
  refine Says.get fun o g => Says.onO (fun xs e => Says.ret (iterJ_of (fun u => { cls := .type "list_iterator", data := .fields #[u, .int 0 0] }) (fun _ => rfl) fun m A s u R hv => ?_)) (fun xs e => Says.ret (iterJ_of (fun u => { cls := .type "tuple_iterator", data := .fields #[u, .int 0 0] }) (fun _ => rfl) fun m A s u R hv => ?_))
   (fun es e => Says.ret (iterJ_of (fun u => { cls := .type "dict_keyiterator", data := .fields #[u, .int 0 0, .int es.length 0, .int es.length 0] }) (fun _ => rfl) fun m A s u R hv => ?_)) (fun _ _ _ => Says.no)
  ·obtain ⟨p, us, n, e1, rfl, l1, v1⟩ := R.list hv (g.trans e);exact ⟨fun h' e => ⟨p, e1, _, e, rfl, rfl⟩, fun Q E q => wpAny_pyIter_list (isL_of l1) q⟩
  ·obtain ⟨p, us, n, e1, rfl, l1, v1⟩ := R.tup hv (g.trans e);exact ⟨fun h' e => ⟨p, e1, _, e, rfl, rfl⟩, fun Q E q => wpAny_pyIter_tuple (isT_of l1) q⟩
  ·obtain ⟨p, kvs, e1, rfl, D, dr, hs⟩ := R.dict K hv (g.trans e);refine ⟨fun h' e => ⟨p, e1, _, e, rfl, rfl⟩, fun Q E q => wpAny_pyIter_dict hs D ?_⟩;rw [dr.length]; exact q
 | _ => exact Says.no
end
section
open PySem.SeqAt PySem.Builtin.Str
section
variable {prog : Program} {w : World} {A : Around} {env : Env} {s : Shared}
theorem while_turn {R : Result -> Shared -> Prop} {test : Expr} {body : List Stmt}
  (h : ∀ E, wpAny (model prog w) A (isTrue test env (eval test env)) (fun b s₁ => if b = true then wpAny (model prog w) A (execs body env) (fun f s₂ => match f with
    | .next | .cont => codeAny (model prog w) A (.whileLoop test body [] env) R s₂
    | .brk => R (.ok .next) s₂
    | .ret v => R (.ok (.ret v)) s₂) E s₁ else R (.ok .next) s₁) E s) : codeAny (model prog w) A (.whileLoop test body [] env) R s := by
 refine codeAny_of_tree ?_;show wpAny _ A ((whileTurn test body [] env).onRaise (fun x => do noteFrame x env; theTreesLotGoes x)) _ _ s
 refine wpAny_noted ?_;unfold whileTurn;refine wpAny_bind (wpAny_mono (h _) (fun b s₁ h₁ => ?_) fun _ _ z => z);cases b with
 | true =>
  rw [if_pos rfl] at h₁;rw [if_pos rfl];refine wpAny_bind (wpAny_mono h₁ (fun f s₂ h₂ => ?_) fun _ _ z => z);cases f with
  | next => exact wpAny_pure ⟨rfl, h₂⟩
  | cont => exact wpAny_pure ⟨rfl, h₂⟩
  | brk => exact wpAny_pure h₂
  | ret v => exact wpAny_pure h₂
 | false =>
  rw [if_neg (by decide)] at h₁
  rw [if_neg (by decide)]
  exact wpAny_bind (wpAny_execs_nil (wpAny_pure h₁))
theorem for_turn {R : Result -> Shared -> Prop} {target : Expr} {it : Value} {body : List Stmt}
  (h : ∀ E, wpAny (model prog w) A (pyNext it) (fun r s₁ => match r with
   | none => R (.ok .next) s₁
   | some v => wpAny (model prog w) A (letOwnedTupleGo target it v) (fun _ s₁ => wpAny (model prog w) A (assign target env v) (fun _ s₂ => wpAny (model prog w) A (execs body env) (fun f s₃ => match f with
     | .next | .cont => codeAny (model prog w) A (.forLoop target it body [] env) R s₃
     | .brk => R (.ok .next) s₃
     | .ret v => R (.ok (.ret v)) s₃) E s₂) E s₁) E s₁) E s) : codeAny (model prog w) A (.forLoop target it body [] env) R s := by
 refine codeAny_of_tree ?_;show wpAny _ A ((forTurn target it body [] env).onRaise (fun x => do noteFrame x env; theTreesLotGoes x)) _ _ s
 refine wpAny_noted ?_;unfold forTurn;refine wpAny_bind (wpAny_standAt (wpAny_bind (wpAny_onRaise (wpAny_mono (h _) (fun r s₁ h₁ => ?_) fun _ _ h' => wpAny_standAt h'))));cases r with
 | none => exact wpAny_pure ⟨rfl, codeAny_block (wpAny_execs_nil h₁)⟩
 | some v =>
  refine wpAny_bind (wpAny_mono h₁ (fun _ s₁ h₁ => wpAny_bind (wpAny_mono h₁ (fun _ s₂ h₂ => wpAny_bind (wpAny_mono h₂ (fun f s₃ h₃ => ?_) fun _ _ h' => h')) fun _ _ h' => h')) fun _ _ h' => h');cases f with
  | next => exact wpAny_pure ⟨rfl, h₃⟩
  | cont => exact wpAny_pure ⟨rfl, h₃⟩
  | brk => exact wpAny_pure h₃
  | ret v => exact wpAny_pure h₃
end
section
variable {prog : Program} {w : World} {A : Around} {env : Env} {s : Shared}
noncomputable abbrev testsOf (ifs : List Expr) (env : Env) : Sem Bool := forIn ifs true fun c r => if r = true then do let ok <- isTrue c env (eval c env); pure (ForInStep.yield ok) else pure (ForInStep.yield r)
theorem comp_turn_list {R : Result -> Shared -> Prop} {elt target iter : Expr} {ifs : List Expr} {scope : Scope} {pos : Pos} {it acc : Value}
  (h : ∀ E, wpAny (model prog w) A (pyNext it) (fun r s₁ => match r with
   | none => R (.ok .next) s₁
   | some v => wpAny (model prog w) A (letOwnedTupleGo target it v) (fun _ s₁ => wpAny (model prog w) A (assign target env v) (fun _ s₂ =>
     wpAny (model prog w) A (testsOf ifs env) (fun ok s₃ =>
      if ok = true then wpAny (model prog w) A (eval elt env) (fun x s₄ => wpAny (model prog w) A (call (.builtin "list.append") [acc, x]) (fun _ s₅ => codeAny (model prog w) A (.compLoop (.ListComp elt [⟨target, iter, ifs, 0⟩] scope pos) 0 it acc env) R s₅) E s₄) E s₃
      else codeAny (model prog w) A (.compLoop (.ListComp elt [⟨target, iter, ifs, 0⟩] scope pos) 0 it acc env) R s₃) E s₂) E s₁) E s₁) E s) :
  codeAny (model prog w) A (.compLoop (.ListComp elt [⟨target, iter, ifs, 0⟩] scope pos) 0 it acc env) R s := by
 refine codeAny_of_tree ?_;show wpAny _ A ((compTurn (.ListComp elt [⟨target, iter, ifs, 0⟩] scope pos) 0 it acc env).onRaise (fun x => do noteFrame x env; theTreesLotGoes x)) _ _ s
 refine wpAny_noted ?_;rw [compTurn_list];refine wpAny_bind (wpAny_standAt (wpAny_bind (wpAny_mono (h _) (fun r s₁ h₁ => ?_) fun _ _ h' => h')));cases r with
 | none => exact wpAny_pure h₁
 | some v =>
  refine wpAny_bind (wpAny_mono h₁ (fun _ s₁ h₁ => wpAny_bind (wpAny_mono h₁ (fun _ s₂ h₂ => wpAny_bind (wpAny_mono h₂ (fun ok s₃ h₃ => ?_) fun _ _ h' => h')) fun _ _ h' => h')) fun _ _ h' => h');cases ok with
  | false => exact wpAny_pure ⟨rfl, h₃⟩
  | true =>
   exact wpAny_bind (wpAny_bind (wpAny_mono h₃ (fun x s₄ h₄ => wpAny_bind (wpAny_mono h₄ (fun _ s₅ h₅ => wpAny_pure (wpAny_pure ⟨rfl, h₅⟩)) fun _ _ h' => h')) fun _ _ h' => h'))
theorem comp_turn_dict {R : Result -> Shared -> Prop} {kx vx target iter : Expr} {ifs : List Expr} {scope : Scope} {pos : Pos} {it : Value} {D : Addr}
  (h : ∀ E, wpAny (model prog w) A (pyNext it) (fun r s₁ => match r with
   | none => R (.ok .next) s₁
   | some v => wpAny (model prog w) A (letOwnedTupleGo target it v) (fun _ s₁ => wpAny (model prog w) A (assign target env v) (fun _ s₂ =>
     wpAny (model prog w) A (testsOf ifs env) (fun ok s₃ =>
      if ok = true then wpAny (model prog w) A (eval kx env) (fun kv s₄ => wpAny (model prog w) A (eval vx env) (fun vv s₅ => wpAny (model prog w) A (dictSet D kv vv) (fun _ s₆ => codeAny (model prog w) A (.compLoop (.DictComp kx vx [⟨target, iter, ifs, 0⟩] scope pos) 0 it (.ref D) env) R s₆) E s₅) E s₄) E s₃
      else codeAny (model prog w) A (.compLoop (.DictComp kx vx [⟨target, iter, ifs, 0⟩] scope pos) 0 it (.ref D) env) R s₃) E s₂) E s₁) E s₁) E s) :
  codeAny (model prog w) A (.compLoop (.DictComp kx vx [⟨target, iter, ifs, 0⟩] scope pos) 0 it (.ref D) env) R s := by
 refine codeAny_of_tree ?_;show wpAny _ A ((compTurn (.DictComp kx vx [⟨target, iter, ifs, 0⟩] scope pos) 0 it (.ref D) env).onRaise (fun x => do noteFrame x env; theTreesLotGoes x)) _ _ s
 refine wpAny_noted ?_;rw [compTurn_dict];refine wpAny_bind (wpAny_standAt (wpAny_bind (wpAny_mono (h _) (fun r s₁ h₁ => ?_) fun _ _ h' => h')));cases r with
 | none => exact wpAny_pure h₁
 | some v =>
  refine wpAny_bind (wpAny_mono h₁ (fun _ s₁ h₁ => wpAny_bind (wpAny_mono h₁ (fun _ s₂ h₂ => wpAny_bind (wpAny_mono h₂ (fun ok s₃ h₃ => ?_) fun _ _ h' => h')) fun _ _ h' => h')) fun _ _ h' => h');cases ok with
  | false => exact wpAny_pure ⟨rfl, h₃⟩
  | true =>
   exact wpAny_bind (wpAny_bind (wpAny_mono h₃ (fun kv s₄ h₄ => wpAny_bind (wpAny_holding (wpAny_mono h₄ (fun vv s₅ h₅ => wpAny_bind (wpAny_standAt (wpAny_holding (wpAny_mono h₅ (fun _ s₆ h₆ => wpAny_pure ⟨rfl, h₆⟩) fun _ _ h' => h')))) fun _ _ h' => h'))) fun _ _ h' => h'))
end
section
variable {B : Bs} {A : Around} {env : Env} {m : Mp} {s s' : Shared} {H H' : Hp} {d : Nat} {e e' : En}
theorem EnvOk.stepX {X : List Nat} {m' : Mp} {h h' : Heap} (x : EnvOk B m e env h) (R : Rel B m H h) (s : Step B X m h m' h') (hx : (env.locals : Nat) ∉ X) : EnvOk B m' e env h' := by
 obtain ⟨f, hn, hl⟩ := x.loc;have hlt : (env.locals : Nat) < h.objs.size := hn.lt;refine ⟨x.kind, x.names, ⟨f, ?_, hl.mono s.le⟩, s.np x.np hlt, x.low, fun y p e => ?_, x.globals, x.builtins, x.qual, x.code⟩
 ·obtain ⟨o, es, ep, ho, r⟩ := hn;exact ⟨o, es, ep, s.keep _ _ (R.notTab x.low) hx x.np ho, r⟩
 ·obtain ⟨q, a, b⟩ := x.cel y p e;exact ⟨q, s.le _ _ _ a, b⟩
theorem EnvOk.lt {h : Heap} (x : EnvOk B m e env h) : (env.locals : Nat) < h.objs.size := let ⟨_, hn, _⟩ := x.loc; hn.lt
theorem EnvOk.own {h : Heap} (x : EnvOk B m e env h) : Own B m h env.locals := ⟨x.np, x.low, x.lt⟩

end
def CalleeOk (B : Bs) (h : Heap) (f : Value) : Prop := ∃ k, (k = Keeper.frame \/ k = Keeper.machine \/ k = Keeper.boundFrame) /\ Looks (model B.prog B.w) h (keeperOf f) k
theorem mk_callee_type {B : Bs} (h : Heap) (T : String) : CalleeOk B h (.type T) := ⟨.machine, .inr (.inl rfl), Looks.now⟩
theorem mk_callee_bi {B : Bs} (h : Heap) (T : String) : CalleeOk B h (.builtin T) := ⟨.machine, .inr (.inl rfl), Looks.now⟩
def Turned (q r : Fl × En × Hp) (again : Prop) : Prop := match q.1 with
 | .next => again
 | .cont => again
 | .brk => r = (.next, q.2.1, q.2.2)
 | .ret v => r = (.ret v, q.2.1, q.2.2)
noncomputable def turnO (q : Fl × En × Hp) (again : OM (Fl × En × Hp)) : OM (Fl × En × Hp) := match q.1 with
 | .next => again
 | .cont => again
 | .brk => ret (.next, q.2.1, q.2.2)
 | .ret v => ret (.ret v, q.2.1, q.2.2)
theorem turnO_ok {q : Fl × En × Hp} {again : OM (Fl × En × Hp)} {F G : Fl × En × Hp -> Prop} (h : Says again F) (k : ∀ r, Turned q r (F r) -> G r) : Says (turnO q again) G := by
 obtain ⟨f, q⟩ := q;cases f
 ·exact h.mono fun r hr => k r hr
 ·exact Says.ret (k _ rfl)
 ·exact h.mono fun r hr => k r hr
 ·exact Says.ret (k _ rfl)
theorem codes_turned {B : Bs} {A : Around} {env : Env} {X : List Nat} {m m3 : Mp} {s s3 : Shared} {q r : Fl × En × Hp} {u3 : Flow} {Rr : Result -> Shared -> Prop} {c : Code} {again : Prop} (st : Step B X m s.heap m3 s3.heap) (p : FlowP B env q m3 u3 s3) (ht : Turned q r again)
  (w : ∀ m' u s', Step B X m s.heap m' s'.heap -> FlowP B env r m' u s' -> [Sam B s'] -> Rr (.ok u) s') (k : again -> Rel B m3 q.2.2 s3.heap -> EnvOk B m3 q.2.1 env s3.heap -> [Sam B s3] -> codeAny (model B.prog B.w) A c Rr s3) [Sam B s3] :
  match u3 with
   | .next | .cont => codeAny (model B.prog B.w) A c Rr s3
   | .brk => Rr (.ok .next) s3
   | .ret v => Rr (.ok (.ret v)) s3 := by
 obtain ⟨f, e3, H3⟩ := q;obtain ⟨R3, N3, F3⟩ := p;cases F3 with
 | next => exact k ht R3 N3
 | cont => exact k ht R3 N3
 | brk => exact w m3 .next s3 st (by rw [show r = _ from ht]; exact ⟨R3, N3, .next⟩)
 | ret h => exact w m3 _ s3 st (by rw [show r = _ from ht]; exact ⟨R3, N3, .ret h⟩)
section
variable {B : Bs} {d : Nat} {e : En} {H : Hp}
theorem whJ_end {t : Expr} {b : List Stmt} {c : Bool × Hp} (h1 : TsJ B d e H t c) (hc : c.1 = false) : WhJ B d e H t b (.next, e, c.2) := fun m A env s z Rr q => by
 refine while_turn fun E => h1 m A env s z _ E fun m1 u s1 st1 p1 => ?_;rw [p1.2, hc, if_neg nofun]
 exact q m1 _ s1 st1.nil ⟨p1.1, (z.step st1 p1.1).N, .next⟩
theorem whJ_turn {t : Expr} {b : List Stmt} {c : Bool × Hp} {p r : Fl × En × Hp} (h1 : TsJ B d e H t c) (hc : c.1 = true) (h2 : ExsJ B d e c.2 b p) (h3 : Turned p r (WhJ B d p.2.1 p.2.2 t b r)) : WhJ B d e H t b r := fun m A env s z Rr q => by
 refine while_turn fun E => h1 m A env s z _ E fun m1 u s1 st1 p1 => ?_;rw [p1.2, hc, if_pos rfl];refine h2 m1 A env s1 (z.step st1 p1.1) _ E fun m2 u2 s2 st2 p2 => ?_;intro _;have st := st1.nil.trans st2;exact codes_turned st p2 h3 q fun k R N => k m2 A env s2 ⟨R, N, z.rm⟩ Rr fun m3 u3 s3 st3 p3 => q m3 u3 s3 (st.trans st3) p3
theorem notIn {L a j : Nat} {m : Mp} {h : Heap} {it : It} (X : ItOk B L m h a j it) : L ∉ [a, j] := fun w =>
 (List.mem_cons.mp w).elim (fun w => X.na w.symm) fun w => X.nj (List.mem_singleton.mp w).symm
theorem foJ_end {t : Expr} {it : It} {b : List Stmt} {H' : Hp} (h1 : NextJ B H t it (none, H')) : FoJ B d e H t it b (.next, e, H') := fun m A env s a j z X Rr q =>
 for_turn fun E => h1 m A s a j _ z.R z.rm.zero X _ _ E (fun _ m1 s1 st1 R1 => q m1 _ s1 (st1.wide fun _ => mem_cons_of_mem _) ⟨R1, z.N.stepX z.R st1 (notIn X), .next⟩) fun _ _ e1 => nomatch e1
theorem mem_one {L a j b : Nat} (h : b ∈ [L]) : b ∈ [L, a, j] := by rw [List.mem_singleton] at h; rw [h]; exact mem_cons_self
theorem not_one {L a : Nat} (h : a ≠ L) : a ∉ [L] := fun w => h (List.mem_singleton.mp w)
theorem foJ_turn {t : Expr} {it it' : It} {b : List Stmt} {v : V} {H1 : Hp} {y : En × Hp} {p r : Fl × En × Hp} (h1 : NextJ B H t it (some (v, it'), H1)) (h2 : AssJ B d e H1 t v y) (h3 : ExsJ B d y.1 y.2 b p) (h4 : Turned p r (FoJ B d p.2.1 p.2.2 t it' b r)) : FoJ B d e H t it b r := fun m A env s a j z X Rr q => by
 have hl := notIn X;intro _;refine for_turn fun E => h1 m A s a j _ z.R z.rm.zero X _ _ E (fun e1 => nomatch e1) fun v1 it1 e1 m1 u s1 st1 R1 v2 X1 => ?_
 cases e1;refine h2 m1 A env s1 u ⟨R1, z.N.stepX z.R st1 hl, z.rm⟩ v2 _ E fun m2 _ s2 st2 p2 => ?_;refine h3 m2 A env s2 ⟨p2.1, p2.2, z.rm⟩ _ E fun m3 u3 s3 st3 p3 => ?_;intro _;have X3 := X1.step R1 (st2.trans st3) (not_one X.na) (not_one X.nj);have st : Step B [(env.locals : Nat), a, j] m s.heap m3 s3.heap := (st1.wide fun _ => mem_cons_of_mem _).trans ((st2.trans st3).wide fun _ => mem_one);exact codes_turned st p3 h4 q fun k R N => k m3 A env s3 a j ⟨R, N, z.rm⟩ X3 Rr fun m4 u4 s4 st4 p4 => q m4 u4 s4 (st.trans st4) p4
end
noncomputable def whO (I : OI) (d : Nat) (e : En) (H : Hp) (t : Expr) (b : List Stmt) : OM (Fl × En × Hp) := (I.ts d e H t).bind fun c => match c.1 with
 | true => (exsO I d e c.2 b).bind fun p => turnO p (I.wh d p.2.1 p.2.2 t b)
 | false => ret (.next, e, c.2)
theorem whO_ok {B : Bs} {I : OI} (O : IOk B I) {d : Nat} {e : En} {H : Hp} {t : Expr} {b : List Stmt} : Says (whO I d e H t b) (WhJ B d e H t b) := (O.ts d e H t).bind fun c h1 => by
 cases hc : c.1 with
 | false => exact Says.ret (whJ_end h1 hc)
 | true => exact (exsO_ok O).bind fun p h2 => turnO_ok (O.wh _ _ _ _ _) fun r h3 => whJ_turn h1 hc h2 h3
noncomputable def foO (I : OI) (d : Nat) (e : En) (H : Hp) (t : Expr) (it : It) (b : List Stmt) : OM (Fl × En × Hp) := (nextO H t it).bind fun x => match x.1 with
 | none => ret (.next, e, x.2)
 | some y => (assO I d e x.2 t y.1).bind fun q => (exsO I d q.1 q.2 b).bind fun p => turnO p (I.fo d p.2.1 p.2.2 t y.2 b)
theorem foO_ok {B : Bs} (K : BOk B) {I : OI} (O : IOk B I) {d : Nat} {e : En} {H : Hp} {t : Expr} {it : It} {b : List Stmt} : Says (foO I d e H t it b) (FoJ B d e H t it b) := (nextO_ok K).bind fun x h1 => by
 obtain ⟨x, H1⟩ := x;cases x with
 | none => exact Says.ret (foJ_end h1)
 | some y => exact (assO_ok K O).bind fun q h2 => (exsO_ok O).bind fun p h3 => turnO_ok (O.fo _ _ _ _ _ _) fun r h4 => foJ_turn h1 h2 h3 h4
section
variable {B : Bs} {d : Nat} {e : En} {H : Hp}
theorem evalArgs_evs {A : Around} {env : Env} {s : Shared} {xs : List Expr} {pos : Pos} {f : Value} {Q : Args -> Shared -> Prop} {E : Value -> Shared -> Prop} (hs : noStars xs = true)
  (w : wpAny (model B.prog B.w) A (spliced (backTo pos (starEach xs env))) (fun us s' => Q ⟨us, []⟩ s') E s) : wpAny (model B.prog B.w) A (evalArgs f true (backTo pos (starEach xs env)) []) Q E s := by
 cases xs with
 | nil =>
  unfold evalArgs;show wpAny _ A (spliced [] >>= _) Q E s;refine wpAny_bind (wpAny_mono w (fun us s' h' => ?_) fun _ _ x => x);refine wpAny_bind (wpAny_pure ?_);exact wpAny_holding (wpAny_bind (wpAny_pure (wpAny_bind (wpAny_pure (wpAny_pure h')))))
 | cons x xs =>
  rw [star_cons (noStars_cons hs).1] at w ⊢;exact evalArgs_plain w
theorem with_ok {A : Around} {env : Env} {m : Mp} {s : Shared} {xs : List Expr} {vs : List V × Hp} {pos : Pos} {fu : Value} {first : List Value} {P : Mp -> Value -> Shared -> Prop} (hs : noStars xs = true) (h : EvsJ B d e H xs vs) (z : At B d e H m A env s)
  (kp : ∀ m' (s' : Shared), Step B [] m s.heap m' s'.heap -> Rel B m' vs.2 s'.heap -> CalleeOk B s'.heap fu)
  (hc : ∀ m' us s', Step B [] m s.heap m' s'.heap -> Rel B m' vs.2 s'.heap -> VRs m' vs.1 us -> Does B A [] (call fu (first ++ us)) m' s' P) :
  Does B A [] (callWith pos fu first (backTo pos (starEach xs env)) []) m s P := fun Q E q =>
 callWith_of (P := fun h => CalleeOk B h fu) (by rw [evs_plain hs]; rfl) (fun _ x => x) (evalArgs_evs hs (h m A env s pos z _ E fun m1 us s1 st1 p1 => ⟨kp m1 s1 st1 p1.1, hc m1 us s1 st1 p1.1 p1.2 Q E fun m2 u s2 st2 p2 => q m2 u s2 (st1.trans st2) p2⟩))
theorem callName_ok {A : Around} {env : Env} {m : Mp} {s : Shared} {n : Str} {p pos : Pos} {xs : List Expr} {f : V × Hp} {vs : List V × Hp} {P : Mp -> Value -> Shared -> Prop} (h1 : EvJ B d e H (.Name n p) f) (hs : noStars xs = true) (h2 : EvsJ B d e f.2 xs vs) (z : At B d e H m A env s)
  (kp : ∀ m' h fu, Rel B m' vs.2 h -> VR m' f.1 fu -> CalleeOk B h fu)
  (hc : ∀ m' fu us s', Step B [] m s.heap m' s'.heap -> Rel B m' vs.2 s'.heap -> VR m' f.1 fu -> VRs m' vs.1 us -> Does B A [] (call fu us) m' s' P) :
  Does B A [] (eval (.Call (.Name n p) xs [] pos) env) m s P := by
 rw [arm_eval_Call_Name'];refine (h1 m A env s z).bind fun m1 fu s1 st1 p1 => ?_;exact with_ok hs h2 (z.step st1 p1.1) (fun m2 s2 st2 R2 => kp m2 _ fu R2 (p1.2.mono st2.le)) fun m2 us s2 st2 R2 v2 => hc m2 fu us s2 (st1.trans st2) R2 (p1.2.mono st2.le) v2
def IterEJ (B : Bs) (d : Nat) (e : En) (H : Hp) (x : Expr) (r : It × Hp) : Prop := ∀ m A env s, At B d e H m A env s -> ∀ (Q : Value -> Shared -> Prop) (E : Value -> Shared -> Prop), (∀ m' u s', Step B [] m s.heap m' s'.heap -> IterP B env.locals s.heap.objs.size r.1 r.2 m' u s' -> [Sam B s'] -> Q u s') -> [Sam B s] ->
  wpAny (model B.prog B.w) A (eval x env) (fun u s₁ => wpAny (model B.prog B.w) A (pyIter u) Q E s₁) E s
theorem iterEJ_plain {x : Expr} {a : V × Hp} {it : It} (h1 : EvJ B d e H x a) (h2 : IterJ B a.2 a.1 it) : IterEJ B d e H x (it, a.2) := fun m A env s z Q E q => by
 refine h1 m A env s z _ E fun m1 u s1 st1 p1 => ?_;refine h2 m1 A s1 u _ p1.1 p1.2 (lt_of_lt_of_le z.N.lt st1.size) Q E fun m2 u2 s2 st2 p2 => ?_;obtain ⟨R2, a, j, e2, l1, l2, X⟩ := p2;exact q m2 u2 s2 (st1.trans st2) ⟨R2, a, j, e2, le_trans st1.size l1, le_trans st1.size l2, X⟩
theorem evsJ_one {x : Expr} {a : V × Hp} (hs : noStars [x] = true) (h : EvJ B d e H x a) : EvsJ B d e H [x] ([a.1], a.2) := evsJ_cons (noStars_cons hs).1 h evsJ_nil
theorem iterEJ_range {n : Str} {p pos : Pos} {x : Expr} {f a : V × Hp} {i : Int} (h1 : EvJ B d e H (.Name n p) f) (hf : f.1 = .ty "range") (hs : noStars [x] = true) (h2 : EvJ B d e f.2 x a) (ha : a.1 = .int i) (hi : 0 <= i /\ i < 1000000) : IterEJ B d e H (.Call (.Name n p) [x] [] pos) (.rng 0 i, a.2) := fun m A env s z Q E q => by
 refine callName_ok h1 hs (evsJ_one hs h2) z (P := fun m' u s' => Rel B m' a.2 s'.heap /\ ∃ a t1 t2 t3, u = .ref a /\ IsRange s'.heap a 0 i 1 t1 t2 t3) (fun m' h fu R' v' => by rw [hf] at v'; rw [show fu = .type "range" from v']; exact mk_callee_type h _) ?_ _ E ?_
 ·intro m1 fu us s1 st1 R1 v1 vs1;rw [hf] at v1;rw [show fu = .type "range" from v1]
  obtain ⟨u, rfl, hu⟩ := VRs.one vs1;rw [ha] at hu;obtain ⟨t, hu⟩ := hu;subst hu;have pr := R1.priv (X := []) (h' := s1.heap.push { cls := .type "range", data := .fields #[.int 0 s1.toks, .int i t, .int 1 (s1.toks + 1)] }) (fun _ z => nomatch z) (fun b o _ z => push_old _ b o z) (objs_le ..)
  exact Does.wp (s' := { s1 with heap := s1.heap.push { cls := .type "range", data := .fields #[.int 0 s1.toks, .int i t, .int 1 (s1.toks + 1)] }, toks := s1.toks + 1 + 1 }) (fun Q E q => call_range_1 q) pr.2
   ⟨pr.1, s1.heap.objs.size, _, _, _, rfl, IsRange.new _ _ _ _ _ _ _⟩
 ·rintro m1 u s1 st1 ⟨R1, b, t1, t2, t3, rfl, hr⟩;have hsz : Builtin.Range.rangeSize 0 i 1 = i := by
   rw [rangeSize_one, Int.sub_zero];split
   ·rfl
   ·rename_i z; exact Int.le_antisymm hi.1 (Int.not_lt.1 z)
  have hsm : Builtin.Range.small 0 i 1 = true := by
   unfold Builtin.Range.small;rw [hsz];have f : ∀ n : Int, -(2 ^ 63) <= n -> n < 2 ^ 63 -> Builtin.Range.rangeFitsLong n = true := fun n h1 h2 => Bool.and_eq_true_iff.2 ⟨decide_eq_true h1, decide_eq_true h2⟩;rw [show i + (1 - 1) = i from Int.add_zero i, f 0 (by decide) (by decide), f 1 (by decide) (by decide), f i (Int.le_trans (by decide) hi.1) (Int.lt_trans hi.2 (by decide))]
   rw [if_pos (by decide)]
   exact Bool.or_true _
  intro _;refine wpAny_pyIter_range hr hsm ?_;rw [hsz];have pr := R1.priv (X := []) (h' := s1.heap.push { cls := .type "range_iterator", data := .fields #[rawInt 0, rawInt i, rawInt 1] }) (fun _ z => nomatch z) (fun b o _ z => push_old _ b o z) (objs_le ..)
  have ow := own_new (h' := s1.heap.push { cls := .type "range_iterator", data := .fields #[rawInt 0, rawInt i, rawInt 1] }) R1 (Nat.le_refl s1.heap.objs.size) (objs_lt ..);have nl := Nat.ne_of_gt (lt_of_lt_of_le z.N.lt st1.size);refine q m1 _ _ (st1.trans pr.2) ⟨pr.1, _, _, rfl, st1.size, st1.size, ow, ow, nl, nl, ?_⟩;show IsRangeIter _ _ 0 (i - 0) 1;rw [Int.sub_zero];exact push_self rfl
theorem iterEJ_enum {n : Str} {p pos : Pos} {x : Expr} {f a : V × Hp} {r i : Nat} {xs : List V} (h1 : EvJ B d e H (.Name n p) f) (hf : f.1 = .ty "enumerate") (hs : noStars [x] = true) (h2 : EvJ B d e f.2 x a) (ha : a.1 = .ref r i) (gl : a.2.get r i = some (.list xs)) : IterEJ B d e H (.Call (.Name n p) [x] [] pos) (.enm r i 0, a.2) := fun m A env s z Q E q => by
 refine callName_ok h1 hs (evsJ_one hs h2) z (P := fun m' u s' => Rel B m' a.2 s'.heap /\ ∃ a j, u = .ref a /\ s.heap.objs.size <= a /\ s.heap.objs.size <= j /\ ItOk B env.locals m' s'.heap a j (.enm r i 0) /\ IsEnum s'.heap a j 0 .none) (fun m' h fu R' v' => by rw [hf] at v'; rw [show fu = .type "enumerate" from v']; exact mk_callee_type h _) ?_ _ E ?_
 ·intro m1 fu us s1 st1 R1 v1 vs1;rw [hf] at v1;rw [show fu = .type "enumerate" from v1]
  obtain ⟨u, rfl, hu⟩ := VRs.one vs1;rw [ha] at hu;obtain ⟨p', us, nn, e2, rfl, l1, v1⟩ := R1.list hu gl;intro Q E q _;refine call_enumerate_list (isL_of l1) fun h' en li sz kp => ?_;have pr := R1.priv (X := []) (h' := h') (fun _ z => nomatch z) (fun b o _ z => kp b o z) (sz ▸ Nat.le_add_right _ 2)
  have sz1 := st1.size;have nl := lt_of_lt_of_le z.N.lt st1.size;refine q m1 _ _ pr.2 ⟨pr.1, _, _, rfl, Nat.le_succ_of_le sz1, sz1, ⟨own_new R1 (Nat.le_succ _) (sz ▸ Nat.lt_succ_self _), own_new R1 (Nat.le_refl _) (sz ▸ Nat.lt_succ_of_lt (Nat.lt_succ_self _)), Nat.ne_of_gt (Nat.lt_succ_of_lt nl), Nat.ne_of_gt nl, ?_⟩, en⟩;exact ⟨p', .none, e2, en, li, Nat.succ_ne_self _⟩
 ·rintro m1 u s1 st1 ⟨R1, b, j, rfl, l1, l2, X, en⟩;exact wpAny_pyIter_enum en (q m1 _ s1 st1 ⟨R1, b, j, rfl, l1, l2, X⟩)
end
noncomputable def tyName : V -> String
 | .ty t => t
 | _ => ""
theorem tyName_ok {f : V} {t : String} (h : tyName f = t) (ht : t ≠ "") : f = .ty t := by
 cases f with
 | ty n => rw [show n = t from h]
 | _ => exact absurd h.symm ht
noncomputable def iterPO (I : OI) (d : Nat) (e : En) (H : Hp) (x : Expr) : OM (It × Hp) := (I.ev d e H x).bind fun a => (iterO a.2 a.1).bind fun it => ret (it, a.2)
noncomputable def iterCO (I : OI) (d : Nat) (e : En) (H : Hp) (n : Str) (p : Pos) (x : Expr) (q : Pos) : OM (It × Hp) := (I.ev d e H (.Name n p)).bind fun f => match decide (tyName f.1 = "range") with
 | true => guardO (noStars [x]) ((I.ev d e f.2 x).bind fun a => onInt a.1 fun i => reqO (0 <= i /\ i < 1000000) (ret (.rng 0 i, a.2)))
 | false => match decide (tyName f.1 = "enumerate") with
  | true => guardO (noStars [x]) ((I.ev d e f.2 x).bind fun a => onRef a.1 fun r i => (getO a.2 r i).bind fun o => onL o fun _ => ret (.enm r i 0, a.2))
  | false => iterPO I d e H (.Call (.Name n p) [x] [] q)
noncomputable def iterEO (I : OI) (d : Nat) (e : En) (H : Hp) (x : Expr) : OM (It × Hp) := match x with
 | .Call f as ks q => match f with
  | .Name n p => match as with
   | [a] => match ks with
    | [] => iterCO I d e H n p a q
    | _ :: _ => OM.no
   | [] => iterPO I d e H (.Call (.Name n p) [] ks q)
   | _ :: _ :: _ => OM.no
  | f => iterPO I d e H (.Call f as ks q)
 | x => iterPO I d e H x
section
variable {B : Bs} (K : BOk B) {I : OI} (O : IOk B I) {d : Nat} {e : En} {H : Hp}
include K O
theorem iterPO_ok {x : Expr} : Says (iterPO I d e H x) (IterEJ B d e H x) := (O.ev d e H x).bind fun a h1 => (iterO_ok K).bind fun it h2 => Says.ret (iterEJ_plain h1 h2)
theorem iterCO_ok {n : Str} {p q : Pos} {x : Expr} : Says (iterCO I d e H n p x q) (IterEJ B d e H (.Call (.Name n p) [x] [] q)) := (O.ev d e H _).bind fun f h1 => by
 cases h2 : decide (tyName f.1 = "range") with
 | true => exact Says.guard fun hs => (O.ev d e f.2 x).bind fun a h3 => Says.onInt fun i hi => Says.req fun hl => Says.ret (iterEJ_range h1 (tyName_ok (of_decide_eq_true h2) (by decide)) hs h3 hi hl)
 | false =>
  cases h3 : decide (tyName f.1 = "enumerate") with
  | true => exact Says.guard fun hs => (O.ev d e f.2 x).bind fun a h4 => Says.onRef fun r i hr => Says.get fun o g => Says.onL fun xs ho => Says.ret (iterEJ_enum h1 (tyName_ok (of_decide_eq_true h3) (by decide)) hs h4 hr (g.trans ho))
  | false => exact iterPO_ok K O
theorem iterEO_ok {x : Expr} : Says (iterEO I d e H x) (IterEJ B d e H x) := by
 cases x with
 | Call f as ks q => cases f with
  | Name n p => cases as with
   | nil => exact iterPO_ok K O
   | cons a as => cases as with
    | nil => cases ks with
     | nil => exact iterCO_ok K O
     | cons _ _ => exact Says.no
    | cons _ _ => exact Says.no
  | _ => exact iterPO_ok K O
 | _ => exact iterPO_ok K O
end
end
section
open PySem.SeqAt PySem.Builtin.Str
def AppendJ (B : Bs) (H : Hp) (r i : Nat) (v : V) (H' : Hp) : Prop := ∀ m A s a u, Rel B m H s.heap -> VR m (.ref r i) a -> VR m v u -> Does B A [] (call (.builtin "list.append") [a, u]) m s (ValP B (.none, H'))
def DPutJ (B : Bs) (H : Hp) (r i : Nat) (k v : V) (H' : Hp) : Prop := ∀ m A s p y u, Rel B m H s.heap -> m r i = some p -> VR m k y -> VR m v u -> Does B A [] (dictSet p.1 y u) m s (fun m' _ s' => Rel B m' H' s'.heap)
section
variable {B : Bs} {A : Around} {env : Env} {m : Mp} {s s' : Shared} {H H' : Hp} {d : Nat} {e e' : En}
theorem list_changed {r i : Nat} {xs : List V} {p : Nat × Nat} {us : Array Value} {n : Nat} {ys : List V} {f : Array Value -> Array Value} (R : Rel B m H s.heap) (g : H.get r i = some (.list xs)) (e : m r i = some p) (l : IsL s.heap p.1 us n) (r0 : r ≠ 0)
  (hv : VRs m ys (f us).toList) : Rel B m (H.upd r i (.list ys)) (s.heap.update p.1 (Obj.mapSeq f)) /\ Step B [] m s.heap m (s.heap.update p.1 (Obj.mapSeq f)) :=
 R.write1 (o := .list ys) g r0 e (Heap.SameBut.update ..) ⟨_, _, l.update f, hv⟩
theorem dropLast_erase {α : Type} (us : Array α) : (us.eraseIdxIfInBounds (us.size - 1)).toList = us.toList.dropLast := by
 rcases Nat.eq_zero_or_pos us.size with h | h
 ·obtain rfl := Array.eq_empty_of_size_eq_zero h; rfl
 ·unfold Array.eraseIdxIfInBounds;rw [dif_pos (Nat.sub_lt h (Nat.succ_pos 0)), Array.toList_eraseIdx, List.eraseIdx_eq_dropLast];rw [Array.length_toList]; exact Nat.sub_add_cancel h
theorem VRs.dropLast {m : Mp} {xs : List V} {us : List Value} (h : VRs m xs us) : VRs m xs.dropLast us.dropLast := by
 rw [List.dropLast_eq_take, List.dropLast_eq_take, h.length];exact h.take _
end
noncomputable def appendO (H : Hp) (r i : Nat) (v : V) : OM Hp := (getO H r i).bind fun o => onL o fun xs => reqO (xs.length < limN) (setO H r i (.list (xs ++ [v])))
theorem appendO_ok {B : Bs} {H : Hp} {r i : Nat} {v : V} : Says (appendO H r i v) (AppendJ B H r i v) := by
 refine Says.get fun o g => Says.onL fun xs e => Says.req fun hl => Says.set fun r0 => ?_;intro m A s a u R ha hv;obtain ⟨p, us, n, e1, rfl, l1, v1⟩ := R.list ha (g.trans e);have hz := v1.size;have hsz : us.size <= sizeLine := lim_line (hz ▸ Nat.le_of_lt hl);have ch := list_changed (ys := xs ++ [v]) (f := (·.push u)) R (g.trans e) e1 l1 r0 (by rw [Array.toList_push]; exact v1.append ⟨hv, trivial⟩)
 refine Does.wp (s' := { s with heap := s.heap.update p.1 (Obj.mapSeq (·.push u)) }) (fun Q E q => ?_) ch.2 ⟨ch.1, rfl⟩
 refine wpAny_call_entry slot_list_append (isL_of l1).typeIs entry_list_append ?_ (args_list_append _ _);show wpAny _ _ (updateSeq p.1 (·.push u) >>= fun _ => PySem.ret .none) _ _ s
 exact wpAny_bind (wpAny_updateSeq l1 rfl (wpAny_pure ⟨.none, rfl, q⟩) (hz := hsz) (_hz' := by rw [Array.size_push]; exact Nat.succ_le_succ hsz))
noncomputable def dictPutO (H : Hp) (r i : Nat) (k v : V) : OM Hp := (getO H r i).bind fun o => onD o fun es => reqO (es.length < limN) ((askO Ans.k? (keyV k)).bind fun q => setO H r i (.dict (putD q k v es)))
theorem dictPutO_ok {B : Bs} (K : BOk B) {H : Hp} {r i : Nat} {k v : V} : Says (dictPutO H r i k v) (DPutJ B H r i k v) := by
 refine Says.get fun o g => Says.onD fun es e => Says.req fun hz => Says.bind (F := fun q => keyV k = some q) (Says.askO fun _ h => h) fun q hk => Says.set fun r0 => ?_;intro m A s p y u R e1 hy hv Q E z _;obtain ⟨p', kvs, e2, e3, D, dr, hs⟩ := R.dict K (u := .ref p.1) ⟨p, e1, rfl⟩ (g.trans e);rw [e1] at e2; cases e2;refine dictSet_at (key_is hk hy) D (fun h' hd hs => ?_) (by rw [dr.length]; exact lim_line (Nat.le_of_lt hz))
 have wr := R.write1 (o := .dict (putD q k v es)) (g.trans e) r0 e1 hs ⟨_, hd, putD_ok hk hv dr D.nodup⟩;exact z m () _ wr.2 wr.1
noncomputable def testsO (I : OI) (d : Nat) (e : En) (H : Hp) (ifs : List Expr) : OM (Bool × Hp) := match ifs with
 | [] => ret (true, H)
 | c :: r => match r with
  | [] => I.ts d e H c
  | _ :: _ => OM.no
theorem testsO_ok {B : Bs} {I : OI} (O : IOk B I) {d : Nat} {e : En} {H : Hp} {ifs : List Expr} : Says (testsO I d e H ifs) (fun r => ∀ m A env s, At B d e H m A env s -> Does B A [] (testsOf ifs env) m s (BoolP B r)) := by
 cases ifs with
 | nil => exact Says.ret fun m A env s z Q E q => wpAny_tests_nil (q m true s (Step.refl ..) ⟨z.R, rfl⟩)
 | cons c l => cases l with
  | nil => exact (O.ts d e H c).mono fun r h m A env s z Q E q => wpAny_tests_one (h m A env s z Q E q)
  | cons _ _ => exact Says.no
def EmitJ (B : Bs) (d : Nat) (e : En) (H : Hp) (elt : Expr ⊕ (Expr × Expr)) (r i : Nat) (H' : Hp) : Prop := match elt with
 | .inl x => ∃ p, EvJ B d e H x p /\ AppendJ B p.2 r i p.1 H'
 | .inr kx => ∃ p q, EvJ B d e H kx.1 p /\ EvJ B d e p.2 kx.2 q /\ DPutJ B q.2 r i p.1 q.1 H'
noncomputable def emitO (I : OI) (d : Nat) (e : En) (H : Hp) (elt : Expr ⊕ (Expr × Expr)) (r i : Nat) : OM Hp := match elt with
 | .inl x => (I.ev d e H x).bind fun p => appendO p.2 r i p.1
 | .inr kx => (I.ev d e H kx.1).bind fun p => (I.ev d e p.2 kx.2).bind fun q => dictPutO q.2 r i p.1 q.1
theorem emitO_ok {B : Bs} (K : BOk B) {I : OI} (O : IOk B I) {d : Nat} {e : En} {H : Hp} {elt : Expr ⊕ (Expr × Expr)} {r i : Nat} : Says (emitO I d e H elt r i) (EmitJ B d e H elt r i) := by
 cases elt with
 | inl x => exact (O.ev d e H x).bind fun p h1 => appendO_ok.mono fun _ h2 => ⟨p, h1, h2⟩
 | inr kx => exact (O.ev d e H kx.1).bind fun p h1 => (O.ev d e p.2 kx.2).bind fun q h2 => (dictPutO_ok K).mono fun _ h3 => ⟨p, q, h1, h2, h3⟩
section
variable {B : Bs} {d : Nat} {e : En} {H : Hp} {elt : Expr ⊕ (Expr × Expr)} {g : Comprehension} {it it' : It} {r i : Nat} {q : En × Hp}
theorem coJ_end {H' : Hp} (h1 : NextJ B H g.target it (none, H')) : CoJ B d e H elt g it r i (e, H') := fun m A env s a j p scope pos z X hp hg Rr w => by
 obtain ⟨target, iter, ifs, as⟩ := g;obtain rfl : as = 0 := hg;have fin : ∀ m1 s1, Step B [a, j] m s.heap m1 s1.heap -> Rel B m1 H' s1.heap -> [Sam B s1] -> Rr (.ok .next) s1 := fun m1 s1 st1 R1 => w m1 s1 (st1.wide fun _ => mem_cons_of_mem _) ⟨R1, z.N.stepX z.R st1 (notIn X)⟩;intro _;cases elt with
 | inl x => exact comp_turn_list fun E => h1 m A s a j _ z.R z.rm.zero X _ _ E (fun _ m1 s1 st1 R1 => fin m1 s1 st1 R1) (fun _ _ e1 => nomatch e1)
 | inr kx => exact comp_turn_dict fun E => h1 m A s a j _ z.R z.rm.zero X _ _ E (fun _ m1 s1 st1 R1 => fin m1 s1 st1 R1) (fun _ _ e1 => nomatch e1)
theorem coJ_turn {v : V} {H1 : Hp} {y : En × Hp} {ok : Bool × Hp} (h1 : NextJ B H g.target it (some (v, it'), H1)) (h2 : AssJ B d e H1 g.target v y) (h3 : ∀ m A env s, At B d y.1 y.2 m A env s -> Does B A [] (testsOf g.ifs env) m s (BoolP B ok))
  (h4 : if ok.1 = true then ∃ H2, EmitJ B d y.1 ok.2 elt r i H2 /\ CoJ B d y.1 H2 elt g it' r i q else CoJ B d y.1 ok.2 elt g it' r i q) : CoJ B d e H elt g it r i q := fun m A env s a j p scope pos z X hp hg Rr w => by
 obtain ⟨target, iter, ifs, as⟩ := g;obtain rfl : as = 0 := hg;have again : ∀ m1 s1 H3, Step B [(env.locals : Nat), a, j] m s.heap m1 s1.heap -> At B d y.1 H3 m1 A env s1 -> ItOk B env.locals m1 s1.heap a j it' -> CoJ B d y.1 H3 elt ⟨target, iter, ifs, 0⟩ it' r i q -> [Sam B s1] ->
   codeAny (model B.prog B.w) A (.compLoop (compE elt [⟨target, iter, ifs, 0⟩] scope pos) 0 (.ref a) (.ref p.1) env) Rr s1 := fun m1 s1 H3 st z1 X1 h =>
  h m1 A env s1 a j p scope pos z1 X1 (st.le _ _ _ hp) rfl _ fun m2 s2 st2 p2 => w m2 s2 (st.trans st2) p2
 have n0 : ∀ {b : Nat}, b ∉ ([] : List Nat) := fun z => nomatch z
 have start : ∀ (K : Bool -> Shared -> Prop) E m1 u s1, Step B [a, j] m s.heap m1 s1.heap -> Rel B m1 H1 s1.heap -> VR m1 v u -> ItOk B env.locals m1 s1.heap a j it' ->
   (∀ m3 s3, Step B [(env.locals : Nat), a, j] m s.heap m3 s3.heap -> At B d y.1 ok.2 m3 A env s3 -> ItOk B env.locals m3 s3.heap a j it' -> [Sam B s3] -> K ok.1 s3) -> [Sam B s1] ->
   wpAny (model B.prog B.w) A (assign target env u) (fun _ s₂ => wpAny (model B.prog B.w) A (testsOf ifs env) (fun c s₃ => K c s₃) E s₂) E s1 := fun K E m1 u s1 st1 R1 v1 X1 k =>
  h2 m1 A env s1 u ⟨R1, z.N.stepX z.R st1 (notIn X), z.rm⟩ v1 _ E fun m2 _ s2 st2 p2 => h3 m2 A env s2 ⟨p2.1, p2.2, z.rm⟩ _ E fun m3 c s3 st3 p3 =>
   p3.2 ▸ k m3 s3 (((st1.wide fun _ => mem_cons_of_mem _).trans (st2.wide fun _ => mem_one)).trans st3.nil) ⟨p3.1, p2.2.step p2.1 st3, z.rm⟩ ((X1.step R1 st2 (not_one X.na) (not_one X.nj)).step p2.1 st3 n0 n0)
 intro _;cases elt with
 | inl x =>
  refine comp_turn_list fun E => h1 m A s a j _ z.R z.rm.zero X _ _ E (fun e1 => nomatch e1) fun v' it'' e1 m1 u s1 st1 R1 v1 X1 => ?_
  intro _;cases e1;refine start _ E m1 u s1 st1 R1 v1 X1 fun m3 s3 st z3 X3 => ?_;intro _;by_cases hok : ok.1 = true
  ·rw [if_pos hok] at h4 ⊢;obtain ⟨H5, ⟨p4, h5, h6⟩, h7⟩ := h4;refine h5 m3 A env s3 z3 _ E fun m4 u4 s4 st4 p4' => ?_;intro _;refine h6 m4 A s4 _ u4 p4'.1 ⟨p, st4.le _ _ _ (st.le _ _ _ hp), rfl⟩ p4'.2 _ E fun m5 u5 s5 st5 p5 => ?_;intro _;exact again m5 s5 H5 ((st.trans st4.nil).trans st5.nil) ((z3.step st4 p4'.1).step st5 p5.1) ((X3.step z3.R st4 n0 n0).step p4'.1 st5 n0 n0) h7
  ·rw [if_neg hok] at h4 ⊢; exact again m3 s3 _ st z3 X3 h4
 | inr kx =>
  refine comp_turn_dict fun E => h1 m A s a j _ z.R z.rm.zero X _ _ E (fun e1 => nomatch e1) fun v' it'' e1 m1 u s1 st1 R1 v1 X1 => ?_
  intro _;cases e1;refine start _ E m1 u s1 st1 R1 v1 X1 fun m3 s3 st z3 X3 => ?_;intro _;by_cases hok : ok.1 = true
  ·rw [if_pos hok] at h4 ⊢;obtain ⟨H6, ⟨p4, p5, h5, h5', h6⟩, h7⟩ := h4;refine h5 m3 A env s3 z3 _ E fun m4 u4 s4 st4 p4' => ?_;intro _;refine h5' m4 A env s4 (z3.step st4 p4'.1) _ E fun m5 u5 s5 st5 p5' => ?_;intro _;refine h6 m5 A s5 p u4 u5 p5'.1 (st5.le _ _ _ (st4.le _ _ _ (st.le _ _ _ hp))) (p4'.2.mono st5.le) p5'.2 _ E fun m6 _ s6 st6 R6 => ?_;intro _;exact again m6 s6 H6 (((st.trans st4.nil).trans st5.nil).trans st6.nil) (((z3.step st4 p4'.1).step st5 p5'.1).step st6 R6) (((X3.step z3.R st4 n0 n0).step p4'.1 st5 n0 n0).step p5'.1 st6 n0 n0) h7
  ·rw [if_neg hok] at h4 ⊢; exact again m3 s3 _ st z3 X3 h4
end
noncomputable def coO (I : OI) (d : Nat) (e : En) (H : Hp) (elt : Expr ⊕ (Expr × Expr)) (g : Comprehension) (it : It) (r i : Nat) : OM (En × Hp) := (nextO H g.target it).bind fun x => match x.1 with
 | none => ret (e, x.2)
 | some v => (assO I d e x.2 g.target v.1).bind fun y => (testsO I d y.1 y.2 g.ifs).bind fun z => match z.1 with
  | true => (emitO I d y.1 z.2 elt r i).bind fun H => I.co d y.1 H elt g v.2 r i
  | false => I.co d y.1 z.2 elt g v.2 r i
theorem coO_ok {B : Bs} (K : BOk B) {I : OI} (O : IOk B I) {d : Nat} {e : En} {H : Hp} {elt : Expr ⊕ (Expr × Expr)} {g : Comprehension} {it : It} {r i : Nat} : Says (coO I d e H elt g it r i) (CoJ B d e H elt g it r i) := (nextO_ok K).bind fun x h1 => by
 obtain ⟨x, H1⟩ := x;cases x with
 | none => exact Says.ret (coJ_end h1)
 | some v =>
  refine (assO_ok K O).bind fun y h2 => (testsO_ok O).bind fun z h3 => ?_;obtain ⟨c, H3⟩ := z;cases c with
  | true => exact (emitO_ok K O).bind fun H2 h4 => (O.co _ _ _ _ _ _ _ _).mono fun q h5 => coJ_turn h1 h2 h3 (by rw [if_pos rfl]; exact ⟨H2, h4, h5⟩)
  | false => exact (O.co _ _ _ _ _ _ _ _).mono fun q h5 => coJ_turn h1 h2 h3 (by rw [if_neg nofun]; exact h5)
end
section
open PySem.SeqAt PySem.Builtin.Str
theorem CVs.lookup {m : Mp} : ∀ {cl : List (Str × Nat × Nat)} {cl' : List (Str × Nat)}, CVs m cl cl' -> ∀ {x : Str} {p : Nat × Nat}, cl.lookup x = some p -> ∃ q, m p.1 p.2 = some q /\ cl'.lookup x = some q.1
 | [], [], _, _, _, h => by cases h
 | a :: cl, b :: cl', ⟨⟨e, p', e1, e2⟩, r⟩, x, p, h => by
  rw [List.lookup_cons] at h ⊢;rw [<- e];cases q : x == a.1 with
  | true => rw [q] at h; cases h; exact ⟨p', e1, by rw [e2]⟩
  | false => rw [q] at h; exact CVs.lookup r h
 | [], _ :: _, h, _, _, _ => h.elim
 | _ :: _, [], h, _, _, _ => h.elim
noncomputable def closeGo (e : En) : List (Str × NameKind) -> List (Str × Nat × Nat) -> Option (List (Str × Nat × Nat))
 | [], acc => some acc
 | x :: r, acc => match x.2 == .free with
  | true => (lk e.cel x.1).bind fun p => closeGo e r ((x.1, p) :: acc)
  | false => closeGo e r acc
noncomputable def closeOver (e : En) (scope : Scope) : Option (List (Str × Nat × Nat)) := closeGo e scope.names []
section
variable {B : Bs} {A : Around} {env : Env} {m : Mp} {s s' : Shared} {H H' : Hp} {d : Nat} {e e' : En}
theorem closure_go {h : Heap} (N : EnvOk B m e env h) : ∀ (names : List (Str × NameKind)) (acc : List (Str × Nat × Nat)) (acc' : List (Str × Nat)) {cl : List (Str × Nat × Nat)}, CVs m acc acc' -> closeGo e names acc = some cl ->
  ∃ cl', (forIn names acc' (fun (x : Str × NameKind) (cs : List (Str × Addr)) => if (x.2 == NameKind.free) = true then (cellOf env x.1 >>= fun a => pure (ForInStep.yield ((x.1, a) :: cs))) else (pure (ForInStep.yield cs) : Sem _)) : Sem (List (Str × Addr))) = pure cl' /\ CVs m cl cl'
 | [], acc, acc', cl, c, hf => ⟨acc', rfl, by rw [<- Option.some.inj hf]; exact c⟩
 | x :: r, acc, acc', cl, c, hf => by
  rw [List.forIn_cons];unfold closeGo at hf;cases hk : x.2 == NameKind.free with
  | true =>
   rw [hk] at hf;rw [if_pos rfl];obtain ⟨p, q, hf⟩ := bnd hf;obtain ⟨u, u1, u2⟩ := N.cel x.1 p q;have hc : cellOf env x.1 = pure u.1 := by unfold cellOf; rw [u2]
   rw [hc];exact closure_go N r ((x.1, p) :: acc) ((x.1, u.1) :: acc') ⟨⟨rfl, u, u1, rfl⟩, c⟩ hf
  | false =>
   rw [hk] at hf;rw [if_neg nofun]
   exact closure_go N r acc acc' c hf
theorem closure_ok {h : Heap} (N : EnvOk B m e env h) {scope : Scope} {cl : List (Str × Nat × Nat)} (hc : closeOver e scope = some cl) : ∃ cl', closureFor scope env = pure cl' /\ CVs m cl cl' := by
 obtain ⟨cl', a, b⟩ := closure_go N scope.names [] [] trivial hc;exact ⟨cl', congrArg (fun t : Sem (List (Str × Addr)) => t >>= fun cs => pure cs) a, b⟩
noncomputable def compNames (e : En) (scope : Scope) : List (Str × NameKind) := scope.names.map fun (n, k) => if k = .free /\ lk e.names n = some .cell then (n, .cell) else (n, k)
theorem compNames_eq (N : e.names = env.scope.names /\ env.scope.kind = .function) (scope : Scope) : (relabel scope env).names = compNames e scope := by
 unfold relabel compNames;dsimp only;refine List.map_congr_left fun x _ => ?_;obtain ⟨n, k⟩ := x;dsimp only;have e1 : (k == NameKind.free && env.scope.kind == .function && env.kindOf n == some .cell) = decide (k = .free /\ lk e.names n = some .cell) := by
  rw [N.2, N.1];show (k == NameKind.free && (ScopeKind.function == ScopeKind.function) && (env.scope.names.lookup n == some .cell)) = decide (k = .free /\ env.scope.names.lookup n = some .cell);by_cases h1 : k = .free <;> by_cases h2 : env.scope.names.lookup n = some NameKind.cell <;> simp [h1, h2]
 rw [e1];by_cases h : k = .free /\ lk e.names n = some .cell
 ·rw [if_pos (decide_eq_true h), if_pos h]
 ·rw [if_neg (by simpa using h), if_neg h]
end
noncomputable def newAccOf (elt : Expr ⊕ (Expr × Expr)) : Sem Value := match elt with
 | .inl _ => newList []
 | .inr _ => newDict
noncomputable def accO (elt : Expr ⊕ (Expr × Expr)) : O := match elt with
 | .inl _ => .list []
 | .inr _ => .dict []
theorem dict_empty {B : Bs} {h : Heap} {a : Nat} (z : h.get? a = some { cls := .type "dict", data := .dict #[] }) : h.DictAt (uKind B.prog B.w) a [] ([] : List (Key × Value)).length := ⟨_, #[], z, ⟨rfl, rfl, rfl⟩, rfl, fun _ he => by simp at he, Pairs.nil, List.nodup_nil⟩
theorem acc_ok {B : Bs} {A : Around} {m : Mp} {s : Shared} {H : Hp} {elt : Expr ⊕ (Expr × Expr)} (R : Rel B m H s.heap) : Does B A [] (newAccOf elt) m s (ValP B (.ref H.reg H.nxt, H.push (accO elt))) := by
 cases elt with
 | inl x => exact val_push (ob := { cls := .type "list", data := .seq #[] }) (k := s.toks) R (fun Q E q => wpAny_newObj_type q) fun m' l => ⟨#[], 0, push_self rfl, trivial⟩
 | inr x => exact val_push (ob := { cls := .type "dict", data := .dict #[] }) (k := s.toks) R (fun Q E q => wpAny_newObj_type q) fun m' l => ⟨[], dict_empty (push_self rfl), trivial⟩
def CompJ (B : Bs) (d : Nat) (e : En) (H : Hp) (elt : Expr ⊕ (Expr × Expr)) (gens : List Comprehension) (scope : Scope) (r : V × Hp) : Prop := ∀ m A env s, At B d e H m A env s -> ∀ (pos : Pos) (use : Option (Value -> Sem Unit)) (Q : Value -> Shared -> Prop) (E : Value -> Shared -> Prop) (ps : Pos),
  (∀ m2 s2 acc (C : Nat), Step B [] m s.heap m2 s2.heap -> ValP B r m2 acc s2 -> Own B m2 s2.heap C -> s.heap.objs.size <= C -> (∃ f, s2.heap.Ns C f) -> [Sam B s2] -> compPost (model B.prog B.w) A E use Q acc C (.ok .next) s2) -> [Sam B s] ->
  wpAny (model B.prog B.w) A (comprehension (compE elt gens scope ps) scope env pos (newAccOf elt) (firstAsync gens) (firstIter gens env) use) Q E s
noncomputable def isSetE : Expr -> Bool
 | .Set .. => true
 | _ => false
theorem not_set {x : Expr} (h : (!isSetE x) = true) (env : Env) (v : Value) : foldedSetIterable x env v = pure v := by
 cases x <;> first | rfl | cases h
noncomputable def compScope (scope : Scope) : Bool := scope.kind == .function && scope.names.all (fun x => x.2 != .cell) && scope.names.all (fun x => x.2 != .local || scope.names.lookup x.1 == some .local)
theorem compScope_ok {scope : Scope} (h : compScope scope = true) : scope.kind = .function /\ (∀ x ∈ scope.names, x.2 ≠ .cell) /\ (∀ x ∈ scope.names, x.2 = .local -> scope.names.lookup x.1 = some .local) := by
 unfold compScope at h;rw [Bool.and_eq_true, Bool.and_eq_true, List.all_eq_true, List.all_eq_true] at h;refine ⟨eq_of_beq h.1.1, fun x hx => bne_iff_ne.mp (h.1.2 x hx), fun x hx e => ?_⟩;have := h.2 x hx;rw [e] at this;exact eq_of_beq this
section
variable {B : Bs} {d : Nat} {e : En} {H : Hp}
theorem compJ_of {elt : Expr ⊕ (Expr × Expr)} {target iter : Expr} {ifs : List Expr} {scope : Scope} {it : It × Hp} {cl : List (Str × Nat × Nat)} {q5 : En × Hp} (hset : (!isSetE iter) = true) (hsc : compScope scope = true) (h1 : IterEJ B d e H iter it) (h2 : closeOver e scope = some cl)
  (h3 : CoJ B d ⟨[], cl, compNames e scope, e.qual⟩ (it.2.push (accO elt)) elt ⟨target, iter, ifs, 0⟩ it.1 it.2.reg it.2.nxt q5) : CompJ B d e H elt [⟨target, iter, ifs, 0⟩] scope (.ref it.2.reg it.2.nxt, q5.2) := fun m A env s zz pos use Q E ps hP => by
 have z := zz;obtain ⟨it, H1⟩ := it;obtain ⟨hk, hcell, hloc⟩ := compScope_ok hsc;obtain ⟨cl', c1, c2⟩ := closure_ok z.N h2;have hclauses : clausesOf (compE elt [⟨target, iter, ifs, 0⟩] scope ps) = [⟨target, iter, ifs, 0⟩] := by cases elt <;> rfl
 rw [show firstAsync [(⟨target, iter, ifs, 0⟩ : Comprehension)] = false from rfl]
 intro _;refine wpAny_comprehension_free hclauses (not_set hset env) c1 hk hloc ?_;show wpAny _ A (eval iter env) _ E s;refine h1 m A env s z _ E fun m1 u s1 st1 p1 => ?_;intro _;obtain ⟨R1, a, j, rfl, l1, l2, X⟩ := p1;refine acc_ok R1 _ E fun m2 acc s2 st2 p2 => ?_;intro _;obtain ⟨R2, v2⟩ := p2;have X2 := X.step R1 st2 (fun z => nomatch z) (fun z => nomatch z)
 obtain ⟨pa, pa1, rfl⟩ := v2;refine wpAny_newFunctionEnv hcell (fun x z => nomatch z) (fun h3' hn3 hs3 => ?_) hk
 -- the block's own names
 have hold : ∀ (b : Nat) o, s2.heap.get? b = some o -> h3'.get? b = some o := fun b o z => hs3.extBut b o (Nat.ne_of_lt (ltZ z)) (push_old _ b o z);have hsz : h3'.objs.size = s2.heap.objs.size + 1 := by rw [hs3.1, objs_size]
 have pr := R2.priv (X := []) (h' := h3') (fun _ z => nomatch z) (fun b o _ z => hold b o z) (by rw [hsz]; exact Nat.le_succ _)
 generalize hcenv : ({ newEnv scope s2.heap.objs.size env.globals cl' env.qual none .none (some env) builtinsNs with scope := relabel scope env } : Env) = cenv
 have e_loc : cenv.locals = s2.heap.objs.size := by subst hcenv; rfl
 have e_scope : cenv.scope = relabel scope env := by subst hcenv; rfl
 have e_cells : cenv.cells = cl' := by subst hcenv; rfl
 have e_glob : cenv.globals = env.globals := by subst hcenv; rfl
 have e_blt : cenv.builtins = env.builtins := by subst hcenv; rfl
 have e_qual : cenv.qual = env.qual := by subst hcenv; rfl
 have e_code : cenv.code = env.code := by subst hcenv; rfl
 have st02 := (st1.trans st2).trans pr.2;have Nc : EnvOk B m2 ⟨[], cl, compNames e scope, e.qual⟩ cenv h3' := by
  refine ⟨by rw [e_scope]; exact hk, by rw [e_scope]; exact compNames_eq ⟨z.N.names.symm, z.N.kind⟩ scope, ⟨_, by rw [e_loc]; exact hn3, fun x v z => by cases z⟩, by rw [e_loc]; exact R2.np_new (Nat.le_refl _), ?_, ?_, by rw [e_glob]; exact z.N.globals, by rw [e_blt]; exact z.N.builtins, by rw [e_qual]; exact z.N.qual, ?_⟩
  ·rw [e_loc]; exact R2.size
  ·intro x p z;rw [e_cells];exact CVs.lookup (c2.mono (st1.trans st2).le) z
  ·intro q z;rw [e_code];exact zz.N.code q z
 have Xc : ItOk B cenv.locals m2 h3' a j it := by
  have X3 := X2.step R2 pr.2 (fun z => nomatch z) (fun z => nomatch z)
  have la := X2.oa.lt;have lj := X2.oj.lt;exact ⟨X3.oa, X3.oj, by rw [e_loc]; exact Nat.ne_of_lt la, by rw [e_loc]; exact Nat.ne_of_lt lj, X3.ir⟩
 have loop : ∀ s3 : Shared, s3.heap = h3' -> [Sam B s3] -> codeAny (model B.prog B.w) A (.compLoop (compE elt [⟨target, iter, ifs, 0⟩] scope ps) 0 (.ref a) (.ref pa.1) cenv) (compPost (model B.prog B.w) A E use Q (.ref pa.1) s2.heap.objs.size) s3 := by
  intro s3 e3 _;refine h3 m2 A cenv s3 a j pa scope ps ⟨by rw [e3]; exact pr.1, by rw [e3]; exact Nc, z.rm⟩ (by rw [e3]; exact Xc) pa1 rfl _ fun m4 s4 st4 p4 => ?_
  intro _;obtain ⟨R4, N4⟩ := p4;rw [e3] at st4;have st5 : Step B [] m s.heap m4 s4.heap := by
   have z := (st02.nil (Y := [(cenv.locals : Nat), a, j])).trans st4;refine Step.narrow (X := []) (Y := [(cenv.locals : Nat), a, j]) z fun b hb => ?_;have q1 := st1.size;have q2 := st2.size;rcases List.mem_cons.mp hb with hb | hb
   ·have hb : b = s2.heap.objs.size := by rw [hb, e_loc]
    omega
   ·rcases List.mem_cons.mp hb with rfl | hb
    ·exact l1
    ·rw [List.mem_singleton] at hb; subst hb; exact l2
  refine hP m4 s4 (.ref pa.1) s2.heap.objs.size st5 ⟨R4, ⟨pa, st4.le _ _ _ pa1, rfl⟩⟩ ?_ (le_trans st1.size st2.size) ?_
  ·have := N4.own; rw [e_loc] at this; exact this
  ·obtain ⟨f, hf, _⟩ := N4.loc;exact ⟨f, by rw [e_loc] at hf; exact hf⟩
 have self : ∀ (Q : Value -> Shared -> Prop) (E : Value -> Shared -> Prop) (s3 : Shared), s3.heap = h3' -> Q (.ref a) s3 -> wpAny (model B.prog B.w) A (pyIter (.ref a)) Q E s3 := by
  intro Q E s3 e3 q;have ir := Xc.ir;rw [<- e3] at ir;cases it with
  | lst r i n => obtain ⟨p, _, ir⟩ := ir; exact wpAny_pyIter_listiter ir q
  | tup r i n => obtain ⟨p, _, ir⟩ := ir; exact wpAny_pyIter_tupleiter ir q
  | keys r i n l => obtain ⟨p, _, ir⟩ := ir; exact wpAny_pyIter_keyiter ir q
  | rng n l => exact wpAny_pyIter_rangeiter ir q
  | enm r i n => obtain ⟨p, old, _, ir, _⟩ := ir; exact wpAny_pyIter_enum ir q
  | sgn l =>
   obtain ⟨x, t, n, ir, _⟩ := ir;unfold strIterType at ir;split at ir
   ·exact wpAny_pyIter_striter_ascii ir q
   ·exact wpAny_pyIter_striter_wide ir q
 cases elt with
 | inl x => exact codeAny_compStart_list (loop _ rfl) (self _ _ _ rfl (loop _ rfl))
 | inr kx => exact codeAny_compStart_dict (loop _ rfl) (self _ _ _ rfl (loop _ rfl))
theorem comp_end {m m2 : Mp} {s : Shared} {s2 : Shared} {C : Nat} {r : V × Hp} {acc : Value} {h' : Heap} (st : Step B [] m s.heap m2 s2.heap) (p : ValP B r m2 acc s2) (own : Own B m2 s2.heap C) (hC : s.heap.objs.size <= C) (hs : Heap.SameBut C s2.heap h') : Rel B m2 r.2 h' /\ Step B [] m s.heap m2 h' := by
 have pr := p.1.priv1 own.np own.low hs;exact ⟨pr.1, Step.narrow (X := []) (Y := [C]) ((st.nil (Y := [C])).trans pr.2) fun b hb => by rw [List.mem_singleton] at hb; subst hb; exact hC⟩
theorem evJ_comp {elt : Expr ⊕ (Expr × Expr)} {gens : List Comprehension} {scope : Scope} {ps : Pos} {r : V × Hp} (h : CompJ B d e H elt gens scope r) : EvJ B d e H (compE elt gens scope ps) r := fun m A env s z => by
 have e1 : eval (compE elt gens scope ps) env = comprehension (compE elt gens scope ps) scope env (firstIterPos gens ps) (newAccOf elt) (firstAsync gens) (firstIter gens env) none := by
  cases elt <;> rfl
 rw [e1];intro Q E q _;refine h m A env s z _ _ _ _ _ fun m2 s2 acc C st p own hC hf => ?_;intro _;obtain ⟨f, hf⟩ := hf;refine ⟨f, hf, fun h' hs => ?_⟩;have k := comp_end st p own hC hs;exact q m2 acc _ k.2 ⟨k.1, p.2⟩
theorem us_comp {elt : Expr ⊕ (Expr × Expr)} {gens : List Comprehension} {scope : Scope} {ps : Pos} {r : V × Hp} (h : CompJ B d e H elt gens scope r) {m : Mp} {A : Around} {env : Env} {s : Shared} (z : At B d e H m A env s) {k : Value -> Sem Unit} {y : En × Hp}
  (hk : ∀ m1 u s1, Step B [] m s.heap m1 s1.heap -> ValP B r m1 u s1 -> Does B A [env.locals] (k u) m1 s1 (EnvP B env y)) : Does B A [env.locals] (evalThenUse (compE elt gens scope ps) env k) m s (EnvP B env y) := by
 have e1 : evalThenUse (compE elt gens scope ps) env k = (comprehension (compE elt gens scope ps) scope env (firstIterPos gens ps) (newAccOf elt) (firstAsync gens) (firstIter gens env) (some k) >>= fun _ => pure ()) := by
  cases elt <;> rfl
 rw [e1];intro Q E q _;refine wpAny_bind (h m A env s z _ _ _ _ _ fun m2 s2 acc C st p own hC hf => ?_);intro _;show wpAny _ A (k acc) _ E s2;obtain ⟨f, hf⟩ := hf;have nC : C ≠ env.locals := Nat.ne_of_gt (lt_of_lt_of_le z.N.lt hC);refine hk m2 acc s2 st p _ E fun m3 _ s3 st3 p3 => ?_;intro _;have own3 := own.step st3;have hf3 : s3.heap.Ns C f := Ns_keep hf fun o z => st3.keep C o (p.1.notTab own.low) (not_one nC) own.np z;refine ⟨f, hf3, fun h' hs => wpAny_pure ?_⟩;have pr := p3.1.priv1 own3.np own3.low hs;refine q m3 () _ ?_ ⟨pr.1, p3.2.stepX p3.1 pr.2 (fun w => nC (List.mem_singleton.mp w).symm)⟩;have st4 : Step B ([(env.locals : Nat)] ++ [C]) m s.heap m3 h' := ((st.nil (Y := [(env.locals : Nat)] ++ [C])).trans (st3.wide fun b hb => List.mem_append_left _ hb)).trans (pr.2.wide fun b hb => List.mem_append_right _ hb);exact Step.narrow (X := [(env.locals : Nat)]) (Y := [C]) st4 fun b hb => by rw [List.mem_singleton] at hb; subst hb; exact hC
end
noncomputable def compO (I : OI) (d : Nat) (e : En) (H : Hp) (elt : Expr ⊕ (Expr × Expr)) (gens : List Comprehension) (scope : Scope) : OM (V × Hp) := match gens with
 | [] => OM.no
 | g :: gs => match gs with
  | _ :: _ => OM.no
  | [] => guardO (g.is_async == 0 && !isSetE g.iter && compScope scope) ((iterEO I d e H g.iter).bind fun it => liftO (closeOver e scope) fun cl => (newO it.2 (accO elt)).bind fun acc => (I.co d ⟨[], cl, compNames e scope, e.qual⟩ acc.2 elt g it.1 it.2.reg it.2.nxt).bind fun q => ret (acc.1, q.2))
theorem compO_ok {B : Bs} (K : BOk B) {I : OI} (O : IOk B I) {d : Nat} {e : En} {H : Hp} {elt : Expr ⊕ (Expr × Expr)} {gens : List Comprehension} {scope : Scope} : Says (compO I d e H elt gens scope) (CompJ B d e H elt gens scope) := by
 cases gens with
 | nil => exact Says.no
 | cons g gs => cases gs with
  | cons _ _ => exact Says.no
  | nil =>
   refine Says.guard fun hg => (iterEO_ok K O).bind fun it h1 => Says.lift fun cl h2 => Says.bind (F := fun acc => acc = (V.ref it.2.reg it.2.nxt, it.2.push (accO elt))) (Says.new rfl) fun acc ha => ?_;subst ha;rw [Bool.and_eq_true, Bool.and_eq_true] at hg;obtain ⟨target, iter, ifs, as⟩ := g;obtain rfl : as = 0 := eq_of_beq hg.1.1;exact (O.co _ _ _ _ _ _ _ _).bind fun q h3 => Says.ret (compJ_of hg.1.2 hg.2 h1 h2 h3)
end
section
open PySem.SeqAt PySem.Builtin.Str
noncomputable def plainArgs (a : Arguments) : Bool := a.posonlyargs.isEmpty && a.vararg.isNone && a.kwonlyargs.isEmpty && a.kwarg.isNone && a.defaults.isEmpty && a.kw_defaults.isEmpty && a.args.all (·.annotation.isNone)
noncomputable def fnScope (s : Scope) : Bool := s.kind == .function && !s.isCoroutine && !s.isGenerator
noncomputable def putAll : List (V × V) -> List (V × V) -> Option (List (V × V))
 | [], es => some es
 | (k, v) :: r, es => match keyV k with
  | some q => putAll r (putD q k v es)
  | none => none
theorem codeAmong_snoc_inv {pos pos' : Pos} {c cv : Value} (l : List Value) (h : TriplesOk l) (e : codeAmong pos (l ++ [rawInt pos'.line, rawInt pos'.col, c]) = some cv) : codeAmong pos l = some cv \/ cv = c := by
 fun_induction TriplesOk l with
 | case1 =>
  simp only [List.nil_append, codeAmong, rawInt] at e;split at e
  ·cases e; exact .inr rfl
  ·cases e
 | case2 a t b u x rest ih =>
  simp only [List.cons_append, codeAmong] at e ⊢;split at e
  ·rename_i hc; rw [if_pos hc]; exact .inl e
  ·rename_i hc; rw [if_neg hc]; exact ih h e
 | case3 l h1 h2 => exact h.elim
section
variable {B : Bs} {A : Around} {env : Env} {m : Mp} {s s' : Shared} {H H' : Hp} {h h' : Heap} {d : Nat} {e e' : En}
theorem Rel.noteT (K : BOk B) (R : Rel B m H h) {c c0 P : Nat} {q : Str} {ps : Array Value} {pos : Pos} (hq : B.codeT q = some (c0, P)) (tb : TabR m h q P ps) (hc : h.objs.size <= c) (hl : c < h'.objs.size) (hs : h.objs.size <= h'.objs.size)
  (hk : ∀ (b : Nat) o, b ≠ P -> h.get? b = some o -> h'.get? b = some o) (hrec : h'.CodeRec (.ref c) q) (hP : h'.get? P = some (tabObj (ps ++ #[rawInt pos.line, rawInt pos.col, .ref c]))) :
  ∃ m', Rel B m' H h' /\ Step B [] m h m' h' /\ m' 1 c = some (c, c) := by
 have hPt : P ∈ B.tabs := (R.tab q c0 P hq).1;have hn : m 1 c = none := by
  cases e : m 1 c with
  | none => rfl
  | some p => have := R.hi 1 c p (by decide) e; have e2 := R.one c p e; subst e2; exact absurd this.1.2 (Nat.not_lt.2 hc)
 have le := Mp.le_set (p := (c, c)) hn;have hk' : ∀ (b : Nat) o, b ∉ B.tabs -> h.get? b = some o -> h'.get? b = some o := fun b o hb e => hk b o (fun z => hb (z ▸ hPt)) e;have far : ∀ r i p, r ≠ 0 -> m r i = some p -> p.1 ∉ B.tabs /\ p.2 ∉ B.tabs := fun r i p hr e => by
  have := R.hi r i p hr e;exact ⟨R.notTab this.1.1, R.notTab this.2.1⟩
 have hcode : ∀ c q, m 1 c = some q -> ∀ o, h.get? c = some o -> h'.get? c = some o := fun c q e o g => by
  have e1 := R.one c q e;have := (far 1 c q (by decide) e).1
  rw [e1] at this;exact hk' _ _ this g
 refine ⟨m.set 1 c (c, c), ⟨fun a o ht e => hk' a o ht (R.keep a o ht e), fun q' c' P' e => ?_, fun a h1 h2 => le _ _ _ (R.low a h1 h2), fun a p e => ?_, fun c' p e => ?_, fun r i p o e g => ?_, fun r i p hr e => ?_, fun r1 i1 p1 r2 i2 p2 hr1 hr2 e1 e2 hq => ?_, fun k hk2 => ?_, R.reg, R.pin, R.top, le_trans R.size hs, R.tlow, R.base, fun r i p e => by
   rcases Mp.set_inv e with ⟨e1, _⟩ | e
   ·exact e1 ▸ Nat.le_of_lt R.reg
   ·exact R.regs r i p e⟩,
  ⟨le, fun r i p e => ?_, hs, fun b o hb _ _ e => hk' b o hb e, fun c' p e o g => hk' _ _ (far 1 c' p (by decide) e).1 g⟩, Mp.set_self⟩
 ·obtain ⟨a, ps', t⟩ := R.tab q' c' P' e;by_cases hP' : P' = P
  ·subst hP';obtain rfl := K.ctinj q q' c0 c' P' hq e;refine ⟨a, _, hP, by rw [Array.toList_append]; exact TriplesOk_snoc _ _ _ _ tb.ok, fun pos' cv z => ?_⟩
   rw [Array.toList_append] at z;rcases codeAmong_snoc_inv _ tb.ok z with z | z
   ·obtain ⟨c', e1, e2, e5⟩ := tb.codes pos' cv z;exact ⟨c', e1, code_pin e2 (hcode _ _ e5), le _ _ _ e5⟩
   ·subst z;exact ⟨c, rfl, hrec, Mp.set_self⟩
  ·refine ⟨a, ps', hk _ _ hP' t.at_, t.ok, fun pos cv z => ?_⟩;obtain ⟨c', e1, e2, e5⟩ := t.codes pos cv z;exact ⟨c', e1, code_pin e2 (hcode _ _ e5), le _ _ _ e5⟩
 ·rcases Mp.set_inv e with ⟨e1, _, _⟩ | e
  ·cases e1
  ·exact R.zero a p e
 ·rcases Mp.set_inv e with ⟨_, e2, e3⟩ | e
  ·rw [e3, e2]
  ·exact R.one c' p e
 ·rcases Mp.set_inv e with ⟨e1, e2, e3⟩ | e
  ·subst e1; rw [R.pin] at g; cases g
  ·refine (R.obj r i p o e g).keep le (fun o z => ?_) (fun o z => ?_) hcode
   ·by_cases hr : r = 0
    ·subst hr; obtain ⟨rfl, _, h2⟩ := R.zero i p e; exact hk' _ _ h2 z
    ·exact hk' _ _ (far r i p hr e).1 z
   ·by_cases hr : r = 0
    ·subst hr; obtain ⟨rfl, _, h2⟩ := R.zero i p e; exact hk' _ _ h2 z
    ·exact hk' _ _ (far r i p hr e).2 z
 ·rcases Mp.set_inv e with ⟨_, _, e3⟩ | e
  ·subst e3;have := R.size;exact ⟨⟨le_trans this hc, hl⟩, le_trans this hc, hl⟩
  ·have := R.hi r i p hr e;exact ⟨⟨this.1.1, lt_of_lt_of_le this.1.2 hs⟩, this.2.1, lt_of_lt_of_le this.2.2 hs⟩
 ·rcases Mp.set_inv e1 with ⟨a1, a2, a3⟩ | a1 <;> rcases Mp.set_inv e2 with ⟨b1, b2, b3⟩ | b1
  ·exact ⟨a1.trans b1.symm, a2.trans b2.symm⟩
  ·subst a3; have := R.hi r2 i2 p2 hr2 b1; exact (apartN hc hc this.1.2 this.2.2 hq).elim
  ·subst b3; have := R.hi r1 i1 p1 hr1 a1; exact (apartN' hc hc this.1.2 this.2.2 hq).elim
  ·exact R.sep r1 i1 p1 r2 i2 p2 hr1 hr2 a1 b1 hq
 ·unfold Mp.set;rw [if_neg fun z => far2 R.reg (Nat.lt_succ_self 1) z.1];exact R.fresh k hk2
 ·rcases Mp.set_inv e with ⟨e1, _, e3⟩ | e
  ·subst e3; exact .inr ⟨e1 ▸ Nat.one_ne_zero, hc, hc⟩
  ·exact .inl e
theorem fn_ok (K : BOk B) {name qual : Str} {args : Arguments} {body : FuncBody} {scope : Scope} {cl : List (Str × Nat × Nat)} {pos : Pos} {ln : Nat}
  (ha : plainArgs args = true) (hs : fnScope scope = true) (hn : pgT.nest e.qual = some qual) (hc : closeOver e scope = some cl) (R : Rel B m H s.heap) (N : EnvOk B m e env s.heap) :
  Does B A [] (makeFunction name qual args body scope env [] [] [] pos ln) m s (fun m' u s' => ValP B (.ref H.reg H.nxt, H.push (.clo ⟨name, qual, args.args.map (·.arg), args, body, scope, cl⟩)) m' u s' /\ ∃ f, u = .ref f /\ s'.heap.objs.size = f + 1) := by
 obtain ⟨cl', c1, c2⟩ := closure_ok N hc;obtain ⟨c, P, t1, t2⟩ := N.code qual hn;obtain ⟨hPt, ps, tb⟩ := R.tab qual c P t1;obtain ⟨hd, hct⟩ := K.codes qual c P t1;obtain ⟨mg, bm, ob, b1, b2, b3, b4, b5, b6, b7, b8, b9⟩ := K.bmain;have hg : s.heap.Ns mainGlobals mg := R.ns K.gtab.1 b1;have C : CodeHd s.heap c P := by
  obtain ⟨o, vs, file, tf, flags, tg, inF, text, tt, e1, r⟩ := hd;exact ⟨o, vs, file, tf, flags, tg, inF, text, tt, R.keep _ _ hct e1, r⟩
 have hb : s.heap.BuiltinsAt mg P := ⟨bm, ob, b2, b3, b4, fun z => b5 (z ▸ hPt), R.keep _ _ b5 b6, b7, b8, b9⟩;have hgP : mainGlobals ≠ P := fun z => K.gtab.1 (z ▸ hPt);unfold plainArgs at ha;simp only [Bool.and_eq_true, List.isEmpty_iff, Option.isNone_iff_eq_none] at ha;obtain ⟨⟨⟨⟨⟨⟨a1, a2⟩, a3⟩, a4⟩, a5⟩, a6⟩, a7⟩ := ha;unfold fnScope at hs;simp only [Bool.and_eq_true, beq_iff_eq, Bool.not_eq_true'] at hs;obtain ⟨⟨s1, s2⟩, s3⟩ := hs
 -- the end, the code object standing
 have fin : ∀ (m1 : Mp) (h1 : Heap) (tk : Nat) (c' : Nat) (fd : FuncData), Rel B m1 H h1 -> Step B [] m s.heap m1 h1 -> m1 1 c' = some (c', c') -> h1.CodeRec (.ref c') qual ->
   fd.qualname = qual -> fd.params = args -> fd.body = body -> fd.scope = scope -> fd.globals = mainGlobals -> fd.builtins = builtinsNs -> fd.defaults = .none -> fd.kwdefaults = .none -> fd.closure = cl' -> fd.code = .ref c' ->
   ∀ (Q : Value -> Shared -> Prop), (∀ m' a s', Step B [] m s.heap m' s'.heap -> (ValP B (.ref H.reg H.nxt, H.push (.clo ⟨name, qual, args.args.map (·.arg), args, body, scope, cl⟩)) m' a s' /\ ∃ f, a = .ref f /\ s'.heap.objs.size = f + 1) -> [Sam B s'] -> Q a s') -> [Sam B s] -> Q (.ref h1.objs.size) { s with heap := h1.push { cls := .type "function", data := .func fd }, toks := tk } := by
  intro m1 h1 tk c' fd R1 st1 hm hrec f1 f2 f3 f4 f5 f6 f7 f8 f9 f10 Q w _;obtain ⟨m2, R2, st2, hm2⟩ := R1.make (.clo ⟨name, qual, args.args.map (·.arg), args, body, scope, cl⟩) (h' := h1.push { cls := .type "function", data := .func fd }) (p := (h1.objs.size, h1.objs.size)) (push_old _) (objs_le ..) ⟨Nat.le_refl _, objs_lt ..⟩ ⟨Nat.le_refl _, objs_lt ..⟩
   fun m' l => ⟨fd, push_self rfl, ⟨f1, f2, f3, f4, f5, f6, f7, f8, (by rw [f9]; exact (c2.mono st1.le).mono l), rfl, (by rw [f4]; exact s1), (by rw [f4]; exact s2), (by rw [f4]; exact s3),
    a1, a2, a3, a4, a5, ⟨c', f10, (by rw [f1]; exact code_pin hrec (fun o z => push_old _ _ _ z)), l _ _ _ hm⟩⟩⟩
  exact w m2 _ _ (st1.trans st2) ⟨⟨R2, _, hm2, rfl⟩, _, rfl, objs_size _ _⟩
 intro Q E w _;cases hca : codeAmong pos ps.toList with
 | none =>
  have fin2 : ∀ (h1 : Heap) (tk c' : Nat) (fd : FuncData), Heap.ExtBut P s.heap h1 -> s.heap.objs.size <= c' -> c' < h1.objs.size -> h1.CodeRec (.ref c') qual -> h1.get? P = some (tabObj (ps ++ #[rawInt pos.line, rawInt pos.col, .ref c'])) ->
    fd.qualname = qual -> fd.params = args -> fd.body = body -> fd.scope = scope -> fd.globals = mainGlobals -> fd.builtins = builtinsNs -> fd.defaults = .none -> fd.kwdefaults = .none -> fd.closure = cl' -> fd.code = .ref c' ->
    Q (.ref h1.objs.size) { s with heap := h1.push { cls := .type "function", data := .func fd }, toks := tk } := by
   intro h1 tk c' fd hx hge hlt hrec hP f1 f2 f3 f4 f5 f6 f7 f8 f9 f10;obtain ⟨m1, R1, st1, hm⟩ := R.noteT K t1 tb hge hlt (le_trans hge (Nat.le_of_lt hlt)) (fun b o hb z => hx b o hb z) hrec hP;exact fin m1 h1 tk c' fd R1 st1 hm hrec f1 f2 f3 f4 f5 f6 f7 f8 f9 f10 Q w
  cases body with
  | stmts b => exact makeFunction_K c1 N.globals hg t2 C tb.at_ tb.ok hca hgP hb fun c' ctv doc h1 tk hx hge hlt hrec hP => fin2 h1 tk c' _ hx hge hlt hrec hP rfl rfl rfl rfl rfl rfl rfl rfl rfl rfl
  | expr b => exact kla_makeFunction c1 N.globals hg t2 C tb.at_ tb.ok hca hgP hb fun c' ctv h1 tk hx hge hlt hrec hP => fin2 h1 tk c' _ hx hge hlt hrec hP rfl rfl rfl rfl rfl rfl rfl rfl rfl rfl
 | some cv =>
  obtain ⟨c', rfl, hrec, hm⟩ := tb.codes pos cv hca;have fin2 : ∀ (h1 : Heap) (tk : Nat) (fd : FuncData), (∀ (b : Nat) o, s.heap.get? b = some o -> h1.get? b = some o) -> s.heap.objs.size <= h1.objs.size ->
    fd.qualname = qual -> fd.params = args -> fd.body = body -> fd.scope = scope -> fd.globals = mainGlobals -> fd.builtins = builtinsNs -> fd.defaults = .none -> fd.kwdefaults = .none -> fd.closure = cl' -> fd.code = .ref c' ->
    Q (.ref h1.objs.size) { s with heap := h1.push { cls := .type "function", data := .func fd }, toks := tk } := by
   intro h1 tk fd hk hsz f1 f2 f3 f4 f5 f6 f7 f8 f9 f10;have pr := R.priv (X := []) (h' := h1) (fun _ z => nomatch z) (fun b o _ z => hk b o z) hsz
   exact fin m h1 tk c' fd pr.1 pr.2 hm (code_pin hrec (fun o z => hk _ _ z)) f1 f2 f3 f4 f5 f6 f7 f8 f9 f10 Q w
  cases body with
  | stmts b => exact makeFunction_hit c1 N.globals hg t2 C tb.at_ tb.ok hca hb fun ctv doc h1 tk hk hsz => fin2 h1 tk _ hk hsz rfl rfl rfl rfl rfl rfl rfl rfl rfl rfl
  | expr b => exact kla_makeFunctionHit c1 N.globals hg t2 C tb.at_ tb.ok hca hb fun ctv h1 tk hk hsz => fin2 h1 tk _ hk hsz rfl rfl rfl rfl rfl rfl rfl rfl rfl rfl
end
section
variable {B : Bs} {A : Around} {env : Env} {m : Mp} {s s' : Shared} {H H' : Hp} {h h' : Heap} {d : Nat} {e e' : En}
theorem annOf_nil : ∀ {as : List Arg}, as.all (fun a => a.annotation.isNone) = true -> annotationsOf as env = []
 | [], _ => rfl
 | ⟨n, some a, p⟩ :: _, h => by simp at h
 | ⟨n, none, p⟩ :: r, h => by
  have : annotationsOf (⟨n, none, p⟩ :: r) env = annotationsOf r env := rfl;rw [this];exact annOf_nil (by simpa using h)
theorem plain_defaults {args : Arguments} (ha : plainArgs args = true) : defaultsOf args env = ([], []) /\ args.defaults = [] /\ args.kw_defaults = [] /\ annTrees args none env = [] := by
 unfold plainArgs at ha;simp only [Bool.and_eq_true, List.isEmpty_iff, Option.isNone_iff_eq_none] at ha;obtain ⟨⟨⟨⟨⟨⟨a1, a2⟩, a3⟩, a4⟩, a5⟩, a6⟩, a7⟩ := ha;refine ⟨by rw [defaultsOf_eq, a5, a6]; rfl, a5, a6, ?_⟩
 obtain ⟨po, as, va, ko, kd, kwa, df⟩ := args;dsimp only at a1 a2 a3 a4 a5 a6 a7;subst a1 a2 a3 a4;unfold annTrees;have : annotationsOf (as ++ [] ++ (none : Option Arg).toList ++ [] ++ (none : Option Arg).toList) env = [] := by simpa using annOf_nil a7
 dsimp only;rw [this]; rfl
theorem Rel.adopt {X : List Nat} (R : Rel B m H h) (o : O) {D : Nat} {s0 : Heap} {m0 : Mp} (st : Step B X m0 s0 m h) (l : s0.objs.size <= D) (own : Own B m h D) (ho : ∀ m', MLe m m' -> OR B m' o (D, D) h) :
  ∃ m', Rel B m' (H.push o) h /\ Step B X m0 s0 m' h /\ m' H.reg H.nxt = some (D, D) /\ MLe m m' := by
 have hn : m H.reg H.nxt = none := R.fresh _ (Nat.le_refl _);have hr := R.reg;have le := Mp.le_set (p := (D, D)) hn;refine ⟨m.set H.reg H.nxt (D, D), ⟨R.keep, fun q c P e => ?_, fun a h1 h2 => le _ _ _ (R.low a h1 h2), fun a p e => ?_, fun c p e => ?_, fun r i p o' e g => ?_, fun r i p hr' e => ?_, fun r1 i1 p1 r2 i2 p2 hr1 hr2 e1 e2 hq => ?_, fun k hk2 => ?_, R.reg, fun i => ?_, R.top, R.size, R.tlow, R.base, fun r i p e => by
   rcases Mp.set_inv e with ⟨e1, _⟩ | e
   ·exact le_of_eq e1
   ·exact R.regs r i p e⟩,
  ⟨st.le.trans le, fun r i p e => ?_, st.size, st.keep, st.pins⟩, Mp.set_self, le⟩
 ·obtain ⟨a, ps, t⟩ := R.tab q c P e;exact ⟨a, ps, t.at_, t.ok, fun pos cv z => let ⟨c', e1, e2, e5⟩ := t.codes pos cv z; ⟨c', e1, e2, le _ _ _ e5⟩⟩
 ·rcases Mp.set_inv e with ⟨e1, _⟩ | e
  ·exact absurd e1 (Nat.ne_of_lt (Nat.lt_of_succ_lt hr))
  ·exact R.zero a p e
 ·rcases Mp.set_inv e with ⟨e1, _⟩ | e
  ·exact absurd e1 (Nat.ne_of_lt hr)
  ·exact R.one c p e
 ·rw [Hp.get_push] at g;rcases Mp.set_inv e with ⟨e1, e2, e3⟩ | e0
  ·subst e1 e2 e3;rw [if_pos ⟨rfl, rfl⟩] at g;cases g;exact ho _ le
  ·have : ¬ (r = H.reg /\ i = H.nxt) := fun z => by obtain ⟨rfl, rfl⟩ := z; rw [hn] at e0; cases e0
   rw [if_neg this] at g;exact (R.obj r i p o' e0 g).keep le (fun o z => z) (fun o z => z) fun _ _ _ o z => z
 ·rcases Mp.set_inv e with ⟨_, _, e3⟩ | e
  ·subst e3; exact ⟨⟨own.low, own.lt⟩, own.low, own.lt⟩
  ·exact R.hi r i p hr' e
 ·rcases Mp.set_inv e1 with ⟨a1, a2, a3⟩ | a1 <;> rcases Mp.set_inv e2 with ⟨b1, b2, b3⟩ | b1
  ·exact ⟨a1.trans b1.symm, a2.trans b2.symm⟩
  ·subst a3;have := own.np r2 i2 p2 hr2 b1;dsimp only at hq;rcases hq with z | z | z | z
   ·exact absurd z.symm this.1
   ·exact absurd z.symm this.2
   ·exact absurd z.symm this.1
   ·exact absurd z.symm this.2
  ·subst b3;have := own.np r1 i1 p1 hr1 a1;dsimp only at hq;rcases hq with z | z | z | z
   ·exact absurd z this.1
   ·exact absurd z this.1
   ·exact absurd z this.2
   ·exact absurd z this.2
  ·exact R.sep r1 i1 p1 r2 i2 p2 hr1 hr2 a1 b1 hq
 ·unfold Mp.set;rw [Hp.push_nxt] at hk2;rw [Hp.push_reg, if_neg fun z => absurd z.2 (Nat.ne_of_gt hk2)];exact R.fresh k (Nat.le_of_succ_le hk2)
 ·rw [Hp.get_push, if_neg fun z => absurd z.1 (Nat.ne_of_lt hr)];exact R.pin i
 ·rcases Mp.set_inv e with ⟨e1, _, e3⟩ | e
  ·subst e3; exact .inr ⟨fun z => absurd (z.symm.trans e1) (Nat.ne_of_lt (Nat.lt_of_succ_lt hr)), l, l⟩
  ·exact st.news r i p e

noncomputable def PRs (m : Mp) : List (V × V) -> List (Value × Value) -> Prop
 | [], [] => True
 | x :: xs, u :: us => (VR m x.1 u.1 /\ VR m x.2 u.2) /\ PRs m xs us
 | _, _ => False
theorem PRs.mono {m m' : Mp} (l : MLe m m') : ∀ {xs : List (V × V)} {us : List (Value × Value)}, PRs m xs us -> PRs m' xs us
 | [], [], _ => trivial
 | _ :: _, _ :: _, ⟨a, b⟩ => ⟨⟨a.1.mono l, a.2.mono l⟩, PRs.mono l b⟩
 | [], _ :: _, h => h.elim
 | _ :: _, [], h => h.elim
theorem storeAll_ok {D : Nat} {Q : PUnit -> Shared -> Prop} {E : Value -> Shared -> Prop} : ∀ {ps : List (V × V)} {us : List (Value × Value)} {es es' : List (V × V)} {kvs : List (Key × Value)} {s : Shared}, PRs m ps us -> putAll ps es = some es' -> DRs m es kvs ->
  s.heap.DictAt (uKind B.prog B.w) D kvs kvs.length -> es.length + ps.length <= 100 -> Rel B m H s.heap -> Own B m s.heap D ->
  (∀ s' kvs', Rel B m H s'.heap -> Step B [D] m s.heap m s'.heap -> s'.heap.DictAt (uKind B.prog B.w) D kvs' kvs'.length -> DRs m es' kvs' -> [Sam B s'] -> Q PUnit.unit s') -> Sam B s ->
  wpAny (model B.prog B.w) A (forIn us PUnit.unit fun (x : Value × Value) (_ : PUnit) => (do dictSet D x.1 x.2; pure (ForInStep.yield PUnit.unit) : Sem (ForInStep PUnit))) Q E s
 | [], [], es, es', kvs, s, _, h, dr, D1, _, R, own, q, i => by
  cases h;haveI := i;rw [List.forIn_nil];exact wpAny_pure (q s kvs R (Step.refl ..) D1 dr)
 | (k, v) :: ps, (ku, vu) :: us, es, es', kvs, s, ⟨⟨p1, p2⟩, pr⟩, h, dr, D1, hz, R, own, q, i => by
  haveI := i;cases hk : keyV k with
  | none => unfold putAll at h; rw [hk] at h; cases h
  | some kk =>
   unfold putAll at h;rw [hk] at h;rw [List.forIn_cons];have hl := dr.length;rw [List.length_cons] at hz;refine wpAny_bind (wpAny_bind (dictSet_at (key_is hk p1) D1 (fun h' hd hs => wpAny_pure ?_) (by rw [hl, sizeLine_eq]; exact le_trans (le_trans (Nat.le_add_right _ _) hz) (by decide))))
   have pv := R.priv (X := [D]) (h' := h') (fun b hb => by rw [List.mem_singleton] at hb; subst hb; exact ⟨own.np, own.low⟩) (fun b o hb z => (hs.2 b (fun w => hb (by rw [w]; exact List.mem_singleton.mpr rfl))).trans z) (by rw [hs.1]; exact Nat.le_refl _)
   have hd2 := putD_ok hk p2 dr D1.nodup;have hl2 := hd2.length;refine storeAll_ok (s := { s with heap := h', toks := s.toks + 1 }) pr h hd2 hd ?_ pv.1 (own.step pv.2) (fun s' kvs' R' st' D' dr' => q s' kvs' R' (pv.2.trans st') D' dr') inferInstance
   have := stored_length_le kvs kk vu;rw [hl2, hl] at this;exact le_trans (Nat.add_le_add_right this _) (le_trans (le_of_eq (Nat.succ_add_eq_add_succ _ _)) hz)
 | [], _ :: _, _, _, _, _, h, _, _, _, _, _, _, _, _ => h.elim
 | _ :: _, [], _, _, _, _, h, _, _, _, _, _, _, _, _ => h.elim
end
noncomputable def pairsOf (env : Env) (pos : Pos) : List (Option Expr) -> List Expr -> List (Sem Value × Sem Value)
 | some k :: ks, v :: vs => (eval k env, do let x <- eval v env; standAt pos; pure x) :: pairsOf env pos ks vs
 | _, _ => []
def PairsJ (B : Bs) (d : Nat) (e : En) (H : Hp) (ks : List (Option Expr)) (vs : List Expr) (r : List (V × V) × Hp) : Prop := (∀ env pos, (evalEachOpt ks env).zip ((evalEach vs env).map fun v => do let x <- v; standAt pos; pure x) = (pairsOf env pos ks vs).map (fun p => (some p.1, p.2)) /\ (pairsOf env pos ks vs).length = r.1.length /\ r.1.length = ks.length) /\
 ∀ m A env s pos, At B d e H m A env s -> Does B A [] (evalPairs (pairsOf env pos ks vs)) m s (fun m us s => Rel B m r.2 s.heap /\ PRs m r.1 us)
noncomputable def pairsO (I : OI) (d : Nat) (e : En) : Hp -> List (Option Expr) -> List Expr -> OM (List (V × V) × Hp)
 | H, [], [] => ret ([], H)
 | _, [], _ :: _ => OM.no
 | _, _ :: _, [] => OM.no
 | H, k :: ks, v :: vs => match k with
  | none => OM.no
  | some k => (I.ev d e H k).bind fun a => (I.ev d e a.2 v).bind fun b => (pairsO I d e b.2 ks vs).bind fun c => ret ((a.1, b.1) :: c.1, c.2)
section
variable {B : Bs} {d : Nat} {e : En}
theorem pairsJ_cons {H : Hp} {k v : Expr} {ks : List (Option Expr)} {vs : List Expr} {a b : V × Hp} {c : List (V × V) × Hp} (h1 : EvJ B d e H k a) (h2 : EvJ B d e a.2 v b) (h3 : PairsJ B d e b.2 ks vs c) : PairsJ B d e H (some k :: ks) (v :: vs) ((a.1, b.1) :: c.1, c.2) := by
 refine ⟨fun env pos => ?_, fun m A env s pos z Q E q => evalPairs_cons ?_⟩
 ·obtain ⟨z1, z2, z3⟩ := h3.1 env pos;refine ⟨?_, congrArg (· + 1) z2, congrArg (· + 1) z3⟩
  show List.zip (some (eval k env) :: evalEachOpt ks env) ((do let x <- eval v env; standAt pos; pure x) :: (evalEach vs env).map fun v => do let x <- v; standAt pos; pure x) = (some (eval k env), do let x <- eval v env; standAt pos; pure x) :: (pairsOf env pos ks vs).map (fun p => (some p.1, p.2))
  rw [List.zip_cons_cons, z1]
 ·refine h1 m A env s z _ E fun m1 ku s1 st1 p1 => ?_;intro _;have z1 := z.step st1 p1.1;refine wpAny_bind (h2 m1 A env s1 z1 _ E fun m2 vu s2 st2 p2 => wpAny_bind (wpAny_standAt (wpAny_pure ?_)));refine h3.2 m2 A env s2 pos (z1.step st2 p2.1) _ E fun m3 us s3 st3 p3 => ?_;intro _;exact q m3 _ s3 ((st1.trans st2).trans st3) ⟨p3.1, ⟨(p1.2.mono st2.le).mono st3.le, p2.2.mono st3.le⟩, p3.2⟩
theorem pairsO_ok {I : OI} (O : IOk B I) : ∀ {ks : List (Option Expr)} {vs : List Expr} {H : Hp}, Says (pairsO I d e H ks vs) (PairsJ B d e H ks vs)
 | [], [], H => Says.ret ⟨fun _ _ => ⟨rfl, rfl, rfl⟩, fun m A env s pos z Q E q => evalPairs_nil (q m _ s (Step.refl ..) ⟨z.R, trivial⟩)⟩
 | [], _ :: _, _ => Says.no
 | _ :: _, [], _ => Says.no
 | none :: _, _ :: _, _ => Says.no
 | some k :: ks, v :: vs, H => (O.ev d e H k).bind fun a h1 => (O.ev d e a.2 v).bind fun b h2 => (pairsO_ok O).bind fun c h3 => Says.ret (pairsJ_cons h1 h2 h3)
theorem evJ_dict0 {H : Hp} {pos : Pos} : EvJ B d e H (.Dict [] [] pos) (.ref H.reg H.nxt, H.push (.dict [])) := fun m A env s z => by
 rw [arm_eval_Dict];refine Does.standAt ?_;show Does B A [] newDict m s _;exact val_push (ob := { cls := .type "dict", data := .dict #[] }) (k := s.toks) z.R (fun Q E q => wpAny_newObj_type q) fun m' l => ⟨[], dict_empty (push_self rfl), trivial⟩
theorem evJ_dict {H : Hp} {ks : List (Option Expr)} {vs : List Expr} {pos : Pos} {ps : List (V × V) × Hp} {es : List (V × V)} (h0 : ks ≠ []) (hl : ks.length <= 15) (h1 : PairsJ B d e H ks vs ps) (h2 : putAll ps.1 [] = some es) : EvJ B d e H (.Dict ks vs pos) (.ref ps.2.reg ps.2.nxt, ps.2.push (.dict es)) := fun m A env s z Q E w => by
 intro _;have R := z.R;have pr := R.priv (X := []) (h' := s.heap.push { cls := .type "dict", data := .dict #[] }) (fun _ z => nomatch z) (fun b o _ z => push_old _ b o z) (objs_le ..)
 have ow := own_new (h' := s.heap.push { cls := .type "dict", data := .dict #[] }) R (Nat.le_refl s.heap.objs.size) (objs_lt ..);have p1 := h1.2 m A env { s with heap := s.heap.push { cls := .type "dict", data := .dict #[] } } pos ⟨pr.1, z.N.step R pr.2, z.rm⟩
 obtain ⟨p2, p3, p4⟩ := h1.1 env pos;rw [arm_eval_Dict, p2];have ne : pairsOf env pos ks vs ≠ [] := fun z => h0 (List.length_eq_zero_iff.mp (by rw [<- p4, <- p3, z]; rfl))
 have hlp : (pairsOf env pos ks vs).length <= 15 := by rw [p3, p4]; exact hl
 rw [dictDisplay_pairs _ ne (lt_of_le_of_lt hlp (by decide))]
 refine wpAny_bind (wpAny_standAt (wpAny_bind ?_));unfold subDict;refine wpAny_bind (wpAny_alloc (wpAny_bind (wpAny_holding ?_)));rw [if_pos hlp];refine wpAny_bind (p1 _ E fun m1 us s1 st1 q1 => wpAny_holding ?_);obtain ⟨R1, v1⟩ := q1;have ow1 := ow.step st1;have g1 : s1.heap.get? s.heap.objs.size = some { cls := .type "dict", data := .dict #[] } := st1.keep _ _ (pr.1.notTab ow.low) (fun z => nomatch z) ow.np (push_self rfl)
 refine wpAny_bind (storeAll_ok v1 h2 (kvs := []) trivial (dict_empty g1) (by rw [p4]; exact le_trans (Nat.add_le_add_left hl _) (by decide)) R1 ow1 (fun s2 kvs R2 st2 D2 dr => wpAny_pure (wpAny_pure (wpAny_pure ?_))) inferInstance)
 have stA : Step B [] m s.heap m1 s2.heap := Step.narrow (X := []) (Y := [s.heap.objs.size]) (((pr.2.trans st1).nil (Y := [s.heap.objs.size])).trans st2) fun b hb => by rw [List.mem_singleton] at hb; subst hb; exact Nat.le_refl _
 obtain ⟨m', R', st, hm, _⟩ := R2.adopt (.dict es) stA (Nat.le_refl _) (ow1.step st2) fun m' l => ⟨kvs, D2, dr.mono l⟩;exact w m' _ _ st ⟨R', _, hm, rfl⟩
end
noncomputable def dictO (I : OI) (d : Nat) (e : En) (H : Hp) (ks : List (Option Expr)) (vs : List Expr) : OM (V × Hp) := match ks with
 | [] => match vs with
  | [] => newO H (.dict [])
  | _ :: _ => OM.no
 | k :: ks => guardO (decide ((k :: ks).length <= 15)) ((pairsO I d e H (k :: ks) vs).bind fun p => liftO (putAll p.1 []) fun es => newO p.2 (.dict es))
theorem dictO_ok {B : Bs} {I : OI} (O : IOk B I) {d : Nat} {e : En} {H : Hp} {ks : List (Option Expr)} {vs : List Expr} {pos : Pos} : Says (dictO I d e H ks vs) (EvJ B d e H (.Dict ks vs pos)) := by
 cases ks with
 | nil => cases vs with
  | nil => exact Says.new evJ_dict0
  | cons _ _ => exact Says.no
 | cons k ks => exact Says.guard fun hl => (pairsO_ok O).bind fun p h1 => Says.lift fun es h2 => Says.new (evJ_dict nofun (of_decide_eq_true hl) h1 h2)
end
section
open PySem.SeqAt PySem.Builtin.Str
def BiJ (B : Bs) (f : Value) (args : List V) (H : Hp) (r : V × Hp) : Prop := ∀ m A s us, Rel B m H s.heap -> VRs m args us -> Room 0 A -> Does B A [] (call f us) m s (ValP B r)
section
variable {B : Bs} {f : Value} {a b : V} {H : Hp} {r : V × Hp}
theorem BiJ.one (h : ∀ m A s u, Rel B m H s.heap -> VR m a u -> Room 0 A -> Does B A [] (call f [u]) m s (ValP B r)) : BiJ B f [a] H r := fun m A s us R hv rm => by
 cases us with
 | nil => exact hv.elim
 | cons u us => cases us with
  | nil => exact h m A s u R hv.1 rm
  | cons _ _ => exact hv.2.elim
theorem BiJ.two (h : ∀ m A s u w, Rel B m H s.heap -> VR m a u -> VR m b w -> Room 0 A -> Does B A [] (call f [u, w]) m s (ValP B r)) : BiJ B f [a, b] H r := fun m A s us R hv rm => by
 cases us with
 | nil => exact hv.elim
 | cons u us => cases us with
  | nil => exact hv.2.elim
  | cons w us => cases us with
   | nil => exact h m A s u w R hv.1 hv.2.1 rm
   | cons _ _ => exact hv.2.2.elim
end
noncomputable def on1 {α : Type} (as : List V) (f : V -> OM α) : OM α := match as with
 | [] => OM.no
 | a :: r => match r with
  | [] => f a
  | _ :: _ => OM.no
noncomputable def on2 {α : Type} (as : List V) (f : V -> V -> OM α) : OM α := match as with
 | [] => OM.no
 | a :: r => on1 r (f a)
theorem Says.on1 {α : Type} {as : List V} {f : V -> OM α} {F : α -> Prop} (h : ∀ a, as = [a] -> Says (f a) F) : Says (on1 as f) F := by
 cases as with
 | nil => exact Says.no
 | cons a r => cases r with
  | nil => exact h a rfl
  | cons _ _ => exact Says.no
theorem Says.on2 {α : Type} {as : List V} {f : V -> V -> OM α} {F : α -> Prop} (h : ∀ a b, as = [a, b] -> Says (f a b) F) : Says (on2 as f) F := by
 cases as with
 | nil => exact Says.no
 | cons a r => exact Says.on1 fun b e => h a b (by rw [e])
inductive TyN where
 | nm (T : String) | cl (D : Nat)
noncomputable def tyV : TyN -> Value
 | .nm T => .type T
 | .cl D => .ref D
def TyJ (B : Bs) (H : Hp) (v : V) (t : TyN) : Prop := (∀ T, t = .nm T -> isiBasics.contains T = true) /\ ∀ m (s : Shared) u, Rel B m H s.heap -> VR m v u -> ∃ P : Heap -> Prop, P s.heap /\ KitX B.K u (tyV t) P /\ u ≠ .builtin "__main__.__loader__#opaque"
noncomputable def tyO (H : Hp) (v : V) : OM TyN := match v with
 | .none => ret (.nm "NoneType")
 | .int _ => ret (.nm "int")
 | .str _ => ret (.nm "str")
 | .bool _ => ret (.nm "bool")
 | .ref r i => (getO H r i).bind fun o => onO o (fun _ => ret (.nm "list")) (fun _ => ret (.nm "tuple")) (fun _ => OM.no) (fun D _ => guardO (pgT.cls D).isSome (ret (.cl D)))
 | _ => OM.no
theorem nmJ {T : String} (h : isiBasics.contains T = true) : ∀ T', TyN.nm T = .nm T' -> isiBasics.contains T' = true := fun T' e => by cases e; exact h
theorem tyO_ok {B : Bs} (K : BOk B) {H : Hp} {v : V} : Says (tyO H v) (TyJ B H v) := by
 cases v with
 | none => exact Says.ret ⟨nmJ (by decide), fun m s u R hv => by rw [show u = .none from hv]; exact ⟨_, trivial, kitx_none, nofun⟩⟩
 | int i => exact Says.ret ⟨nmJ (by decide), fun m s u R hv => by obtain ⟨t, rfl⟩ := hv; exact ⟨_, trivial, kitx_int, nofun⟩⟩
 | str i => exact Says.ret ⟨nmJ (by decide), fun m s u R hv => by obtain ⟨t, rfl⟩ := hv; exact ⟨_, trivial, kitx_str, nofun⟩⟩
 | bool i => exact Says.ret ⟨nmJ (by decide), fun m s u R hv => by rw [show u = .bool _ from hv]; exact ⟨_, trivial, kitx_bool, nofun⟩⟩
 | ref r i =>
  refine Says.get fun o g => Says.onO (fun xs e => Says.ret ⟨nmJ (by decide), fun m s u R hv => ?_⟩) (fun xs e => Says.ret ⟨nmJ (by decide), fun m s u R hv => ?_⟩) (fun _ _ => Says.no) (fun D fs e => Says.guard fun hD => Says.ret ⟨nofun, fun m s u R hv => ?_⟩)
  ·obtain ⟨p, us, n, e1, rfl, l1, v1⟩ := R.list hv (g.trans e);exact ⟨_, ⟨_, l1, rfl⟩, kitx_list, nofun⟩
  ·obtain ⟨p, us, n, e1, rfl, l1, v1⟩ := R.tup hv (g.trans e);exact ⟨_, ⟨_, l1, rfl⟩, kitx_tuple, nofun⟩
  ·obtain ⟨c, hc⟩ := Option.isSome_iff_exists.mp hD;obtain ⟨p, f, o, es, ep, e1, rfl, i1, i2, i3, i4, i5, i6, n1, w1⟩ := R.inst hv (g.trans e);have C := K.cls _ c hc;exact ⟨_, ⟨i1, rfl, rfl, i2⟩, kitx_own (ox := instObj _ p.2) (od := o) C.pget C.dict C.ccls C.cget C.ctake C.cmro, nofun⟩
 | _ => exact Says.no
noncomputable def typeIsT (t : TyN) (c : V) : Option Bool := match t with
 | .nm T => match c with
  | .ty n => isiT T n
  | .ref r C => match r with
   | 0 => (pgT.cls C).map fun _ => false
   | _ + 1 => none
  | _ => none
 | .cl D => match c with
  | .ty n => match isiNames.contains n with
   | true => (pgT.cls D).map fun _ => false
   | false => none
  | .ref r C => match r with
   | 0 => (pgT.cls D).bind fun d => (pgT.cls C).map fun _ => d.mro.contains C
   | _ + 1 => none
  | _ => none
theorem typeIs_ok {B : Bs} (K : BOk B) {t : TyN} (ht : ∀ T, t = .nm T -> isiBasics.contains T = true) (c : V) : OptP (typeIsT t c) fun b => ∀ m H (h : Heap) w, Rel B m H h -> VR m c w -> kitOne B.K (tyV t) w = some b := by
 cases q : typeIsT t c with
 | none => trivial
 | some b =>
  intro m H h w R hc;cases t with
  | nm T => cases c with
   | ty n => rw [show w = .type n from hc]; exact K.isiA _ _ _ (ht T rfl) q
   | ref r C => cases r with
    | zero =>
     obtain ⟨p, e1, rfl⟩ := hc;rw [(R.zero C p e1).1];obtain ⟨c', hc', rfl⟩ := mpd q;exact K.isiB C c' _ hc' (ht T rfl)
    | succ r => cases q
   | _ => cases q
  | cl D => cases c with
   | ty n =>
    rw [show w = .type n from hc]
    unfold typeIsT at q;dsimp only at q;cases hn : isiNames.contains n with
    | false => rw [hn] at q; cases q
    | true =>
     rw [hn] at q;obtain ⟨c', hc', rfl⟩ := mpd q;exact K.isiC _ c' n hc' hn
   | ref r C => cases r with
    | zero =>
     obtain ⟨p, e1, rfl⟩ := hc;rw [(R.zero C p e1).1];obtain ⟨d', hd', h⟩ := bnd q;obtain ⟨c', hc', rfl⟩ := mpd h;exact K.isiD _ d' C c' hd' hc'
    | succ r => cases q
   | _ => cases q
noncomputable def typeAnyT (t : TyN) : List V -> Option Bool
 | [] => some false
 | c :: r => (typeIsT t c).bind fun b => match b with
  | true => some true
  | false => typeAnyT t r
theorem typeAny_ok {B : Bs} (K : BOk B) {t : TyN} (ht : ∀ T, t = .nm T -> isiBasics.contains T = true) {m : Mp} {H : Hp} {h : Heap} (R : Rel B m H h) : ∀ {cs : List V} {ws : List Value} {b : Bool}, typeAnyT t cs = some b -> VRs m cs ws -> kitAny B.K (tyV t) ws = some b
 | [], [], b, h, _ => h
 | c :: cs, w :: ws, b, h, ⟨v1, vs⟩ => by
  obtain ⟨k, g, h⟩ := bnd h;unfold kitAny;rw [(typeIs_ok K ht c).get g m H _ w R v1];cases k with
  | true => exact h
  | false => exact typeAny_ok K ht R h vs
 | [], _ :: _, _, _, h => h.elim
 | _ :: _, [], _, _, h => h.elim
noncomputable def isinstO (H : Hp) (v c : V) : OM (V × Hp) := (tyO H v).bind fun t => match c with
 | .ty n => liftO (typeIsT t (.ty n)) fun b => ret (.bool b, H)
 | .ref r i => (getO H r i).bind fun o => match o with
  | none => liftO (typeIsT t (.ref r i)) fun b => ret (.bool b, H)
  | some _ => onT o fun cs => liftO (typeAnyT t cs) fun b => ret (.bool b, H)
 | _ => OM.no
theorem isinst_one {B : Bs} (K : BOk B) {H : Hp} {v c : V} {t : TyN} {b : Bool} (h1 : TyJ B H v t) (h2 : typeIsT t c = some b) : BiJ B (.builtin "isinstance") [v, c] H (.bool b, H) := BiJ.two fun m A s u w R hv hc rm => by
 obtain ⟨P, p1, Z, hx⟩ := h1.2 m s u R hv;exact fun Q E q => kia_one Z (R.kIn K) p1 ((typeIs_ok K h1.1 c).get h2 m H _ w R hc) hx fun tk => q m _ _ (Step.refl ..) ⟨R, rfl⟩
theorem isinstO_ok {B : Bs} (K : BOk B) {H : Hp} {v c : V} : Says (isinstO H v c) (BiJ B (.builtin "isinstance") [v, c] H) := (tyO_ok K).bind fun t h1 => by
 cases c with
 | ty n => exact Says.lift fun b h2 => Says.ret (isinst_one K h1 h2)
 | ref r i =>
  refine Says.get fun o g => ?_;cases o with
  | none => exact Says.lift fun b h2 => Says.ret (isinst_one K h1 h2)
  | some o =>
   refine Says.onT fun cs e => Says.lift fun b h2 => Says.ret (BiJ.two fun m A s u w R hv hc rm => ?_);obtain ⟨p, us, n, e1, rfl, l1, v1⟩ := R.tup hc (g.trans e);obtain ⟨P, p1, Z, hx⟩ := h1.2 m s u R hv;exact fun Q E q => kia_tup (its := us.toList) (n := n) (sl := #[]) (dd := none) Z (R.kIn K) p1 (by simpa using l1) (typeAny_ok K h1.1 R h2 v1) hx fun tk => q m _ _ (Step.refl ..) ⟨R, rfl⟩
 | _ => exact Says.no
noncomputable def insI (x : Int) : List Int -> List Int
 | [] => [x]
 | y :: r => if x < y then x :: y :: r else y :: insI x r
noncomputable def sortI (l : List Int) : List Int := l.foldl (fun acc x => insI x acc) []
noncomputable def intsOf : List V -> Option (List Int)
 | [] => some []
 | .int i :: r => (intsOf r).map (i :: ·)
 | _ => none
theorem intsOf_ok {m : Mp} : ∀ {xs : List V} {us : List Value} {ns : List Int}, intsOf xs = some ns -> VRs m xs us -> IntsAre us ns
 | [], [], ns, h, _ => by cases h; exact .nil
 | x :: xs, u :: us, ns, h, ⟨v1, vs⟩ => by
  cases x with
  | int i =>
   obtain ⟨ns', h1, rfl⟩ := mpd h;obtain ⟨t, rfl⟩ := v1;exact .cons i t (intsOf_ok h1 vs)
  | _ => cases h
 | [], _ :: _, _, _, h => h.elim
 | _ :: _, [], _, _, h => h.elim
theorem intsAre_VRs {m : Mp} {us : List Value} {ns : List Int} (h : IntsAre us ns) : VRs m (ns.map .int) us := by
 induction h with
 | nil => exact trivial
 | cons i t r ih => exact ⟨⟨t, rfl⟩, ih⟩
theorem insI_perm (x : Int) : ∀ (l : List Int), (insI x l).Perm (x :: l)
 | [] => List.Perm.refl _
 | y :: r => by
  unfold insI;split
  ·exact List.Perm.refl _
  ·exact ((insI_perm x r).cons y).trans (List.Perm.swap x y r)
theorem sortI_go (l : List Int) : ∀ acc : List Int, (l.foldl (fun acc x => insI x acc) acc).Perm (l ++ acc) := by
 induction l with
 | nil => intro acc; exact List.Perm.refl _
 | cons x l ih =>
  intro acc;rw [List.foldl_cons];refine (ih _).trans ?_;refine ((insI_perm x acc).append_left l).trans ?_;exact List.perm_middle
theorem insI_mem {x y : Int} {l : List Int} (h : y ∈ insI x l) : y = x \/ y ∈ l := by
 have := (insI_perm x l).mem_iff.mp h;simpa using this
theorem insI_sorted (x : Int) : ∀ {l : List Int}, l.Pairwise (· <= ·) -> (insI x l).Pairwise (· <= ·)
 | [], _ => List.pairwise_singleton _ _
 | y :: r, h => by
  unfold insI;rw [List.pairwise_cons] at h;split
  ·rename_i hx;rw [List.pairwise_cons];refine ⟨fun z hz => ?_, List.pairwise_cons.mpr h⟩;rcases List.mem_cons.mp hz with rfl | hz
   ·exact Int.le_of_lt hx
   ·exact Int.le_trans (Int.le_of_lt hx) (h.1 z hz)
  ·rename_i hx;rw [List.pairwise_cons];refine ⟨fun z hz => ?_, insI_sorted x h.2⟩;rcases insI_mem hz with rfl | hz
   ·exact Int.not_lt.1 hx
   ·exact h.1 z hz
theorem sortI_sorted_go (l : List Int) : ∀ {acc : List Int}, acc.Pairwise (· <= ·) -> (l.foldl (fun acc x => insI x acc) acc).Pairwise (· <= ·) := by
 induction l with
 | nil => intro acc h; exact h
 | cons x l ih => intro acc h; exact ih (insI_sorted x h)
theorem sortI_perm (l : List Int) : (sortI l).Perm l := by have := sortI_go l []; rwa [List.append_nil] at this
theorem sortI_sorted (l : List Int) : (sortI l).Pairwise (· <= ·) := sortI_sorted_go l List.Pairwise.nil
theorem sorted_uniq : ∀ {l l' : List Int}, l.Perm l' -> l.Pairwise (· <= ·) -> l'.Pairwise (· <= ·) -> l = l' := fun p h h' =>
 p.eq_of_pairwise (fun a b _ _ x y => Int.le_antisymm x y) h h'
noncomputable def lenO (H : Hp) (a : V) : OM (V × Hp) := match a with
 | .str s => guardO (decide (s.cps.size <= limN)) (ret (.int s.cps.size, H))
 | .ref r i => (getO H r i).bind fun o => onO o (fun xs => reqO (xs.length <= limN) (ret (.int xs.length, H))) (fun xs => reqO (xs.length <= limN) (ret (.int xs.length, H))) (fun _ => OM.no) (fun _ _ => OM.no)
 | _ => OM.no
theorem lim63 {n : Nat} (h : n <= limN) : ¬ ((n : Nat) : Int) ≥ 2 ^ 63 := Int.not_le.2 (Int.lt_of_le_of_lt (Int.ofNat_le.2 h) (by decide))
theorem lim_lt {n : Nat} (h : n <= limN) : ((n : Nat) : Int) < 2 ^ 63 := Int.not_le.mp (lim63 h)
section
variable {B : Bs} {H : Hp}
theorem lenO_ok {a : V} : Says (lenO H a) (BiJ B (.builtin "len") [a] H) := by
 cases a with
 | str x =>
  refine Says.guard fun hz => Says.ret (BiJ.one fun m A s u R hv rm => ?_);obtain ⟨t, rfl⟩ := hv;exact val_same (u := .int _ (s.toks + 1)) (k := s.toks + 1 + 1) R ⟨_, rfl⟩ fun Q E q => P.len_str (lim63 (of_decide_eq_true hz)) q
 | ref r i =>
  refine Says.get fun o g => Says.onO (fun xs e => Says.req fun hz => Says.ret (BiJ.one fun m A s u R hv rm => ?_)) (fun xs e => Says.req fun hz => Says.ret (BiJ.one fun m A s u R hv rm => ?_)) (fun _ _ => Says.no) (fun _ _ _ => Says.no)
  ·obtain ⟨p, us, n, e1, rfl, l1, v1⟩ := R.list hv (g.trans e);exact val_same (u := .int us.size (s.toks + 1)) (k := s.toks + 1 + 1) R ⟨s.toks + 1, by rw [v1.size]⟩ fun Q E q => call_len_list (isL_of l1) (by rw [v1.size]; exact lim_lt hz) q
  ·obtain ⟨p, us, n, e1, rfl, l1, v1⟩ := R.tup hv (g.trans e);exact val_same (u := .int us.size (s.toks + 1)) (k := s.toks + 1 + 1) R ⟨s.toks + 1, by rw [v1.size]⟩ fun Q E q => P.len_tuple l1 (by rw [v1.size]; exact lim63 hz) q
 | _ => exact Says.no
noncomputable def onSign {α : Type} (x : Str) (f : Nat -> OM α) : OM α := match x.cps.toList with
 | [] => OM.no
 | c :: r => match r with
  | [] => f c
  | _ :: _ => OM.no
theorem Says.onSign {α : Type} {x : Str} {f : Nat -> OM α} {F : α -> Prop} (h : ∀ c, x = ⟨#[c]⟩ -> Says (f c) F) : Says (onSign x f) F := by
 unfold Mine.onSign;cases e : x.cps.toList with
 | nil => exact Says.no
 | cons c r => cases r with
  | nil => exact h c (str_of _ _ e)
  | cons _ _ => exact Says.no
theorem ord_ok {c : Nat} : BiJ B (.builtin "ord") [.str ⟨#[c]⟩] H (.int c, H) := BiJ.one fun m A s u R hv rm => by
 obtain ⟨t, rfl⟩ := hv;exact val_same (u := .int _ s.toks) (k := s.toks + 1) R ⟨_, rfl⟩ fun Q E q => P.ord_of_char q
theorem abs_ok {i : Int} : BiJ B (.builtin "abs") [.int i] H (.int i.natAbs, H) := BiJ.one fun m A s u R hv rm => by
 obtain ⟨t, rfl⟩ := hv;intro Q E q _;refine call_abs_int fun u tk => q m _ _ (Step.refl ..) ⟨R, u, ?_⟩;congr 1
 split
 ·rename_i z; exact (Int.ofNat_natAbs_of_nonpos (Int.le_of_lt z)).symm
 ·rename_i z; exact (Int.natAbs_of_nonneg (Int.not_lt.1 z)).symm
theorem max_ok {x y : Int} : BiJ B (.builtin "max") [.int x, .int y] H (.int (if x < y then y else x), H) := BiJ.two fun m A s u w R hu hw rm => by
 obtain ⟨t, rfl⟩ := hu;obtain ⟨t', rfl⟩ := hw;intro Q E q _;refine wpAny_size (max_two_ints rm.handled fun h' tk hk hs => ?_);have pr := R.priv (X := []) (h' := h') (fun _ z => nomatch z) (fun b o _ z => hk b o z) hs
 refine q m _ _ pr.2 ⟨pr.1, ?_⟩;by_cases hxy : x < y
 ·rw [if_pos (show y > x from hxy)]; exact ⟨_, by rw [if_pos hxy]⟩
 ·rw [if_neg (show ¬ y > x from hxy)]; exact ⟨_, by rw [if_neg hxy]⟩
theorem sorted_ok {r i : Nat} {xs : List V} {ns : List Int} (g : H.get r i = some (.list xs)) (hl : xs.length < 64) (hi : intsOf xs = some ns) : BiJ B (.builtin "sorted") [.ref r i] H (.ref H.reg H.nxt, H.push (.list ((sortI ns).map .int))) := BiJ.one fun m A s u R hv rm => by
 obtain ⟨p, us, n, e1, rfl, l1, v1⟩ := R.list hv g;have I := intsOf_ok hi v1;intro Q E w _;have hz := v1.length;refine wpAny_size (sorted_ints (vs := us.toList) (ns := ns) (by simpa using isL_of l1) I (by rw [hz]; exact hl) fun out ns' o1 o2 o3 hs => ?_)
 obtain ⟨ep, he⟩ := sortedAll_at s.heap us.toList out;have e2 : ns' = sortI ns := sorted_uniq (o2.trans (sortI_perm ns).symm) o3 (sortI_sorted ns);subst e2;have lt := ltZ he;obtain ⟨m', R', st, hm⟩ := R.make (.list ((sortI ns).map .int)) (h' := sortedAll s.heap us.toList out) (p := (s.heap.objs.size + 1, s.heap.objs.size + 1)) (fun b o z => sortedAll_old z) hs ⟨Nat.le_succ _, lt⟩ ⟨Nat.le_succ _, lt⟩
  fun m' l => ⟨out, ep, he, intsAre_VRs o1⟩
 exact w m' _ _ st ⟨R', _, hm, rfl⟩
noncomputable def sortedO (H : Hp) (a : V) : OM (V × Hp) := onRef a fun r i => (getO H r i).bind fun o => onL o fun xs => reqO (xs.length < 64) ((askO Ans.is? (intsOf xs)).bind fun ns => newO H (.list ((sortI ns).map .int)))
noncomputable def builtinO (id : String) (H : Hp) (args : List V) : OM (V × Hp) := match decide (id = "len") with
 | true => on1 args fun a => lenO H a
 | false => match decide (id = "isinstance") with
  | true => on2 args fun v c => isinstO H v c
  | false => match decide (id = "ord") with
   | true => on1 args fun a => onStr a fun x => onSign x fun c => ret (.int c, H)
   | false => match decide (id = "abs") with
    | true => on1 args fun a => onInt a fun i => ret (.int i.natAbs, H)
    | false => match decide (id = "max") with
     | true => on2 args fun a b => onInt a fun i => onInt b fun j => ret (.int (if i < j then j else i), H)
     | false => match decide (id = "sorted") with
      | true => on1 args fun a => sortedO H a
      | false => OM.no
theorem builtinO_ok (K : BOk B) {id : String} {args : List V} : Says (builtinO id H args) (BiJ B (.builtin id) args H) := by
 unfold builtinO;cases h1 : decide (id = "len") with
 | true => obtain rfl := of_decide_eq_true h1; exact Says.on1 fun a e => e ▸ lenO_ok
 | false =>
  cases h2 : decide (id = "isinstance") with
  | true => obtain rfl := of_decide_eq_true h2; exact Says.on2 fun a b e => e ▸ isinstO_ok K
  | false =>
   cases h3 : decide (id = "ord") with
   | true => obtain rfl := of_decide_eq_true h3; exact Says.on1 fun a e => Says.onStr fun x e2 => Says.onSign fun c e3 => e ▸ e2 ▸ e3 ▸ Says.ret ord_ok
   | false =>
    cases h4 : decide (id = "abs") with
    | true => obtain rfl := of_decide_eq_true h4; exact Says.on1 fun a e => Says.onInt fun x e2 => e ▸ e2 ▸ Says.ret abs_ok
    | false =>
     cases h5 : decide (id = "max") with
     | true => obtain rfl := of_decide_eq_true h5; exact Says.on2 fun a b e => Says.onInt fun x e2 => Says.onInt fun y e3 => e ▸ e2 ▸ e3 ▸ Says.ret max_ok
     | false =>
      cases h6 : decide (id = "sorted") with
      | true =>
       obtain rfl := of_decide_eq_true h6;exact Says.on1 fun a e => Says.onRef fun r i e2 => Says.get fun o g => Says.onL fun xs e3 => Says.req fun hl => Says.bind (F := fun ns => intsOf xs = some ns) (Says.askO fun _ h => h) fun ns hn => e ▸ e2 ▸ Says.new (sorted_ok (g.trans e3) hl hn)
      | false => exact Says.no
end
set_option maxRecDepth 100000 in
theorem tuple_new_sized (l : Addr) (o : Obj) (items : Array Value) (n : Nat) (hc : o.cls = .type "list") (hd : o.data = .seq items n) (hsz : items.size <= sizeLine) :
  Meets (Builtin.«tuple.__new__» ⟨[.type "tuple", .ref l], []⟩)
   (fun _ R s => s.heap.get? l = some o /\ ∀ h' : Heap, (∀ b o', s.heap.get? b = some o' -> h'.get? b = some o') -> s.heap.objs.size <= h'.objs.size -> R (.ok (.ret (.ref h'.objs.size))) { s with heap := h'.push { cls := .type "tuple", data := .seq items } }) :=
 .of_wp fun prog w A R s h => by
  obtain ⟨hp, g, d, tk, os⟩ := s;obtain ⟨ht, h⟩ := h;have hsub := sub_tuple_self;have hinit := init_tuple_lookup;have hmh := madeHere_tuple;have hT : Shared.TypeIs ⟨hp, g, d, tk, os⟩ (.ref l) "list" := ⟨o, ht, hc⟩;have col : ∀ {A : Around} {Q : List Value -> Shared -> Prop} {E : Value -> Shared -> Prop}, (∀ h' : Heap, (∀ b o', hp.get? b = some o' -> h'.get? b = some o') -> hp.objs.size <= h'.objs.size -> Q items.toList ⟨h', g, d, tk, os⟩) ->
    wpAny (model prog w) A (collect (.ref l)) Q E ⟨hp, g, d, tk, os⟩ := fun q => wpAny_size (wpAny_collect_seq (hsz := hsz) l (.inl rfl) ht hc hd fun h' hk hs => q h' hk hs)
  wp_walk using AutoSeq1.wpAny_loadPart' ht, wpAny_typeOf hT, col
  intro h' hk hs;show wpAny _ _ (Builtin.Tuple.tupleExact items.toList.toArray >>= fun v => PySem.ret v) _ _ _;unfold Builtin.Tuple.tupleExact;refine wpAny_bind (wpAny_newObj_type ?_ (by show items.toList.toArray.size <= sizeLine; simpa using hsz))
  refine wpAny_pure ⟨_, rfl, ?_⟩;have e : items.toList.toArray = items := by simp
  rw [e];exact h h' hk hs
section
variable {B : Bs} {H : Hp}
theorem listOf_ok {r i : Nat} {xs : List V} (g : H.get r i = some (.list xs)) (hl : xs.length <= limN) : BiJ B (.type "list") [.ref r i] H (.ref H.reg H.nxt, H.push (.list xs)) := BiJ.one fun m A s u R hv rm => by
 obtain ⟨p, us, n, e1, rfl, l1, v1⟩ := R.list hv g;intro Q E w _;refine wpAny_size (call_list_seq p.1 (.inl rfl) l1 rfl rfl (fun h' c' hk hd hs => ?_) (by rw [v1.size]; exact lim_line hl))
 have lt := ltZ hd;obtain ⟨m', R', st, hm⟩ := R.make (.list xs) (h' := h') (p := (s.heap.objs.size, s.heap.objs.size)) hk hs ⟨Nat.le_refl _, lt⟩ ⟨Nat.le_refl _, lt⟩ fun m' l => ⟨us, c', hd, v1.mono l⟩;exact w m' _ _ st ⟨R', _, hm, rfl⟩
theorem tupleOf_ok {r i : Nat} {xs : List V} (g : H.get r i = some (.list xs)) (hl : xs.length <= limN) : BiJ B (.type "tuple") [.ref r i] H (.ref H.reg H.nxt, H.push (.tup xs)) := BiJ.one fun m A s u R hv rm => by
 obtain ⟨p, us, n, e1, rfl, l1, v1⟩ := R.list hv g;intro Q E w _;refine wpAny_size (callType_new F.called_tuple (by decide) (F.typeCall_tuple_1 _) (F.newCall_tuple_1 _) (fun obj => F.args_object_init_2 obj _) F.entry_tuple_new
  (tuple_new_sized p.1 _ us n rfl rfl (by rw [v1.size]; exact lim_line hl)) ⟨l1, fun h' hk hsz => ⟨⟨_, Heap.get?_push_size _ rfl, rfl⟩, ?_⟩⟩)
 have pr := R.priv (X := []) (h' := h') (fun _ z => nomatch z) (fun b o _ z => hk b o z) hsz
 obtain ⟨m', R', st, hm⟩ := pr.1.make (.tup xs) (h' := h'.push { cls := .type "tuple", data := .seq us }) (p := (h'.objs.size, h'.objs.size)) (push_old _) (objs_le ..) ⟨Nat.le_refl _, objs_lt ..⟩ ⟨Nat.le_refl _, objs_lt ..⟩
  fun m' l => ⟨us, 0, push_self rfl, v1.mono l⟩
 exact fun _ => w m' _ _ (pr.2.trans st) ⟨R', _, hm, rfl⟩
noncomputable def strI (i : Int) : Str := ofString (toString i)
theorem strOf_ok {i : Int} (hi : 0 <= i /\ i < 10) : BiJ B (.type "str") [.int i] H (.str (strI i), H) := BiJ.one fun m A s u R hv rm => by
 obtain ⟨t, rfl⟩ := hv;refine val_same (u := .str (toString i) s.toks) (k := s.toks + 1) R ⟨_, rfl⟩ fun Q E q => P.str_of_int ?_ q;have : i.natAbs < 10 := by
  obtain ⟨n, rfl⟩ := Int.eq_ofNat_of_zero_le hi.1;exact Int.ofNat_lt.1 hi.2
 rcases Nat.eq_zero_or_pos i.natAbs with z | z
 ·rw [z]; decide
 ·exact (Nat.log2_lt (Nat.ne_of_gt z)).mpr (lt_of_lt_of_le this (le_trans (by decide : (10 : Nat) <= 2 ^ 4) (Nat.pow_le_pow_right (by decide) (by decide))))
theorem intOf_ok {b : Bool} : BiJ B (.type "int") [.bool b] H (.int (if b then 1 else 0), H) := BiJ.one fun m A s u R hv rm => by
 rw [show u = .bool b from hv]
 exact val_same (u := .int (if b then 1 else 0) s.toks) (k := s.toks + 1) R ⟨_, rfl⟩ fun Q E q => call_int_bool q
noncomputable def typeO (n : String) (H : Hp) (args : List V) : OM (V × Hp) := match decide (n = "list") with
 | true => on1 args fun a => onRef a fun r i => (getO H r i).bind fun o => onL o fun xs => newLO H xs
 | false => match decide (n = "tuple") with
  | true => on1 args fun a => onRef a fun r i => (getO H r i).bind fun o => onL o fun xs => newTO H xs
  | false => match decide (n = "str") with
   | true => on1 args fun a => onInt a fun i => reqO (0 <= i /\ i < 10) (ret (.str (strI i), H))
   | false => match decide (n = "int") with
    | true => on1 args fun a => onBool a fun b => ret (.int (if b then 1 else 0), H)
    | false => OM.no
theorem typeO_ok {n : String} {args : List V} : Says (typeO n H args) (BiJ B (.type n) args H) := by
 unfold typeO;cases h1 : decide (n = "list") with
 | true => obtain rfl := of_decide_eq_true h1; exact Says.on1 fun a e => Says.onRef fun r i e2 => Says.get fun o g => Says.onL fun xs e3 => e ▸ e2 ▸ Says.newL fun hl => listOf_ok (g.trans e3) hl
 | false =>
  cases h2 : decide (n = "tuple") with
  | true => obtain rfl := of_decide_eq_true h2; exact Says.on1 fun a e => Says.onRef fun r i e2 => Says.get fun o g => Says.onL fun xs e3 => e ▸ e2 ▸ Says.newT fun hl => tupleOf_ok (g.trans e3) hl
  | false =>
   cases h3 : decide (n = "str") with
   | true => obtain rfl := of_decide_eq_true h3; exact Says.on1 fun a e => Says.onInt fun x e2 => Says.req fun hi => e ▸ e2 ▸ Says.ret (strOf_ok hi)
   | false =>
    cases h4 : decide (n = "int") with
    | true => obtain rfl := of_decide_eq_true h4; exact Says.on1 fun a e => Says.onBool fun x e2 => e ▸ e2 ▸ Says.ret intOf_ok
    | false => exact Says.no
end
end
section
open PySem.SeqAt PySem.Builtin.Str
theorem at_one {x : Str} {c i : Nat} : StrLaws.At x ⟨#[c]⟩ x.length i ↔ x.cps.toList[i]? = some c := by
 unfold StrLaws.At;rw [StrLaws.subAt_eq];have hl : (⟨#[c]⟩ : Str).length = 1 := rfl;have hx : x.length = x.cps.toList.length := by rw [Array.length_toList]; rfl
 have hc : (⟨#[c]⟩ : Str).cps.toList = [c] := rfl;rw [hl, hx, hc];constructor
 ·rintro ⟨h1, h2⟩;rw [beq_iff_eq, List.take_one, List.head?_drop] at h2;cases q : x.cps.toList[i]? with
  | none => rw [q] at h2; cases h2
  | some y => rw [q] at h2; cases h2; rfl
 ·intro h;have hlt : i < x.cps.toList.length := by
   rcases Nat.lt_or_ge i x.cps.toList.length with z | z
   ·exact z
   ·rw [List.getElem?_eq_none z] at h; cases h
  refine ⟨hlt, ?_⟩;rw [beq_iff_eq, List.take_one, List.head?_drop, h]
  rfl
theorem not_at {x : Str} {c : Nat} (h : x.cps.toList.contains c = false) (i : Nat) : ¬ StrLaws.At x ⟨#[c]⟩ x.length i := fun z => by
 have := List.mem_of_getElem? (at_one.mp z);rw [List.contains_eq_mem] at h;exact absurd this (by simpa using h)
theorem occ_none {x : Str} {c n : Nat} (hn : 1 <= n) (h : x.cps.toList.contains c = false) : occurrences x ⟨#[c]⟩ 0 x.length n = [] := by
 rcases StrLaws.occ_head x ⟨#[c]⟩ n hn with ⟨e, _⟩ | ⟨i, r, _, a, _⟩
 ·exact e
 ·exact absurd a (not_at h i)
theorem last_none {x : Str} {c : Nat} (h : x.cps.toList.contains c = false) : lastOccurrence x ⟨#[c]⟩ 0 x.length = none := by
 rcases StrLaws.last_spec x ⟨#[c]⟩ with ⟨e, _⟩ | ⟨i, _, a, _⟩
 ·exact e
 ·exact absurd a (not_at h i)
theorem occ_first {x : Str} {c k : Nat} (h : x.cps.toList.findIdx? (· == c) = some k) : ∃ r, occurrences x ⟨#[c]⟩ 0 x.length 1 = k :: r := by
 have hk := List.findIdx?_eq_some_iff_getElem.mp h;obtain ⟨h1, h2, h3⟩ := hk;have ak : StrLaws.At x ⟨#[c]⟩ x.length k := at_one.mpr (by rw [List.getElem?_eq_getElem h1]; simpa using h2)
 rcases StrLaws.occ_head x ⟨#[c]⟩ 1 (Nat.le_refl _) with ⟨_, e⟩ | ⟨i, r, e, a, mn⟩
 ·exact absurd ak (e k)
 ·have h4 : ¬ k < i := fun z => mn k z ak;have h5 : ¬ i < k := fun z => by
   have := h3 i z;have ai := at_one.mp a;rw [List.getElem?_eq_getElem (Nat.lt_trans z h1)] at ai;simp at ai
   simp [ai] at this
  have : i = k := Nat.le_antisymm (Nat.not_lt.1 h4) (Nat.not_lt.1 h5);subst this;exact ⟨r, e⟩
theorem getLast_one {x : Str} {c : Nat} : (x.cps.toList.getLast? == some c) = (decide (0 + 1 <= x.length) && subAt x ⟨#[c]⟩ (x.length - 1)) := by
 have hx : x.length = x.cps.toList.length := by rw [Array.length_toList]; rfl
 rw [List.getLast?_eq_getElem?, <- hx];have key := at_one (x := x) (c := c) (i := x.length - 1);unfold StrLaws.At at key;have hl : (⟨#[c]⟩ : Str).length = 1 := rfl;rw [hl] at key;by_cases h : x.cps.toList[x.length - 1]? = some c
 ·have k := key.mpr h;rw [h, k.2, decide_eq_true (show 0 + 1 <= x.length from lt_of_lt_of_le (Nat.succ_pos _) k.1)]
  exact beq_self_eq_true _
 ·have h1 : (x.cps.toList[x.length - 1]? == some c) = false := by simpa using h
  rw [h1];by_cases h2 : 1 <= x.length
  ·have h3 : subAt x ⟨#[c]⟩ (x.length - 1) = false := by
    cases q : subAt x ⟨#[c]⟩ (x.length - 1) with
    | false => rfl
    | true => exact absurd (key.mp ⟨le_of_eq (Nat.sub_add_cancel h2), q⟩) h
   rw [h3, Bool.and_false]
  ·rw [decide_eq_false (show ¬ (0 + 1 <= x.length) from h2)]; rfl
def GetJ (B : Bs) (H : Hp) (a : V) (x : Str) (id : String) : Prop := ∀ m A s u (pl : Sem Bool) (Q : Value × List Value -> Shared -> Prop) (E : Value -> Shared -> Prop), Rel B m H s.heap -> VR m a u -> Q (.builtin id, [u]) s -> wpAny (model B.prog B.w) A (getMethod u x pl) Q E s
section
variable {B : Bs} {A : Around} {m : Mp} {s s' : Shared} {H H' : Hp}
theorem setDefault_at {dd : Addr} {kvs : List (Key × Value)} {k : Key} {key dflt : Value} {Q : Value -> Shared -> Prop} {E : Value -> Shared -> Prop} (hkey : (uKind B.prog B.w).is k key = true) (hm : s.heap.DictAt (uKind B.prog B.w) dd kvs kvs.length)
  (hthere : ∀ v, valueAt kvs k = some v -> Q v { s with toks := s.toks + 1 })
  (hnew : valueAt kvs k = none -> ∀ h', h'.DictAt (uKind B.prog B.w) dd (stored kvs k dflt) (stored kvs k dflt).length -> Heap.SameBut dd s.heap h' -> Q dflt { s with heap := h', toks := s.toks + 1 })
  (hsz : kvs.length <= sizeLine) : wpAny (model B.prog B.w) A (dictSetDefault dd key dflt) Q E s := by
 have hv := hm.dictOf.mapOf;obtain ⟨o, es, ho, hc, hd, hk, hp, hn⟩ := hm;have hes : es.size <= sizeLine := by
  rw [<- Array.length_toList, hp.length]; exact hsz
 obtain ⟨o', es', ep', ho', _, hd', _, hf⟩ := hv;rw [ho] at ho'; cases ho';rw [hd] at hd'; cases hd';unfold dictSetDefault
 try with_reducible refine wpAny_holding ?_
 refine wpAny_bind ((uKind B.prog B.w).pyHash hkey ?_);refine wpAny_bind (wpAny_dictFind_of (s := { s with toks := s.toks + 1 }) hkey ho hd hk ?_)
 have hidx : (es.findIdx? fun e => (uKind B.prog B.w).is k e.key) = kvs.findIdx? fun kv => decide (kv.1 = k) := by
  rw [<- hp.findIdx k]; obtain ⟨l⟩ := es; simp
 cases hi : es.findIdx? fun e => (uKind B.prog B.w).is k e.key with
 | some i =>
  have hfk : valueAt kvs k = (es[i]?).map (·.val) := by rw [<- hf k, findBy_of_findIdx?, hi]
  refine wpAny_bind (wpAny_dictEntries (s := { s with toks := s.toks + 1 }) ho hd ?_)
  cases he : es[i]? with
  | none =>
   exfalso;have := Array.findIdx?_eq_some_iff_findIdx_eq.mp hi;have hlt : i < es.size := this.1;rw [Array.getElem?_eq_getElem hlt] at he;exact nomatch he
  | some e =>
   rw [he] at hfk;exact wpAny_bind (wpAny_rule (wpAny_pure (hthere e.val hfk)))
 | none =>
  have hfk : valueAt kvs k = none := by rw [<- hf k, findBy_of_findIdx?, hi]
  have hnot : k ∉ kvs.map (·.1) := not_mem_of_findIdx_none (hidx ▸ hi)
  have hany : ¬ (kvs.any fun kv => decide (kv.1 = k)) = true := by
   rw [List.any_eq_true]; rintro ⟨kv, hkv, he⟩;exact hnot (List.mem_map.mpr ⟨kv, hkv, of_decide_eq_true he⟩)
  have hst : stored kvs k dflt = kvs ++ [(k, dflt)] := by rw [stored, if_neg hany]
  have hln : (stored kvs k dflt).length = kvs.length + 1 := by rw [hst]; simp
  refine wpAny_bind (wpAny_rule (wpAny_bind (wpAny_updateDictKeys (hz := hes) (s := { s with toks := s.toks + 1 }) ho hd (wpAny_pure (hnew hfk _ ⟨_, _, Heap.get?_update_self _ ho (Obj.isFreed_of_dict (Obj.data_mapDictKeys hd _)),
   hc.mapDictKeys _, by rw [hln]; exact Obj.data_mapDictKeys hd _, hk.push hkey _, ?_, ?_⟩ (Heap.SameBut.update ..))))))
  ·rw [hst];have := hp.append hkey ((uKind B.prog B.w).hash k) dflt;obtain ⟨l⟩ := es;simpa using this
  ·rw [hst, List.map_append, List.nodup_append];refine ⟨hn, by simp, ?_⟩
   intro a ha b hb;simp only [List.map_cons, List.map_nil, List.mem_singleton] at hb;subst hb;exact fun e => hnot (e ▸ ha)
end
section
variable {B : Bs} {H : Hp} {x : Str} {c : Nat}
theorem sign_two {f : Value} {r : V × Hp} (h : ∀ m A s t t', Rel B m H s.heap -> Does B A [] (call f [.str x t, .str ⟨#[c]⟩ t']) m s (ValP B r)) : BiJ B f [.str x, .str ⟨#[c]⟩] H r := BiJ.two fun m A s u w R hu hw rm => by
 obtain ⟨t, rfl⟩ := hu;obtain ⟨t', rfl⟩ := hw;exact h m A s t t' R
theorem rpartition_ok (hn : x.cps.toList.contains c = false) (hz : x.cps.size <= limN) : BiJ B (.builtin "str.rpartition") [.str x, .str ⟨#[c]⟩] H (.ref H.reg H.nxt, H.push (.tup [.str ⟨#[]⟩, .str ⟨#[]⟩, .str x])) := sign_two fun m A s t t' R =>
 val_tup (us := [Value.str Str.empty s.toks, .str Str.empty s.toks, .str x t].toArray) (k := s.toks + 1) R (by simp [limN]) ⟨⟨_, rfl⟩, ⟨_, rfl⟩, ⟨_, rfl⟩, trivial⟩ fun hz2 Q E q =>
  call_meets F.slot_str_rpartition (typeIs_str _ _ _) F.entry_str_rpartition (F.args_str_rpartition_2 _ _) (meets_str_rpartition x ⟨[c].toArray⟩ t t' rfl (lim_line hz)) (by
   rw [show lastOccurrence x (⟨[c].toArray⟩ : Str) 0 x.length = none from last_none hn]; exact q)
theorem partition_ok (hn : x.cps.toList.contains c = false) (hz : x.cps.size <= limN) : BiJ B (.builtin "str.partition") [.str x, .str ⟨#[c]⟩] H (.ref H.reg H.nxt, H.push (.tup [.str x, .str ⟨#[]⟩, .str ⟨#[]⟩])) := sign_two fun m A s t t' R =>
 val_tup (us := [Value.str x t, .str Str.empty s.toks, .str Str.empty s.toks].toArray) (k := s.toks + 1) R (by simp [limN]) ⟨⟨_, rfl⟩, ⟨_, rfl⟩, ⟨_, rfl⟩, trivial⟩ fun hz2 Q E q =>
  call_meets F.slot_str_partition (typeIs_str _ _ _) F.entry_str_partition (F.args_str_partition_2 _ _) (meets_str_partition x ⟨[c].toArray⟩ t t' rfl (lim_line hz)) (by
   rw [show occurrences x (⟨[c].toArray⟩ : Str) 0 x.length 1 = [] from occ_none (Nat.le_refl _) hn]; exact q)
theorem endswith_ok : BiJ B (.builtin "str.endswith") [.str x, .str ⟨#[c]⟩] H (.bool (x.cps.toList.getLast? == some c), H) := sign_two fun m A s t t' R =>
 val_same (u := .bool (x.cps.toList.getLast? == some c)) (k := s.toks) R rfl fun Q E q => call_gives F.slot_str_endswith (typeIs_str _ _ _) F.entry_str_endswith (F.args_str_endswith_2 _ _) (gives_str_endswith x ⟨[c].toArray⟩ t t') (by
  rw [getLast_one] at q; exact q)
theorem split_ok (hn : x.cps.toList.contains c = false) : BiJ B (.builtin "str.split") [.str x, .str ⟨#[c]⟩] H (.ref H.reg H.nxt, H.push (.list [.str x])) := sign_two fun m A s t t' R => by
 have hf : (occurrences x (⟨[c].toArray⟩ : Str) 0 x.length (x.length + 1)).isEmpty = true := by rw [show occurrences x (⟨[c].toArray⟩ : Str) 0 x.length (x.length + 1) = [] from occ_none (by omega) hn]; rfl
 refine val_list (us := [Value.str x t].toArray) (k := s.toks) R (by simp [limN]) ⟨⟨_, rfl⟩, trivial⟩ fun hz2 Q E q => ?_
 cases h1 : (decide (x.length < (⟨[c].toArray⟩ : Str).length) || decide (strKind x < strKind (⟨[c].toArray⟩ : Str)))
 ·exact call_meets F.slot_str_split (typeIs_str _ _ _) F.entry_str_split (F.args_str_split_2 _ _) (meets_str_split_not_found x ⟨[c].toArray⟩ t t' h1 rfl hf) q
 ·exact call_meets F.slot_str_split (typeIs_str _ _ _) F.entry_str_split (F.args_str_split_2 _ _) (meets_str_split_cannot_occur x ⟨[c].toArray⟩ t t' h1) q
theorem index_ok {k : Nat} (hk : x.cps.toList.findIdx? (· == c) = some k) : BiJ B (.builtin "str.index") [.str x, .str ⟨#[c]⟩] H (.int k, H) := sign_two fun m A s t t' R => by
 obtain ⟨r, ho⟩ := occ_first hk;exact val_same (u := .int k s.toks) (k := s.toks + 1) R ⟨_, rfl⟩ fun Q E q => SC.index ho q
end
noncomputable abbrev MR (α : Type) := Option (String × α)
noncomputable def strM (x : Str) : MR (Str -> Nat -> Hp -> OM (V × Hp)) := match decide (x = "rpartition") with
 | true => some ("str.rpartition", fun s c H => guardO (!s.cps.toList.contains c && decide (s.cps.size <= limN)) (newO H (.tup [.str ⟨#[]⟩, .str ⟨#[]⟩, .str s])))
 | false => match decide (x = "partition") with
  | true => some ("str.partition", fun s c H => guardO (!s.cps.toList.contains c && decide (s.cps.size <= limN)) (newO H (.tup [.str s, .str ⟨#[]⟩, .str ⟨#[]⟩])))
  | false => match decide (x = "endswith") with
   | true => some ("str.endswith", fun s c H => ret (.bool (s.cps.toList.getLast? == some c), H))
   | false => match decide (x = "split") with
    | true => some ("str.split", fun s c H => guardO (!s.cps.toList.contains c) (newO H (.list [.str s])))
    | false => match decide (x = "index") with
     | true => some ("str.index", fun s c H => liftO (s.cps.toList.findIdx? (· == c)) fun k => ret (.int k, H))
     | false => none
theorem strM_ok {B : Bs} {H : Hp} {s : Str} (x : Str) : OptP (strM x) fun q => GetJ B H (.str s) x q.1 /\ ∀ c H', Says (q.2 s c H') (BiJ B (.builtin q.1) [.str s, .str ⟨#[c]⟩] H') := by
 unfold strM;cases h1 : decide (x = "rpartition") with
 | true =>
  obtain rfl := of_decide_eq_true h1;refine ⟨fun m A sh u pl Q E R hv q => ?_, fun c H' => Says.guard fun hn => Says.new (by rw [Bool.and_eq_true, Bool.not_eq_true', decide_eq_true_eq] at hn; exact rpartition_ok hn.1 hn.2)⟩
  obtain ⟨t, rfl⟩ := hv
  with_reducible exact GM.rpartition q
 | false =>
  cases h2 : decide (x = "partition") with
  | true =>
   obtain rfl := of_decide_eq_true h2;refine ⟨fun m A sh u pl Q E R hv q => ?_, fun c H' => Says.guard fun hn => Says.new (by rw [Bool.and_eq_true, Bool.not_eq_true', decide_eq_true_eq] at hn; exact partition_ok hn.1 hn.2)⟩
   obtain ⟨t, rfl⟩ := hv
   with_reducible exact GM.partition q
  | false =>
   cases h3 : decide (x = "endswith") with
   | true =>
    obtain rfl := of_decide_eq_true h3;refine ⟨fun m A sh u pl Q E R hv q => ?_, fun c H' => Says.ret endswith_ok⟩;obtain ⟨t, rfl⟩ := hv
    with_reducible exact GM.endswith q
   | false =>
    cases h4 : decide (x = "split") with
    | true =>
     obtain rfl := of_decide_eq_true h4;refine ⟨fun m A sh u pl Q E R hv q => ?_, fun c H' => Says.guard fun hn => Says.new (split_ok (by rw [Bool.not_eq_true'] at hn; exact hn))⟩
     obtain ⟨t, rfl⟩ := hv
     with_reducible exact GM.split q
    | false =>
     cases h5 : decide (x = "index") with
     | true =>
      obtain rfl := of_decide_eq_true h5;refine ⟨fun m A sh u pl Q E R hv q => ?_, fun c H' => Says.lift fun k hk => Says.ret (index_ok hk)⟩;obtain ⟨t, rfl⟩ := hv
      with_reducible exact GM.index q
     | false => trivial
noncomputable def extendO (H : Hp) (r i : Nat) (a : V) : OM (V × Hp) := (getO H r i).bind fun o => onL o fun xs => onRef a fun r' i' => (getO H r' i').bind fun o' => onL o' fun ys => reqO (xs.length + ys.length <= limN) ((setO H r i (.list (xs ++ ys))).bind fun H => ret (.none, H))
noncomputable def popO (H : Hp) (r i : Nat) : OM (V × Hp) := (getO H r i).bind fun o => onL o fun xs => reqO (xs.length <= limN) ((askO Ans.v? xs.getLast?).bind fun v => (setO H r i (.list xs.dropLast)).bind fun H => ret (v, H))
noncomputable def on0 {α : Type} (as : List V) (f : OM α) : OM α := match as with
 | [] => f
 | _ :: _ => OM.no
theorem Says.on0 {α : Type} {as : List V} {f : OM α} {F : α -> Prop} (h : as = [] -> Says f F) : Says (on0 as f) F := by
 cases as with
 | nil => exact h rfl
 | cons _ _ => exact Says.no
section
variable {B : Bs} {H : Hp} {r i : Nat}
theorem set_then {r i : Nat} {o : O} {v : V} {F : V × Hp -> Prop} (h : r ≠ 0 -> F (v, H.upd r i o)) : Says ((setO H r i o).bind fun H => ret (v, H)) F := Says.bind (F := fun K => F (v, K)) (Says.set h) fun _ h => Says.ret h
theorem extendO_ok {a : V} : Says (extendO H r i a) (BiJ B (.builtin "list.extend") [.ref r i, a] H) := by
 refine Says.get fun o g => Says.onL fun xs e => Says.onRef fun r' i' ea => Says.get fun o' g' => Says.onL fun ys e' => Says.req fun hl => set_then fun r0 => ?_;subst ea;refine BiJ.two fun m A s u w R hu hw rm => ?_;obtain ⟨p, us, n, e1, rfl, l1, v1⟩ := R.list hu (g.trans e);obtain ⟨p', us', n', e1', rfl, l1', v1'⟩ := R.list hw (g'.trans e');have hsz : us.size + us'.size <= sizeLine := by rw [v1.size, v1'.size]; exact lim_line hl
 have ch := list_changed (ys := xs ++ ys) (f := (· ++ us')) R (g.trans e) e1 l1 r0 (by rw [Array.toList_append]; exact v1.append v1')
 refine Does.wp (s' := { s with heap := s.heap.update p.1 (Obj.mapSeq (· ++ us')), toks := s.toks }) (fun Q E q => ?_) ch.2 ⟨ch.1, rfl⟩
 refine call_meets F.slot_list_extend (isL_of l1).typeIs F.entry_list_extend (F.args_list_extend_2 _ _) (AutoSeq1.list_extend_list_list_0 p.1 us n p'.1 us' n' ?_ (le_trans (Nat.le_add_right _ _) hsz) (Nat.le_succ_of_le hsz)) ⟨l1, l1', q⟩;intro z;exact absurd (of_decide_eq_true (Bool.and_eq_true_iff.1 z).2) (Nat.not_lt.2 hsz)
theorem popO_ok : Says (popO H r i) (BiJ B (.builtin "list.pop") [.ref r i] H) := by
 refine Says.get fun o g => Says.onL fun xs e => Says.req fun hl => Says.bind (F := fun v => xs.getLast? = some v) (Says.askO fun _ h => h) fun v hx => set_then fun r0 => ?_;refine BiJ.one fun m A s u R ha rm => ?_;obtain ⟨p, us, n, e1, rfl, l1, v1⟩ := R.list ha (g.trans e);have hz := v1.size;rw [List.getLast?_eq_getElem?, <- hz] at hx;obtain ⟨u, u1, u2⟩ := some_at v1 hx;have ch := list_changed (ys := xs.dropLast) (f := fun xs => xs.eraseIdxIfInBounds (us.size - 1)) R (g.trans e) e1 l1 r0 (by rw [dropLast_erase]; exact v1.dropLast)
 refine Does.wp (s' := { s with heap := s.heap.update p.1 (Obj.mapSeq fun xs => xs.eraseIdxIfInBounds (us.size - 1)) }) (fun Q E q => ?_) ch.2 ⟨ch.1, u2⟩
 exact call_meets F.slot_list_pop (isL_of l1).typeIs F.entry_list_pop (F.args_list_pop_1 _) (MeetsSeq.list_pop_last p.1 us n u u1 (by rw [hz]; exact lim_line hl)) ⟨l1, q⟩
end
noncomputable def listM (x : Str) : MR (Nat -> Nat -> List V -> Hp -> OM (V × Hp)) := match decide (x = "append") with
 | true => some ("list.append", fun r i as H => on1 as fun a => (appendO H r i a).bind fun H => ret (.none, H))
 | false => match decide (x = "extend") with
  | true => some ("list.extend", fun r i as H => on1 as fun a => extendO H r i a)
  | false => match decide (x = "pop") with
   | true => some ("list.pop", fun r i as H => on0 as (popO H r i))
   | false => none
theorem listM_ok {B : Bs} {H : Hp} {r i : Nat} {xs : List V} (g : H.get r i = some (.list xs)) (x : Str) : OptP (listM x) fun q => GetJ B H (.ref r i) x q.1 /\ ∀ as H', Says (q.2 r i as H') (BiJ B (.builtin q.1) (.ref r i :: as) H') := by
 have nd : ∀ {m : Mp} {s : Shared} {p : Nat × Nat} {us : Array Value} {n : Nat}, IsL s.heap p.1 us n -> ∀ b, Value.ref p.1 = .ref b -> ∃ o, s.heap.get? b = some o /\ o.dict = none := fun {m s p us n} l1 b e => by cases e; exact ⟨_, l1, rfl⟩
 unfold listM;cases h1 : decide (x = "append") with
 | true =>
  obtain rfl := of_decide_eq_true h1;refine ⟨fun m A sh u pl Q E R hv q => ?_, fun as H' => Says.on1 fun a e => e ▸ Says.bind appendO_ok fun H2 h => Says.ret (BiJ.two fun m A s u w R hu hw rm => h m A s u w R hu hw)⟩;obtain ⟨p, us, n, e1, rfl, l1, v1⟩ := R.list hv g;exact getMethod_builtin (isL_of l1).typeIs F.plainAttrs_list slot_list_append (by first | exact F.type_list_append | exact type_list_append) (nd (m := m) l1) q
 | false =>
  cases h2 : decide (x = "extend") with
  | true =>
   obtain rfl := of_decide_eq_true h2;refine ⟨fun m A sh u pl Q E R hv q => ?_, fun as H' => Says.on1 fun a e => e ▸ extendO_ok⟩;obtain ⟨p, us, n, e1, rfl, l1, v1⟩ := R.list hv g;exact getMethod_builtin (isL_of l1).typeIs F.plainAttrs_list F.slot_list_extend F.type_list_extend (nd (m := m) l1) q
  | false =>
   cases h3 : decide (x = "pop") with
   | true =>
    obtain rfl := of_decide_eq_true h3;refine ⟨fun m A sh u pl Q E R hv q => ?_, fun as H' => Says.on0 fun e => e ▸ popO_ok⟩;obtain ⟨p, us, n, e1, rfl, l1, v1⟩ := R.list hv g;exact getMethod_builtin (isL_of l1).typeIs F.plainAttrs_list F.slot_list_pop F.type_list_pop (nd (m := m) l1) q
   | false => trivial
noncomputable def dgetO (H : Hp) (r i : Nat) (k dv : V) : OM (V × Hp) := (getO H r i).bind fun o => onD o fun es => (askO Ans.k? (keyV k)).bind fun q => (askT Ans.ov? (inD q es)).bind fun v => match v with
 | some v => ret (v, H)
 | none => ret (dv, H)
noncomputable def dsetO (H : Hp) (r i : Nat) (k dv : V) : OM (V × Hp) := (getO H r i).bind fun o => onD o fun es => reqO (es.length < limN) ((askO Ans.k? (keyV k)).bind fun q => (askT Ans.ov? (inD q es)).bind fun v => match v with
 | some v => ret (v, H)
 | none => (setO H r i (.dict (putD q k dv es))).bind fun H => ret (dv, H))
section
variable {B : Bs} (K : BOk B) {H : Hp} {r i : Nat}
include K
theorem dgetO_ok {k dv : V} : Says (dgetO H r i k dv) (BiJ B (.builtin "dict.get") [.ref r i, k, dv] H) := by
 refine Says.get fun o g => Says.onD fun es e => Says.bind (F := fun q => keyV k = some q) (Says.askO fun _ h => h) fun q hk => Says.bind (F := fun v => inD q es = v) (Says.askT fun _ h => h) fun v hv => ?_;have fin : ∀ w : V, (∀ m kvs u3, DRs m es kvs -> VR m dv u3 -> VR m w ((valueAt kvs q).getD u3)) -> BiJ B (.builtin "dict.get") [.ref r i, k, dv] H (w, H) := by
  intro w hw m A s us R ha rm;obtain ⟨u1, u2, u3, rfl⟩ := VRs.three ha;obtain ⟨p, kvs, e1, rfl, D, dr, hs⟩ := R.dict K ha.1 (g.trans e);exact val_same (k := s.toks + 1) R (hw m kvs u3 dr ha.2.2.1) fun Q E qq => call_meetsIn F.slot_dict_get D.dictOf.typeIs F.entry_dict_get (F.args_dict_get_3 _ _ _) (meets_dict_get_default (uKind B.prog B.w) p.1 (key_is hk ha.2.1) hs u3) ⟨_, D.dictOf.mapOf, qq⟩
 cases v with
 | none =>
  refine Says.ret (fin dv fun m kvs u3 dr h3 => ?_);have z := inD_ok (k := q) dr;rw [hv] at z;rw [show valueAt kvs q = none from z]; exact h3
 | some v =>
  refine Says.ret (fin v fun m kvs u3 dr h3 => ?_);have z := inD_ok (k := q) dr;rw [hv] at z;obtain ⟨w', w1, w2⟩ := z;rw [w1]; exact w2
theorem dsetO_ok {k dv : V} : Says (dsetO H r i k dv) (BiJ B (.builtin "dict.setdefault") [.ref r i, k, dv] H) := by
 refine Says.get fun o g => Says.onD fun es e => Says.req fun hz => Says.bind (F := fun q => keyV k = some q) (Says.askO fun _ h => h) fun q hk => Says.bind (F := fun v => inD q es = v) (Says.askT fun _ h => h) fun v hv => ?_;have fin : ∀ r' : V × Hp, (∀ m (A : Around) (s : Shared) u3 kvs (p : Nat × Nat) (Q : Value -> Shared -> Prop), Rel B m H s.heap -> m r i = some p -> DRs m es kvs -> s.heap.DictAt (uKind B.prog B.w) p.1 kvs kvs.length -> VR m dv u3 -> (∀ m' a s', Step B [] m s.heap m' s'.heap -> ValP B r' m' a s' -> [Sam B s'] -> Q a s') -> Sam B s ->
   (∀ w', valueAt kvs q = some w' -> Q w' { s with toks := s.toks + 1 }) /\ (valueAt kvs q = none -> ∀ h', h'.DictAt (uKind B.prog B.w) p.1 (stored kvs q u3) (stored kvs q u3).length -> Heap.SameBut p.1 s.heap h' -> Q u3 { s with heap := h', toks := s.toks + 1 })) ->
   BiJ B (.builtin "dict.setdefault") [.ref r i, k, dv] H r' := by
  intro r' hw m A s us R ha rm Q E w i;obtain ⟨u1, u2, u3, rfl⟩ := VRs.three ha;obtain ⟨p, kvs, e1, rfl, D, dr, hs⟩ := R.dict K ha.1 (g.trans e);obtain ⟨h1, h2⟩ := hw m A s u3 kvs p Q R e1 dr D ha.2.2.1 w i;refine wpAny_call_entry F.slot_dict_setdefault D.dictOf.typeIs F.entry_dict_setdefault ?_ (F.args_dict_setdefault_3 _ _ _);unfold Builtin.«dict.setdefault»;refine wpAny_bind ?_;unfold Builtin.Dict.keyAndDefault;refine wpAny_bind (wpAny_notOrdered_dict D.dictOf.typeIs ?_);show wpAny _ _ (pure (p.1, u2, some u3)) _ _ s;refine wpAny_pure ?_;show wpAny _ _ (if (p.1 == sysModules) = true then _ else (dictSetDefault p.1 u2 u3 >>= _)) _ _ s
  rw [if_neg (by rw [hs]; exact Bool.false_ne_true)]
  exact wpAny_bind (setDefault_at (key_is hk ha.2.1) D (fun w' hw' => wpAny_pure ⟨_, rfl, h1 w' hw'⟩) (fun hn h' hd hsb => wpAny_pure ⟨_, rfl, h2 hn h' hd hsb⟩) (by rw [dr.length]; exact lim_line (Nat.le_of_lt hz)))
 cases v with
 | some v =>
  refine Says.ret (fin _ fun m A s u3 kvs p Q R e1 dr D h3 w i => ?_);have z := inD_ok (k := q) dr;rw [hv] at z;obtain ⟨w3, w4, w5⟩ := z;exact ⟨fun w' hw' => by rw [w4] at hw'; cases hw'; exact w m _ _ (Step.refl ..) ⟨R, w5⟩, fun hn => by rw [w4] at hn; cases hn⟩
 | none =>
  refine set_then fun r0 => fin _ fun m A s u3 kvs p Q R e1 dr D h3 w i => ?_;have z := inD_ok (k := q) dr;rw [hv] at z;refine ⟨fun w' hw' => (by rw [show valueAt kvs q = none from z] at hw'; cases hw'), fun hn h' hd hsb => ?_⟩
  have wr := R.write1 (o := .dict (putD q k _ es)) (g.trans e) r0 e1 hsb ⟨_, hd, putD_ok hk h3 dr D.nodup⟩;exact w m _ _ wr.2 ⟨wr.1, h3⟩
end
noncomputable def dictM (x : Str) : MR (Nat -> Nat -> List V -> Hp -> OM (V × Hp)) := match decide (x = "get") with
 | true => some ("dict.get", fun r i as H => on2 as fun k dv => dgetO H r i k dv)
 | false => match decide (x = "setdefault") with
  | true => some ("dict.setdefault", fun r i as H => on2 as fun k dv => dsetO H r i k dv)
  | false => none
theorem dictM_ok {B : Bs} (K : BOk B) {H : Hp} {r i : Nat} {es : List (V × V)} (g : H.get r i = some (.dict es)) (x : Str) : OptP (dictM x) fun q => GetJ B H (.ref r i) x q.1 /\ ∀ as H', Says (q.2 r i as H') (BiJ B (.builtin q.1) (.ref r i :: as) H') := by
 unfold dictM;cases h1 : decide (x = "get") with
 | true =>
  obtain rfl := of_decide_eq_true h1;refine ⟨fun m A sh u pl Q E R hv q => ?_, fun as H' => Says.on2 fun a b e => e ▸ dgetO_ok K⟩;obtain ⟨p, kvs, e1, rfl, D, dr, hs⟩ := R.dict K hv g;exact getMethod_builtin D.dictOf.typeIs F.plainAttrs_dict F.slot_dict_get F.type_dict_get D.dictOf.mapOf.noDict q
 | false =>
  cases h2 : decide (x = "setdefault") with
  | true =>
   obtain rfl := of_decide_eq_true h2;refine ⟨fun m A sh u pl Q E R hv q => ?_, fun as H' => Says.on2 fun a b e => e ▸ dsetO_ok K⟩;obtain ⟨p, kvs, e1, rfl, D, dr, hs⟩ := R.dict K hv g;exact getMethod_builtin D.dictOf.typeIs F.plainAttrs_dict F.slot_dict_setdefault F.type_dict_setdefault D.dictOf.mapOf.noDict q
  | false => trivial
end
section
open PySem.SeqAt PySem.Builtin.Str
noncomputable abbrev bindBody (x : Str × Value) (slots : List (Str × Value)) : Sem (ForInStep (List (Str × Value))) :=
 if (List.lookup x.fst slots).isNone = true then pure (ForInStep.yield (slots ++ [(x.fst, x.snd)])) else pure (ForInStep.yield slots)
theorem bind_there : ∀ (zs ws slots : List (Str × Value)), (∀ z ∈ zs, (slots.lookup z.1).isNone = false) -> (forIn (zs ++ ws) slots bindBody : Sem _) = forIn ws slots bindBody
 | [], _, _, _ => rfl
 | z :: zs, ws, slots, h => by
  rw [List.cons_append, List.forIn_cons];unfold bindBody;rw [h z mem_cons_self, if_neg (by decide)]
  exact bind_there zs ws slots fun y hy => h y (mem_cons_of_mem _ hy)
theorem lookup_append_none {x : Str} : ∀ {l r : List (Str × Value)}, l.lookup x = none -> (l ++ r).lookup x = r.lookup x
 | [], _, _ => rfl
 | (y, v) :: l, r, h => by
  rw [List.cons_append, List.lookup_cons] at *;cases q : x == y with
  | true => rw [q] at h; cases h
  | false => rw [q] at h; exact lookup_append_none h
theorem lookup_append_some {x : Str} {v : Value} : ∀ {l r : List (Str × Value)}, l.lookup x = some v -> (l ++ r).lookup x = some v
 | [], _, h => by cases h
 | (y, w) :: l, r, h => by
  rw [List.cons_append];rw [List.lookup_cons] at *;cases q : x == y with
  | true => rw [q] at h; exact h
  | false => rw [q] at h; exact lookup_append_some h
theorem bind_fresh : ∀ (zs slots : List (Str × Value)), (zs.map (·.1)).Nodup -> (∀ z ∈ zs, slots.lookup z.1 = none) -> (forIn zs slots bindBody : Sem _) = pure (slots ++ zs)
 | [], slots, _, _ => by rw [List.append_nil]; rfl
 | z :: zs, slots, hn, h => by
  rw [List.forIn_cons];unfold bindBody;rw [h z mem_cons_self, show (none : Option Value).isNone = true from rfl, if_pos rfl]
  rw [List.map_cons, List.nodup_cons] at hn;have := bind_fresh zs (slots ++ [z]) hn.2 fun y hy => by
   rw [lookup_append_none (h y (mem_cons_of_mem _ hy))];have ne : y.1 ≠ z.1 := fun e => hn.1 (List.mem_map.mpr ⟨y, hy, e⟩);have : (y.1 == z.1) = false := by simpa using ne
   rw [List.lookup_cons, this]; rfl
  rw [List.append_assoc] at this;exact this
theorem lookup_zip_none {x : Str} : ∀ {P : List Str} {V : List Value}, x ∉ P -> (P.zip V).lookup x = none
 | [], _, _ => by rw [List.zip_nil_left]; rfl
 | _ :: _, [], _ => by rw [List.zip_nil_right]; rfl
 | p :: P, v :: V, h => by
  rw [List.zip_cons_cons, List.lookup_cons];have ne : x ≠ p := fun e => h (by rw [e]; exact mem_cons_self)
  have : (x == p) = false := by simpa using ne
  rw [this];exact lookup_zip_none fun m => h (mem_cons_of_mem _ m)
theorem lookup_zip_some {x : Str} : ∀ {P : List Str} {V : List Value}, P.length <= V.length -> x ∈ P -> ((P.zip V).lookup x).isNone = false
 | p :: P, [], h, _ => by simp at h
 | p :: P, v :: V, h, m => by
  rw [List.zip_cons_cons, List.lookup_cons];cases q : x == p with
  | true => rfl
  | false =>
   rcases List.mem_cons.mp m with e | m
   ·rw [e] at q; simp at q
   ·exact lookup_zip_some (by simpa using h) m
theorem filterMap_zip : ∀ {P : List Str} {V : List Value}, P.Nodup -> P.length = V.length -> P.filterMap (fun n => ((P.zip V).lookup n).map fun x => (n, x)) = P.zip V
 | [], _, _, _ => by rw [List.zip_nil_left]; rfl
 | _ :: _, [], _, h => by simp at h
 | p :: P, v :: V, hn, h => by
  rw [List.nodup_cons] at hn;rw [List.zip_cons_cons, List.filterMap_cons];have e1 : (((p, v) :: P.zip V).lookup p).map (fun x => (p, x)) = some (p, v) := by rw [List.lookup_cons]; simp
  rw [e1];have e2 : P.filterMap (fun n => (((p, v) :: P.zip V).lookup n).map fun x => (n, x)) = P.filterMap (fun n => ((P.zip V).lookup n).map fun x => (n, x)) := by
   have : ∀ (Q : List Str), (∀ x ∈ Q, x ≠ p) -> Q.filterMap (fun n => (((p, v) :: P.zip V).lookup n).map fun x => (n, x)) = Q.filterMap (fun n => ((P.zip V).lookup n).map fun x => (n, x)) := by
    intro Q hQ
    induction Q with
    | nil => rfl
    | cons y Q ih =>
     have ny : (y == p) = false := by simpa using hQ y mem_cons_self
     rw [List.filterMap_cons, List.filterMap_cons, ih fun x hx => hQ x (mem_cons_of_mem _ hx), List.lookup_cons, ny]
   exact this P fun x hx e => hn.1 (e ▸ hx)
  rw [e2, filterMap_zip hn.2 (by simpa using h)]
theorem bindArgs_ok {M : Model} {A : Around} {E : Value -> Shared -> Prop} {s : Shared} {Q : List (Str × Value) -> Shared -> Prop} {fd : FuncData} {us D : List Value} {P : List Str} {r : Option (Array Value)} (h1 : fd.params.posonlyargs = []) (h2 : fd.params.vararg = none)
  (h3 : fd.params.kwonlyargs = []) (h4 : fd.params.kwarg = none) (hP : fd.params.args.map (·.arg) = P) (hn : P.Nodup) (hD : (r.getD #[]).toList = D) (hS : ∀ Q : Option (Array Value) -> Shared -> Prop, Q r s -> wpAny M A (seqItems? fd.defaults) Q E s)
  (l1 : us.length <= P.length) (l2 : P.length <= us.length + D.length) (l3 : D.length <= P.length) (q : Q (P.zip (us ++ D.drop (us.length + D.length - P.length))) s) : wpAny M A (bindArgs fd ⟨us, []⟩) Q E s := by
 obtain ⟨_, qn, ⟨po, ar, va, ko, kd, kw, df⟩, _, _, _, _, dfs, _, _, _, _, _, _, _⟩ := fd;dsimp only at h1 h2 h3 h4 hP hS;subst h1 h2 h3 h4;unfold bindArgs;dsimp only [List.forIn_nil];rw [hP, pure_bind];refine wpAny_bind (hS _ ?_);rw [if_neg (show ¬ (decide (us.length > (List.map (fun x : Arg => x.arg) [] ++ P).length) && (none : Option Arg).isNone) = true by
  show ¬ (decide (us.length > P.length) && true) = true;rw [decide_eq_false (Nat.not_lt.2 l1)];exact Bool.false_ne_true)]
 simp only [hD, List.map_nil, List.nil_append, List.append_nil, List.forIn_nil, pure_bind];have e0 : D.drop (D.length - P.length) = D := by rw [Nat.sub_eq_zero_of_le l3]; rfl
 simp only [e0]
 -- the names that are given, and the others
 generalize hX : P.take us.length = X;generalize hY : P.drop us.length = Y;have eP : P = X ++ Y := by rw [<- hX, <- hY]; exact (List.take_append_drop _ _).symm
 have lX : X.length = us.length := by rw [<- hX, List.length_take]; exact Nat.min_eq_left l1
 have lP : P.length = X.length + Y.length := by rw [eP, length_append]
 have hz : P.zip us = X.zip us := by
  have : us = us ++ [] := (List.append_nil _).symm;rw [eP]
  conv => lhs; rw [this]
  rw [List.zip_append lX, List.zip_nil_right, List.append_nil]
 rw [hz];generalize hf : P.length - D.length = first
 have lf' : first <= us.length := hf ▸ Nat.sub_le_iff_le_add.2 l2
 have lf : first <= X.length := lX ▸ lf'
 have lP2 : first + D.length = P.length := hf ▸ Nat.sub_add_cancel l3
 have m0 : (P.take first).filter (fun n => ((X.zip us).lookup n).isNone) = [] := by
  rw [List.filter_eq_nil_iff];intro n hnm;have hm : n ∈ X := by
   rw [eP, List.take_append_of_le_length lf] at hnm;exact List.mem_of_mem_take hnm
  rw [lookup_zip_some (le_of_eq lX) hm];decide
 rw [m0, if_neg (by decide)]
 have e1 : (P.drop first).zip D = ((X.drop first).zip (D.take (us.length - first))) ++ (Y.zip (D.drop (us.length - first))) := by
  rw [eP, List.drop_append_of_le_length lf]
  conv => lhs; rw [<- List.take_append_drop (us.length - first) D]
  rw [List.zip_append];rw [List.length_drop, List.length_take, lX];exact (Nat.min_eq_left (Nat.sub_le_iff_le_add'.2 (lP2 ▸ l1))).symm
 rw [e1];have nX : ∀ n ∈ Y, n ∉ X := fun n h1 h2 => by
  rw [eP, List.nodup_append] at hn;exact hn.2.2 n h2 n h1 rfl
 have lp : (forIn ((X.drop first).zip (D.take (us.length - first)) ++ Y.zip (D.drop (us.length - first))) (X.zip us) bindBody : Sem _) = pure (X.zip us ++ Y.zip (D.drop (us.length - first))) := by
  rw [bind_there _ _ _ fun z hz => ?_]
  ·refine bind_fresh _ _ ?_ fun z hz => ?_
   ·rw [List.map_fst_zip (by rw [List.length_drop, Nat.sub_sub_right _ lf', Nat.add_comm, lP2, <- hY, List.length_drop]; exact Nat.le_refl _)]
    rw [eP, List.nodup_append] at hn;exact hn.2.1
   ·exact lookup_zip_none (nX _ (List.of_mem_zip hz).1)
  ·exact lookup_zip_some (le_of_eq lX) (List.mem_of_mem_drop (List.of_mem_zip hz).1)
 refine wpAny_bind (wpAny_of_eq lp ?_);rw [if_neg (by decide)]
 have e2 : X.zip us ++ Y.zip (D.drop (us.length - first)) = P.zip (us ++ D.drop (us.length + D.length - P.length)) := by
  rw [eP, List.zip_append lX, <- eP];rw [<- lP2, Nat.add_sub_add_right]
 rw [e2, filterMap_zip hn (by rw [length_append, List.length_drop, <- lP2, Nat.add_sub_add_right, Nat.sub_sub_right _ lf', Nat.add_comm D.length, Nat.add_sub_cancel' (lP2 ▸ l1)])]
 exact wpAny_pure q
theorem Room.deep {d : Nat} {A : Around} (r : Room (d + 1) A) (env : Env) : Room d (A.deeper env) :=
 r.of r.handled (roomStep 3 (by decide)) (roomStep 30 (by decide))
theorem creation_room {d : Nat} {A : Around} (r : Room (d + 1) A) (a : Nat) (us : List Value) : Room d (A.under (.builtin "type.__call__" ⟨.ref a :: us, []⟩)) := by
 have w : (Code.builtin "type.__call__" ⟨.ref a :: us, []⟩).weight = 1 := by kernel_rfl
 have u : (Code.builtin "type.__call__" ⟨.ref a :: us, []⟩).cUnits = 1 := by kernel_rfl
 exact r.of r.handled (roomStep (k := (Code.builtin "type.__call__" ⟨.ref a :: us, []⟩).weight) 3 (by rw [w]; decide)) (roomStep (k := (Code.builtin "type.__call__" ⟨.ref a :: us, []⟩).cUnits) 30 (by rw [u]; decide))
theorem lookIn_none {o : Obj} {es : Array DictEntry} {ep : Nat} {name : Str} (hd : o.data = .dict es ep) (hk : StrKeys es) (h : nsFind es name = none) : lookIn name o = some none := by
 unfold lookIn;rw [hd];unfold nsFind findBy at h;rw [<- Array.find?_toList] at h;cases q : es.toList.find? fun e => e.key.isStr name with
 | some e => rw [q] at h; cases h
 | none =>
  simp only [q];have : es.toList.any (·.refKey) = false := by
   rw [List.any_eq_false];intro e he;obtain ⟨n, t, hn⟩ := hk e (Array.mem_toList_iff.mp he);unfold DictEntry.refKey;rw [hn]; exact nofun
  rw [this]; rfl
theorem binds_zip {m : Mp} : ∀ {P : List Str} {xs : List V} {us : List Value}, VRs m xs us -> FVs m (P.zip xs) (P.zip us)
 | [], _, _, _ => by rw [List.zip_nil_left, List.zip_nil_left]; trivial
 | _ :: _, [], [], _ => by rw [List.zip_nil_right, List.zip_nil_right]; trivial
 | p :: P, x :: xs, u :: us, ⟨a, b⟩ => by rw [List.zip_cons_cons, List.zip_cons_cons]; exact ⟨⟨rfl, a⟩, binds_zip b⟩
 | _ :: _, [], _ :: _, h => h.elim
 | _ :: _, _ :: _, [], h => h.elim
noncomputable def bindP (ps : List Str) (ds args : List V) : Option (List (Str × V)) := match decide (args.length <= ps.length) && decide (ps.length <= args.length + ds.length) with
 | true => some (ps.zip (args ++ ds.drop (args.length + ds.length - ps.length)))
 | false => none
theorem bindP_some {ps : List Str} {ds as : List V} {bs : List (Str × V)} (h : bindP ps ds as = some bs) : (as.length <= ps.length /\ ps.length <= as.length + ds.length) /\ bs = ps.zip (as ++ ds.drop (as.length + ds.length - ps.length)) := by
 unfold bindP at h;cases q : decide (as.length <= ps.length) && decide (ps.length <= as.length + ds.length) with
 | false => rw [q] at h; cases h
 | true =>
  rw [q] at h;rw [Bool.and_eq_true, decide_eq_true_eq, decide_eq_true_eq] at q;exact ⟨q, (Option.some.inj h).symm⟩
noncomputable def cellsO : List (Str × NameKind) -> List (Str × Nat × Nat) -> Hp -> OM (List (Str × Nat × Nat) × Hp)
 | [], acc, H => ret (acc, H)
 | x :: r, acc, H => match x.2 == .cell with
  | true => (newO H (.cell none)).bind fun p => cellsO r ((x.1, H.reg, H.nxt) :: acc) p.2
  | false => cellsO r acc H
noncomputable abbrev layF (x : Str × NameKind) (cells : List (Str × Addr)) : Sem (ForInStep (List (Str × Addr))) := if x.2 == .cell then (do let a <- alloc { cls := .type "cell", data := .cell none }; pure (.yield ((x.1, a) :: cells))) else pure (.yield cells)
def CellsJ (B : Bs) (names : List (Str × NameKind)) (acc : List (Str × Nat × Nat)) (H : Hp) (r : List (Str × Nat × Nat) × Hp) : Prop := ∀ m A s acc', Rel B m H s.heap -> CVs m acc acc' -> Does B A [] (forIn names acc' layF) m s (fun m' cs' s' => Rel B m' r.2 s'.heap /\ CVs m' r.1 cs')
theorem cellsO_ok {B : Bs} : ∀ {names : List (Str × NameKind)} {acc : List (Str × Nat × Nat)} {H : Hp}, Says (cellsO names acc H) (CellsJ B names acc H)
 | [], acc, H => Says.ret fun m A s acc' R c => by
  rw [List.forIn_nil];exact Does.pure ⟨R, c⟩
 | x :: r, acc, H => by
  unfold cellsO;cases hk : x.2 == NameKind.cell with
  | false =>
   refine (cellsO_ok (B := B)).mono fun q h m A s acc' R c => ?_;rw [List.forIn_cons, show layF x acc' = pure (.yield acc') from by unfold layF; rw [hk]; rfl]
   exact h m A s acc' R c
  | true =>
   refine Says.bind (F := fun p => p.2 = H.push (.cell none)) (Says.new rfl) fun p hp => (cellsO_ok (B := B)).mono fun q h m A s acc' R c => ?_;rw [hp] at h;rw [List.forIn_cons, show layF x acc' = (do let a <- alloc { cls := .type "cell", data := .cell none }; pure (.yield ((x.1, a) :: acc'))) from by unfold layF; rw [hk]; rfl]
   obtain ⟨m1, R1, st1, hm⟩ := R.make (.cell none) (h' := s.heap.push { cls := .type "cell", data := .cell none }) (p := (s.heap.objs.size, s.heap.objs.size)) (push_old _) (objs_le ..) ⟨Nat.le_refl _, objs_lt ..⟩ ⟨Nat.le_refl _, objs_lt ..⟩
    fun m' l => ⟨none, ⟨_, push_self rfl, rfl⟩, fun _ z => nomatch z⟩
   intro Q E w _;refine wpAny_bind (wpAny_bind (wpAny_alloc (wpAny_pure ?_)));exact h m1 A { s with heap := s.heap.push { cls := .type "cell", data := .cell none } } ((x.1, s.heap.objs.size) :: acc') R1 ⟨⟨rfl, _, hm, rfl⟩, c.mono st1.le⟩ Q E fun m2 cs2 s2 st2 p2 => w m2 cs2 s2 (st1.trans st2) p2
noncomputable def bindsO : List (Str × V) -> En -> Hp -> OM (En × Hp)
 | [], e, H => ret (e, H)
 | x :: r, e, H => (storeO e H x.1 x.2).bind fun p => bindsO r p.1 p.2
noncomputable abbrev bindF (env : Env) (x : Str × Value) (_ : PUnit) : Sem (ForInStep PUnit) := do storeName env x.1 x.2; pure (.yield PUnit.unit)
def BindsJ (B : Bs) (bs : List (Str × V)) (e : En) (H : Hp) (r : En × Hp) : Prop := ∀ m A env s us, Rel B m H s.heap -> EnvOk B m e env s.heap -> FVs m bs us -> Does B A [env.locals] (forIn us PUnit.unit (bindF env)) m s (fun m' _ s' => EnvP B env r m' () s')
theorem bindsO_ok {B : Bs} : ∀ {bs : List (Str × V)} {e : En} {H : Hp}, Says (bindsO bs e H) (BindsJ B bs e H)
 | [], e, H => Says.ret fun m A env s us R N v => by
  cases us with
  | nil => rw [List.forIn_nil]; exact Does.pure ⟨R, N⟩
  | cons _ _ => exact v.elim
 | x :: bs, e, H => storeO_ok.bind fun p h1 => bindsO_ok.mono fun r h2 m A env s us R N v => by
  cases us with
  | nil => exact v.elim
  | cons u us =>
   rw [List.forIn_cons];intro Q E q _;unfold bindF;rw [<- v.1.1];refine wpAny_bind (wpAny_bind (h1 m A env s u.2 R N v.1.2 _ E fun m1 _ s1 st1 p1 => wpAny_pure ?_));exact h2 m1 A env s1 us p1.1 p1.2 (v.2.mono st1.le) Q E fun m2 r s2 st2 p2 => q m2 r s2 (st1.trans st2) p2
noncomputable def envO (names : List (Str × NameKind)) (cl : List (Str × Nat × Nat)) (qual : Str) (binds : List (Str × V)) (H : Hp) : OM (En × Hp) := (cellsO names cl H).bind fun p => bindsO binds ⟨[], p.1, names, qual⟩ p.2
def FrameJ (B : Bs) (names : List (Str × NameKind)) (cl : List (Str × Nat × Nat)) (qual : Str) (binds : List (Str × V)) (H : Hp) (r : En × Hp) : Prop := ∀ m A s (scope : Scope) cl' us (a : Nat) code, scope.names = names -> Rel B m H s.heap -> scope.kind = .function -> CVs m cl cl' -> FVs m binds us -> (∀ q, pgT.nest qual = some q -> ∃ c P, B.codeT q = some (c, P) /\ code = .ref c) ->
  Does B A [] (newFunctionEnv scope mainGlobals cl' us qual (some a) code none builtinsNs) m s (fun m' env s' => EnvP B env r m' () s' /\ s.heap.objs.size <= (env.locals : Nat))
theorem envO_ok {B : Bs} {names : List (Str × NameKind)} {cl : List (Str × Nat × Nat)} {qual : Str} {binds : List (Str × V)} {H : Hp} : Says (envO names cl qual binds H) (FrameJ B names cl qual binds H) := by
 refine (cellsO_ok (B := B)).bind fun p h1 => (bindsO_ok (B := B)).mono fun r h2 => ?_;rintro m A s scope cl' us a code rfl R hk hc hb hcode Q E q _;simp only [newFunctionEnv, Option.isSome_none, Bool.false_eq_true, if_false];refine wpAny_bind (wpAny_alloc ?_);have pr := R.priv (X := []) (h' := s.heap.push { cls := .type "frame", data := .dict #[] }) (fun _ z => nomatch z) (fun b o _ z => push_old _ b o z) (objs_le ..)
 have ow := own_new (h' := s.heap.push { cls := .type "frame", data := .dict #[] }) R (Nat.le_refl s.heap.objs.size) (objs_lt ..);refine wpAny_bind (h1 m A { s with heap := s.heap.push { cls := .type "frame", data := .dict #[] } } cl' pr.1 hc _ E fun m1 cs' s1 st1 p1 => ?_)
 intro _;obtain ⟨R1, c1⟩ := p1;have ow1 := ow.step st1;have n0 : s1.heap.Ns s.heap.objs.size (fun _ => none) := Ns_keep (Heap.Ns.new s.heap (.type "frame")) fun o z => st1.keep _ _ (pr.1.notTab ow.low) (fun z => nomatch z) ow.np z
 have Nc : EnvOk B m1 ⟨[], p.1, scope.names, qual⟩ { scope, locals := s.heap.objs.size, globals := mainGlobals, cells := cs', qual, func := some a, code, frame := some s.heap.objs.size, builtins := builtinsNs } s1.heap :=
  ⟨hk, rfl, ⟨_, n0, fun x v z => nomatch z⟩, ow1.np, ow1.low, fun x p z => CVs.lookup c1 z, rfl, rfl, rfl, hcode⟩
 have hb1 : FVs m1 binds us := hb.mono (pr.2.le.trans st1.le);refine wpAny_bind (h2 m1 A _ s1 us R1 Nc hb1 _ E fun m2 _ s2 st2 p2 => wpAny_pure ?_);refine q m2 _ s2 ?_ ⟨p2, Nat.le_refl _⟩;exact Step.narrow (X := []) (Y := [s.heap.objs.size]) (((pr.2.trans st1).nil (Y := [s.heap.objs.size])).trans st2) fun b hb => by rw [List.mem_singleton] at hb; subst hb; exact Nat.le_refl _
structure FdR (B : Bs) (m : Mp) (s : Shared) (f : Nat) (fd : FuncData) (names : List (Str × NameKind)) (ps : List Str) (ds : List V) (cl : List (Str × Nat × Nat)) (qual : Str) : Prop where
 at_ : ∃ o, s.heap.get? f = some o /\ o.data = .func fd
 nms : fd.scope.names = names
 ql : fd.qualname = qual
 globals : fd.globals = mainGlobals
 builtins : fd.builtins = builtinsNs
 kind : fd.scope.kind = .function
 co : fd.scope.isCoroutine = false
 gen : fd.scope.isGenerator = false
 po : fd.params.posonlyargs = []
 va : fd.params.vararg = none
 ko : fd.params.kwonlyargs = []
 kwa : fd.params.kwarg = none
 params : fd.params.args.map (·.arg) = ps
 nodup : ps.Nodup
 dflt : ∃ r, VRs m ds (r.getD #[]).toList /\ ∀ (A : Around) (E : Value -> Shared -> Prop) (Q : Option (Array Value) -> Shared -> Prop), Q r s -> wpAny (model B.prog B.w) A (seqItems? fd.defaults) Q E s
 few : ds.length <= ps.length
 cells : CVs m cl fd.closure
 code : ∀ q, pgT.nest (qual ++ ".<locals>.") = some q -> ∃ c P, B.codeT q = some (c, P) /\ fd.code = .ref c
 rec_ : s.heap.CodeRec fd.code fd.qualname
section
variable {B : Bs} {d : Nat} {H : Hp} {f : Nat} {fd : FuncData} {names : List (Str × NameKind)} {ps : List Str} {ds : List V} {cl : List (Str × Nat × Nat)} {qual : Str} {as : List V} {bs : List (Str × V)} {y : En × Hp}
theorem FdR.binds {m : Mp} {s : Shared} (F : FdR B m s f fd names ps ds cl qual) (h1 : bindP ps ds as = some bs) {us : List Value} (ha : VRs m as us) {A : Around} {E : Value -> Shared -> Prop} {Q : List (Str × Value) -> Shared -> Prop} (q : ∀ zs, FVs m bs zs -> Q zs s) : wpAny (model B.prog B.w) A (bindArgs fd ⟨us, []⟩) Q E s := by
 obtain ⟨hl, rfl⟩ := bindP_some h1;obtain ⟨r, hd, hS⟩ := F.dflt;have la := ha.length;have ld := hd.length;refine bindArgs_ok F.po F.va F.ko F.kwa F.params F.nodup rfl (fun Q q => hS _ _ Q q) (by rw [la]; exact hl.1) (by rw [la, ld]; exact hl.2) (by rw [ld]; exact F.few) (q _ ?_)
 rw [la, ld];exact binds_zip (ha.append (hd.drop _))
theorem FdR.frame {m : Mp} {s : Shared} (F : FdR B m s f fd names ps ds cl qual) (h2 : FrameJ B names cl (qual ++ ".<locals>.") bs H y) (R : Rel B m H s.heap) {zs : List (Str × Value)} (hz : FVs m bs zs) (A : Around) :
  Does B A [] (newFunctionEnv fd.scope fd.globals fd.closure zs (fd.qualname ++ ".<locals>.") (some f) fd.code none fd.builtins) m s (fun m' env s' => EnvP B env y m' () s' /\ s.heap.objs.size <= (env.locals : Nat)) := by
 rw [F.globals, F.builtins, F.ql];exact h2 m A s fd.scope fd.closure zs f fd.code F.nms R F.kind F.cells hz F.code
def RetJ (p : Fl × En × Hp) (r : V × Hp) : Prop := match p.1 with
 | .ret v => r = (v, p.2.2)
 | .next => r = (.none, p.2.2)
 | _ => False
noncomputable def retO (p : Fl × En × Hp) : OM (V × Hp) := match p.1 with
 | .ret v => ret (v, p.2.2)
 | .next => ret (.none, p.2.2)
 | _ => OM.no
theorem retO_ok {p : Fl × En × Hp} : Says (retO p) (RetJ p) := by
 obtain ⟨f, q⟩ := p;cases f
 case ret => exact Says.ret rfl
 case next => exact Says.ret rfl
 all_goals exact Says.no
theorem codes_body (K : BOk B) {b : List Stmt} {p : Fl × En × Hp} {r : V × Hp} (h1 : bindP ps ds as = some bs) (h2 : FrameJ B names cl (qual ++ ".<locals>.") bs H y) (h3 : ExsJ B d y.1 y.2 b p) (h4 : RetJ p r) {m : Mp} {A : Around} {s : Shared} {us : List Value} (F : FdR B m s f fd names ps ds cl qual) (hb : fd.body = .stmts b)
  (R : Rel B m H s.heap) (ha : VRs m as us) (rm : Room (d + 1) A) : Codes B A (.call (.ref f) ⟨us, []⟩) m s (ValP B r) := fun Rr q => by
 obtain ⟨o, ho, hdt⟩ := F.at_;refine codeAny_call_function rm.d ho hdt F.co F.gen hb F.rec_ (F.binds h1 ha fun zs hz => ?_);refine F.frame h2 R hz _ _ _ fun m1 env s1 st1 p1 => ?_;intro _;obtain ⟨⟨R1, N1⟩, lo⟩ := p1;refine ⟨R1.nolim K, codeAny_func (h3 m1 _ env s1 ⟨R1, N1, rm.deep env⟩ _ _ fun m2 u2 s2 st2 p2 => ?_)⟩;intro _;have st : Step B [] m s.heap m2 s2.heap := Step.narrow (X := []) (Y := [(env.locals : Nat)]) ((st1.nil (Y := [(env.locals : Nat)])).trans st2) fun b hb => by rw [List.mem_singleton] at hb; subst hb; exact lo
 obtain ⟨f, e2, H2⟩ := p;obtain ⟨R2, N2, F2⟩ := p2;cases F2 with
 | next => exact q m2 _ s2 st (by rw [show r = _ from h4]; exact ⟨R2, rfl⟩)
 | ret w => exact q m2 _ s2 st (by rw [show r = _ from h4]; exact ⟨R2, w⟩)
 | brk => exact h4.elim
 | cont => exact h4.elim
theorem codes_expr (K : BOk B) {b : Expr} {r : V × Hp} (h1 : bindP ps ds as = some bs) (h2 : FrameJ B names cl (qual ++ ".<locals>.") bs H y) (h3 : EvJ B d y.1 y.2 b r) {m : Mp} {A : Around} {s : Shared} {us : List Value} (F : FdR B m s f fd names ps ds cl qual) (hb : fd.body = .expr b)
  (R : Rel B m H s.heap) (ha : VRs m as us) (rm : Room (d + 1) A) : Codes B A (.call (.ref f) ⟨us, []⟩) m s (ValP B r) := fun Rr q => by
 obtain ⟨o, ho, hdt⟩ := F.at_;refine kla_callFunE rm.d ho hdt F.co F.gen hb F.rec_ (F.binds h1 ha fun zs hz => ?_);refine F.frame h2 R hz _ _ _ fun m1 env s1 st1 p1 => ?_;intro _;obtain ⟨⟨R1, N1⟩, lo⟩ := p1;exact ⟨R1.nolim K, kla_codeExpr (h3 m1 _ env s1 ⟨R1, N1, rm.deep env⟩ _ _ fun m2 u2 s2 st2 p2 => q m2 _ s2 (st1.trans st2) p2)⟩
theorem fdR_fn (K : BOk B) {a : Nat} {fn : Fn} {o : Obj} {fd : FuncData} {c : Nat} (F : FnOk B a fn o fd c) {m : Mp} {s : Shared} (R : Rel B m H s.heap) : FdR B m s a fd fn.scope.names fn.params fn.dflt [] fn.qual where
 at_ := ⟨o, R.keep _ _ F.tab F.at_, F.data⟩
 nms := by rw [F.scope]
 ql := F.qual
 globals := F.globals
 builtins := F.builtins
 kind := F.kind
 co := F.co
 gen := F.gen
 po := F.po
 va := F.va
 ko := F.ko
 kwa := F.kwa
 params := F.params
 nodup := F.nodup
 dflt := by
  rcases F.dflt with ⟨d1, d2⟩ | ⟨T, dus, n, d1, d2, d3, d4⟩
  ·exact ⟨none, by rw [d2]; trivial, fun A E Q q => by rw [d1]; exact wpAny_pure q⟩
  ·exact ⟨some dus, d4.mono R.m0, fun A E Q q => by rw [d1]; exact wpAny_seqItems (R.keep _ _ d2 d3) rfl q⟩
 few := F.few
 cells := by rw [F.closure]; trivial
 code := fun q z => by obtain ⟨P, e⟩ := F.nest q z; exact ⟨c, P, e, F.code⟩
 rec_ := by rw [F.code]; exact code_pin F.rec_ fun o z => R.keep _ _ F.ctab z
theorem fdR_clo {c : Clo} {m : Mp} {s : Shared} {a : Nat} {fd : FuncData} (ho : s.heap.get? a = some { cls := .type "function", data := .func fd }) (C : CloR m c fd s.heap) (hn : pgT.nest (c.qual ++ ".<locals>.") = none) (nd : c.params.Nodup) : FdR B m s a fd c.scope.names c.params [] c.cells c.qual where
 at_ := ⟨_, ho, rfl⟩
 nms := by rw [C.scope]
 ql := C.qual
 globals := C.globals
 builtins := C.builtins
 kind := C.kind
 co := C.co
 gen := C.gen
 po := by rw [C.params]; exact C.po
 va := by rw [C.params]; exact C.va
 ko := by rw [C.params]; exact C.ko
 kwa := by rw [C.params]; exact C.kwa
 params := by rw [C.params]; exact C.names.symm
 nodup := nd
 dflt := ⟨none, trivial, fun A E Q q => by rw [C.dflt]; exact wpAny_pure q⟩
 few := Nat.zero_le _
 cells := C.cells
 code := fun q z => by rw [hn] at z; cases z
 rec_ := let ⟨c', k1, k2, k3⟩ := C.code; by rw [k1]; exact k2
end
end
section
open PySem.SeqAt PySem.Builtin.Str
def CallJ (B : Bs) (d : Nat) (f : V) (as : List V) (H : Hp) (r : V × Hp) : Prop := (∀ m h fu, Rel B m H h -> VR m f fu -> CalleeOk B h fu) /\
 ∀ m A s fu us, Rel B m H s.heap -> VR m f fu -> VRs m as us -> Room d A -> Does B A [] (call fu us) m s (ValP B r)
section
variable {B : Bs} {d : Nat} {as : List V} {H : Hp} {r : V × Hp}
theorem callJ_bi {id : String} (h : BiJ B (.builtin id) as H r) : CallJ B d (.bi id) as H r :=
 ⟨fun m h fu R hf => by rw [show fu = .builtin id from hf]; exact mk_callee_bi _ _, fun m A s fu us R hf ha rm => by rw [show fu = .builtin id from hf]; exact h m A s us R ha rm.zero⟩
theorem callJ_ty {n : String} (h : BiJ B (.type n) as H r) : CallJ B d (.ty n) as H r :=
 ⟨fun m h fu R hf => by rw [show fu = .type n from hf]; exact mk_callee_type _ _, fun m A s fu us R hf ha rm => by rw [show fu = .type n from hf]; exact h m A s us R ha rm.zero⟩
theorem Rel.inK {m : Mp} {h : Heap} (R : Rel B m H h) (K : BOk B) : B.K.In h := fun a o x => R.keep a o (K.frag a o x).2 (K.frag a o x).1
theorem callJ_fn (K : BOk B) {a : Nat} (h : FnJ B d a as H r) : CallJ B d (.ref 0 a) as H r :=
 ⟨fun m hh fu R hf => by
  obtain ⟨p, e1, rfl⟩ := hf;rw [(R.zero a p e1).1];exact keeps_K h.1 hh (R.inK K),
  fun m A s fu us R hf ha rm => by
  obtain ⟨p, e1, rfl⟩ := hf;rw [(R.zero a p e1).1];exact (h.2 m A s us R ha rm).does⟩
theorem callJ_cls (K : BOk B) {a : Nat} {c : Cl} {H' : Hp} (hc : pgT.cls a = some c) (h : FnJ B d c.init (.ref H.reg H.nxt :: as) (H.push (.inst a [])) (.none, H')) : CallJ B (d + 1) (.ref 0 a) as H (.ref H.reg H.nxt, H') :=
 ⟨fun m hh fu R hf => by
  obtain ⟨p, e1, rfl⟩ := hf;rw [(R.zero a p e1).1];exact keeps_K (K.cls a c hc).keeps hh (R.inK K),
  fun m A s fu us R hf ha rm => by
  obtain ⟨p, e1, rfl⟩ := hf;rw [(R.zero a p e1).1];have C := K.cls a c hc;obtain ⟨i1, i2, i3, i4, i5⟩ := C.init;intro Q E w i;refine wpAny_call ?_;have X := R.kIn K;obtain ⟨hh, gg, dd, tt, os⟩ := s;haveI : Sam B ⟨(hh.push emptyDict).push (instObj a hh.objs.size), gg, dd, tt, os⟩ := ⟨i.os, i.gens⟩;refine make_core (makes_of X C.makes) (looks_findIn X i1) (fun self => bind_fn X self i2) (.inl rfl) ?_;have sz : (hh.push emptyDict).objs.size = hh.objs.size + 1 := objs_size _ _;have sz2 : ((hh.push emptyDict).push (instObj a hh.objs.size)).objs.size = hh.objs.size + 2 := by rw [objs_size, sz]
  have gd : ((hh.push emptyDict).push (instObj a hh.objs.size)).get? hh.objs.size = some emptyDict := push_old _ _ _ (push_self rfl);have gi : ((hh.push emptyDict).push (instObj a hh.objs.size)).get? (hh.objs.size + 1) = some (instObj a hh.objs.size) := by rw [<- sz]; exact push_self rfl
  obtain ⟨m1, R1, st1, hm⟩ := R.make (.inst a []) (h' := (hh.push emptyDict).push (instObj a hh.objs.size)) (p := (hh.objs.size + 1, hh.objs.size)) (fun b o z => push_old _ _ _ (push_old _ _ _ z)) (by rw [sz2]; exact Nat.le_add_right _ _)
   ⟨Nat.le_succ _, by rw [sz2]; exact Nat.lt_succ_self _⟩ ⟨Nat.le_refl _, by rw [sz2]; exact Nat.lt_succ_of_lt (Nat.lt_succ_self _)⟩ fun m' l => ⟨gi, fun _ => none, Heap.Ns1.at (Heap.Ns1.of_empty (Heap.Ns.new hh (.type "dict"))) (fun o z => push_old _ _ _ z), fun x v z => (nomatch z), fun y z => absurd rfl z⟩
  have hr := creation_room rm a us;refine h.2 m1 _ ⟨(hh.push emptyDict).push (instObj a hh.objs.size), gg, dd, tt, os⟩ (.ref (hh.objs.size + 1) :: us) R1 ⟨⟨_, hm, rfl⟩, ha.mono st1.le⟩ hr _ fun m2 u2 s2 st2 p2 => ?_;intro _;exact ⟨p2.2, w m2 _ s2 (st1.trans st2) ⟨p2.1, _, st2.le _ _ _ hm, rfl⟩⟩⟩
theorem callJ_clo {r0 a : Nat} {c : Clo} (g : H.get r0 a = some (.clo c)) (h : ∀ m A s fd us b, Rel B m H s.heap -> s.heap.get? b = some { cls := .type "function", data := .func fd } -> CloR m c fd s.heap -> VRs m as us -> Room d A -> Codes B A (.call (.ref b) ⟨us, []⟩) m s (ValP B r)) : CallJ B d (.ref r0 a) as H r :=
 ⟨fun m hh fu R hf => by
  obtain ⟨p, e1, rfl⟩ := hf;obtain ⟨fd, f1, C⟩ := R.obj r0 a p _ e1 g;exact ⟨.frame, .inl rfl, (Looks.ld (part := none) f1).andThen .now⟩,
  fun m A s fu us R hf ha rm => by
  obtain ⟨p, e1, rfl⟩ := hf;obtain ⟨fd, f1, C⟩ := R.obj r0 a p _ e1 g;exact (h m A s fd us p.1 R f1 C ha rm).does⟩
end
noncomputable def newClsO (I : OI) (d : Nat) (a : Nat) (c : Cl) (as : List V) (H : Hp) : OM (V × Hp) := match d with
 | 0 => OM.no
 | d + 1 => (newO H (.inst a [])).bind fun p => (I.fn d c.init (.ref H.reg H.nxt :: as) p.2).bind fun q => match q.1 with
  | .none => ret (.ref H.reg H.nxt, q.2)
  | _ => OM.no
noncomputable def onClo {α : Type} (o : Option O) (f : Clo -> OM α) : OM α := match o with
 | some (.clo c) => f c
 | _ => OM.no
theorem Says.onClo {α : Type} {o : Option O} {f : Clo -> OM α} {F : α -> Prop} (h : ∀ c, o = some (.clo c) -> Says (f c) F) : Says (onClo o f) F := by
 cases o with
 | none => exact Says.no
 | some o => cases o with
  | clo c => exact h c rfl
  | _ => exact Says.no
noncomputable def cloBody (I : OI) (d : Nat) (c : Clo) (p : En × Hp) : OM (V × Hp) := match c.body with
 | .expr x => I.ev d p.1 p.2 x
 | .stmts b => (exsO I d p.1 p.2 b).bind retO
noncomputable def cloO (I : OI) (d : Nat) (r a : Nat) (as : List V) (H : Hp) : OM (V × Hp) := (getO H r a).bind fun o => onClo o fun c => match d with
 | 0 => OM.no
 | d + 1 => guardO ((pgT.nest (c.qual ++ ".<locals>.")).isNone && decide c.params.Nodup) (liftO (bindP c.params [] as) fun bs => (envO c.scope.names c.cells (c.qual ++ ".<locals>.") bs H).bind (cloBody I d c))
noncomputable def callO (I : OI) (d : Nat) (f : V) (as : List V) (H : Hp) : OM (V × Hp) := match f with
 | .bi id => builtinO id H as
 | .ty n => typeO n H as
 | .ref r a => match r with
  | 0 => match pgT.cls a with
   | some c => newClsO I d a c as H
   | none => I.fn d a as H
  | r + 1 => cloO I d (r + 1) a as H
 | _ => OM.no
noncomputable def fnBody (I : OI) (d : Nat) (fn : Fn) (as : List V) (H : Hp) : OM (V × Hp) := liftO (bindP fn.params fn.dflt as) fun bs => (envO fn.scope.names [] (fn.qual ++ ".<locals>.") bs H).bind fun p => (exsO I d p.1 p.2 fn.body).bind retO
section
variable {B : Bs} (K : BOk B) {I : OI} (O : IOk B I) {d : Nat} {e : En} {H : Hp}
include K O
theorem fnBody_ok {a : Nat} {fn : Fn} (hf : pgT.fns a = some fn) {as : List V} : Says (fnBody I d fn as H) (FnJ B (d + 1) a as H) := by
 obtain ⟨o, fd, c, F⟩ := K.fns a fn hf;exact Says.lift fun bs h1 => (envO_ok (B := B)).bind fun p h2 => (exsO_ok O).bind fun q h3 => retO_ok.mono fun r h4 => ⟨F.keeps, fun m A s us R ha rm => codes_body K h1 h2 h3 h4 (fdR_fn K F R) (F.body.trans rfl) R ha rm⟩
theorem cloO_ok {r a : Nat} {as : List V} : Says (cloO I d r a as H) (CallJ B d (.ref r a) as H) := by
 refine Says.get fun o g => Says.onClo fun c e => ?_;cases d with
 | zero => exact Says.no
 | succ d =>
  refine Says.guard fun hc => Says.lift fun bs h1 => (envO_ok (B := B)).bind fun p h2 => ?_;rw [Bool.and_eq_true, Option.isNone_iff_eq_none, decide_eq_true_eq] at hc;unfold cloBody;cases hb : c.body with
  | expr x => exact (O.ev d p.1 p.2 x).mono fun r h3 => callJ_clo (g.trans e) fun m A s fd us b R ho C ha rm => codes_expr K h1 h2 h3 (fdR_clo ho C hc.1 hc.2) (C.body.trans hb) R ha rm
  | stmts b => exact (exsO_ok O).bind fun q h3 => retO_ok.mono fun r h4 => callJ_clo (g.trans e) fun m A s fd us b R ho C ha rm => codes_body K h1 h2 h3 h4 (fdR_clo ho C hc.1 hc.2) (C.body.trans hb) R ha rm
theorem callO_ok {f : V} {as : List V} : Says (callO I d f as H) (CallJ B d f as H) := by
 cases f with
 | bi id => exact (builtinO_ok K).mono fun r h => callJ_bi h
 | ty n => exact typeO_ok.mono fun r h => callJ_ty h
 | ref r a => cases r with
  | zero =>
   unfold callO;dsimp only;cases hc : pgT.cls a with
   | none => exact (O.fn d a as H).mono fun r h => callJ_fn K h
   | some c => cases d with
    | zero => exact Says.no
    | succ d =>
     refine Says.bind (F := fun p => p.2 = H.push (.inst a [])) (Says.new rfl) fun p hp => (O.fn _ _ _ _).bind fun q h => ?_;obtain ⟨v, H'⟩ := q;rw [hp] at h;cases v with
     | none => exact Says.ret (callJ_cls K hc h)
     | _ => exact Says.no
  | succ r => exact cloO_ok K O
 | _ => exact Says.no
end
noncomputable def methOf (C : Nat) (x : Str) : Option Nat := (pgT.cls C).bind fun c => c.meths.lookup x
noncomputable def methCO (I : OI) (d : Nat) (e : En) (a : V) (H : Hp) (m : Str) (args : List Expr) : OM (V × Hp) := match a with
 | .str s => liftO (strM m) fun q => (evsO I d e H args).bind fun as => on1 as.1 fun b => onStr b fun t => onSign t fun c => q.2 s c as.2
 | .ref r i => (getO H r i).bind fun o => onO o (fun _ => liftO (listM m) fun q => (evsO I d e H args).bind fun as => q.2 r i as.1 as.2) (fun _ => OM.no) (fun _ => liftO (dictM m) fun q => (evsO I d e H args).bind fun as => q.2 r i as.1 as.2)
   (fun C fs => guardO (lk fs m).isNone (liftO (methOf C m) fun f => (evsO I d e H args).bind fun as => I.fn d f (.ref r i :: as.1) as.2))
 | _ => OM.no
def MethJ (B : Bs) (d : Nat) (e : En) (a : V) (H : Hp) (x : Str) (args : List Expr) (r : V × Hp) : Prop := ∃ (as : List V × Hp) (f : Mp -> Value -> Prop), EvsJ B d e H args as /\
 (∀ m A s u (pl : Sem Bool) (Q : Value × List Value -> Shared -> Prop) (E : Value -> Shared -> Prop), Rel B m H s.heap -> VR m a u -> (∀ fu, f m fu -> Q (fu, [u]) s) -> wpAny (model B.prog B.w) A (getMethod u x pl) Q E s) /\
 (∀ m m' fu, MLe m m' -> f m fu -> f m' fu) /\ (∀ m h fu, Rel B m as.2 h -> f m fu -> CalleeOk B h fu) /\ ∀ m A s fu us, f m fu -> Rel B m as.2 s.heap -> VRs m (a :: as.1) us -> Room d A -> Does B A [] (call fu us) m s (ValP B r)
section
variable {B : Bs} (K : BOk B) {I : OI} (O : IOk B I) {d : Nat} {e : En} {H : Hp}
theorem methJ_bi {a : V} {x : Str} {id : String} {args : List Expr} {as : List V × Hp} {r : V × Hp} (h1 : EvsJ B d e H args as) (h2 : GetJ B H a x id) (h3 : BiJ B (.builtin id) (a :: as.1) as.2 r) : MethJ B d e a H x args r :=
 ⟨as, fun _ fu => fu = .builtin id, h1, fun m A s u pl Q E R ha q => h2 m A s u pl Q E R ha (q _ rfl), fun _ _ _ _ h => h, fun m h fu R hf => by rw [hf]; exact mk_callee_bi _ _, fun m A s fu us hf R ha rm => by rw [hf]; exact h3 m A s us R ha rm.zero⟩
theorem methJ_fn (K : BOk B) {r0 i C f : Nat} {fs : List (Str × V)} {x : Str} {args : List Expr} {as : List V × Hp} {r : V × Hp} (g : H.get r0 i = some (.inst C fs)) (hn : (lk fs x).isNone = true) (hm : methOf C x = some f) (h1 : EvsJ B d e H args as) (h2 : FnJ B d f (.ref r0 i :: as.1) as.2 r) : MethJ B d e (.ref r0 i) H x args r := by
 have c := callJ_fn K h2;refine ⟨as, fun m fu => VR m (.ref 0 f) fu, h1, fun m A s u pl Q E R ha q => ?_, fun _ _ _ l h => h.mono l, c.1, fun m A s fu us hf R ha rm => c.2 m A s fu us R hf ha rm⟩;obtain ⟨c, hc, hl⟩ := bnd hm;obtain ⟨p, f0, o, es, ep, e1, rfl, i1, i2, i3, i4, i5, i6, n1, w1⟩ := R.inst ha g;have C1 := K.cls C c hc;obtain ⟨m1, m2, m3, m4⟩ := C1.meth x f hl;have hf0 : f0 x = none := by
  cases z : f0 x with
  | none => rfl
  | some v =>
   have hm : x ∈ fs.map (·.1) := w1 x (by rw [z]; exact nofun)
   unfold lk at hn;rw [Option.isNone_iff_eq_none, List.lookup_eq_none_iff] at hn;obtain ⟨y, hy, e⟩ := List.mem_map.mp hm;have := hn y hy;rw [<- e] at this;simp at this
 have sh : shadowIn (some o) x = some false := by
  show (lookIn x o).map (·.isSome) = some false
  rw [lookIn_none i3 i4 ((i5 x).trans hf0)]; rfl
 exact method_fn (R.kIn K) ⟨i1, rfl, rfl, i2⟩ C1.ga (plainGet_of C1.pget).2 m1 m2 sh (q _ ⟨_, R.low f m3 m4, rfl⟩)
theorem meth_form {env : Env} {xs : List Expr} {pos : Pos} (hs : noStars xs = true) (hl : xs.length < 28) : methodCallForm (xs.length + ([] : List Keyword).length) (backTo pos (starEach xs env)) (backToKw pos (keywordEach [] env)) = true := by
 have p := evs_plain (env := env) (pos := pos) hs;unfold methodCallForm;have e1 : (backTo pos (starEach xs env)).all (fun x => !x.1) = true := by
  rw [List.all_eq_true];intro x hx;rw [List.any_eq_false] at p;simpa using p x hx
 rw [e1];show (true && true && decide (xs.length + 0 + 0 < 30)) = true
 simp
 omega
theorem evJ_meth {o : Expr} {x : Str} {ap pos : Pos} {args : List Expr} {a r : V × Hp} (hn : noSuper o = true) (hline : ap.endLine = pos.line) (hl : args.length < 28) (hs : noStars args = true) (h1 : EvJ B d e H o a) (h2 : MethJ B d e a.1 a.2 x args r) : EvJ B d e H (.Call (.Attribute o x ap) args [] pos) r := fun m A env s z => by
 obtain ⟨as, f, h3, h4, h5, h6, h7⟩ := h2;rw [arm_eval_Call];refine (base_ok hn (h1 m A env s z)).bind fun m1 u s1 st1 p1 => Does.standAt ?_;have hpos : methodCallPos true o env ap pos = pure pos := by unfold methodCallPos; simp [hline]
 intro Q E q _;unfold methodCall;rw [meth_form hs hl];refine wpAny_bind (wpAny_holding (h4 m1 A s1 u _ _ E p1.1 p1.2 fun fu hf => ?_));refine wpAny_bind (wpAny_of_eq hpos ?_);exact with_ok hs h3 (z.step st1 p1.1) (fun m2 s2 st2 R2 => h6 m2 s2.heap fu R2 (h5 _ _ _ st2.le hf)) (fun m2 us s2 st2 R2 v2 => h7 m2 A s2 fu (u :: us) (h5 _ _ _ st2.le hf) R2 ⟨p1.2.mono st2.le, v2⟩ z.rm) Q E q
include K O
theorem methCO_ok {a : V} {x : Str} {args : List Expr} (hs : noStars args = true) : Says (methCO I d e a H x args) (MethJ B d e a H x args) := by
 cases a with
 | str s =>
  refine Says.lift fun q hq => (evsO_ok O hs).bind fun as h1 => Says.on1 fun b e1 => Says.onStr fun t e2 => Says.onSign fun c e3 => ?_;have z := (strM_ok (B := B) (H := H) (s := s) x).get hq;refine (z.2 c as.2).mono fun r h2 => methJ_bi h1 z.1 ?_;rw [e1, e2, e3]; exact h2
 | ref r i =>
  refine Says.get fun o g => Says.onO (fun xs e1 => Says.lift fun q hq => (evsO_ok O hs).bind fun as h1 => ?_) (fun _ _ => Says.no) (fun es e1 => Says.lift fun q hq => (evsO_ok O hs).bind fun as h1 => ?_)
   (fun C fs e1 => Says.guard fun hn => Says.lift fun f hf => (evsO_ok O hs).bind fun as h1 => (O.fn d f _ _).mono fun r h2 => methJ_fn K (g.trans e1) hn hf h1 h2)
  ·have z := (listM_ok (B := B) (g.trans e1) x).get hq;exact (z.2 as.1 as.2).mono fun r h2 => methJ_bi h1 z.1 h2
  ·have z := (dictM_ok K (g.trans e1) x).get hq;exact (z.2 as.1 as.2).mono fun r h2 => methJ_bi h1 z.1 h2
 | _ => exact Says.no
end
noncomputable def callEO (I : OI) (d : Nat) (e : En) (H : Hp) (f : Expr) (args : List Expr) (kws : List Keyword) (pos : Pos) : OM (V × Hp) := match kws with
 | _ :: _ => OM.no
 | [] => guardO (noStars args) (match f with
  | .Attribute o m ap => guardO (noSuper o && ap.endLine == pos.line && decide (args.length < 28)) ((I.ev d e H o).bind fun p => methCO I d e p.1 p.2 m args)
  | .Name x p => (I.ev d e H (.Name x p)).bind fun f => (evsO I d e f.2 args).bind fun q => callO I d f.1 q.1 q.2
  | _ => OM.no)
theorem callEO_ok {B : Bs} (K : BOk B) {I : OI} (O : IOk B I) {d : Nat} {e : En} {H : Hp} {f : Expr} {args : List Expr} {kws : List Keyword} {pos : Pos} : Says (callEO I d e H f args kws pos) (EvJ B d e H (.Call f args kws pos)) := by
 cases kws with
 | cons _ _ => exact Says.no
 | nil =>
  refine Says.guard fun hs => ?_;cases f with
  | Attribute o x ap =>
   refine Says.guard fun hc => (O.ev d e H o).bind fun a h1 => (methCO_ok K O hs).mono fun r h2 => ?_;rw [Bool.and_eq_true, Bool.and_eq_true, decide_eq_true_eq] at hc;exact evJ_meth hc.1.1 (eq_of_beq hc.1.2) hc.2 hs h1 h2
  | Name x p => exact (O.ev d e H _).bind fun f h1 => (evsO_ok O hs).bind fun q h2 => (callO_ok K O).mono fun r h3 m A env s z => callName_ok h1 hs h2 z (fun m' h fu R' v' => h3.1 m' h fu R' v') fun m' fu us s' st R' v' vs' => h3.2 m' A s' fu us R' v' vs' z.rm
  | _ => exact Says.no
end
section
open PySem.SeqAt PySem.Builtin.Str
noncomputable def noHeap : Heap := { objs := #[] }
theorem noHeap_get (b : Nat) : noHeap.get? b = none := by
 cases q : noHeap.get? b with
 | none => rfl
 | some o => have := ltZ q; simp [noHeap] at this
noncomputable def allObjs (h : Heap) (L : Nat) : List (Addr × Obj) := (List.range h.objs.size).filterMap fun b => if b = L then none else (h.get? b).map fun o => (b, o)
theorem mem_allObjs {h : Heap} {L b : Nat} {o : Obj} : (b, o) ∈ allObjs h L ↔ b ≠ L /\ h.get? b = some o := by
 unfold allObjs;rw [List.mem_filterMap];constructor
 ·rintro ⟨c, hc, e⟩;split at e
  ·cases e
  ·rename_i hne;obtain ⟨o', h1, h2⟩ := mpd e;cases h2;exact ⟨hne, h1⟩
 ·rintro ⟨h1, h2⟩;exact ⟨b, List.mem_range.mpr (ltZ h2), by rw [if_neg h1, h2]; rfl⟩
noncomputable def keysIn (es : List (V × V)) : List Int -> Option (List Int)
 | [] => some []
 | n :: r => match inD (.int n) es with
  | some (.int k) => (keysIn es r).map (k :: ·)
  | _ => none
noncomputable def insK (x : Int × Int) : List (Int × Int) -> List (Int × Int)
 | [] => [x]
 | y :: r => if x.1 < y.1 then x :: y :: r else y :: insK x r
noncomputable def sortK (l : List (Int × Int)) : List Int := (l.foldl (fun acc x => insK x acc) []).map (·.2)
noncomputable def nodupI : List Int -> Bool
 | [] => true
 | x :: r => !(r.contains x) && nodupI r

noncomputable def isSorted : V -> Bool
 | .bi id => id == "sorted"
 | _ => false
section
variable {B : Bs} {A : Around} {s : Shared}
theorem key_call {f : Nat} {o : Obj} {fd : FuncData} {kn yn : Str} {p1 p2 p3 : Pos} {n k : Int} {t t' : Tok} {c dp : Nat} {kvs : List (Key × Value)} {Q : Value -> Shared -> Prop} {E : Value -> Shared -> Prop} [sam : Sam B s] (hd : A.depth < recursionLimit) (ho : s.heap.get? f = some o) (hdt : o.data = .func fd)
  (hbody : fd.body = .expr (.Subscript (.Name kn p1) (.Name yn p2) p3)) (hk : fd.scope.kind = .function) (hco : fd.scope.isCoroutine = false) (hgen : fd.scope.isGenerator = false)
  (h1 : fd.params.posonlyargs = []) (h2 : fd.params.vararg = none) (h3 : fd.params.kwonlyargs = []) (h4 : fd.params.kwarg = none) (hP : fd.params.args.map (·.arg) = [yn]) (hD : fd.defaults = .none)
  (hrec : s.heap.CodeRec fd.code fd.qualname) (lim : s.heap.NoLimit) (hcell : ∀ x ∈ fd.scope.names, x.2 ≠ .cell) (hy : fd.scope.names.lookup yn = some .local) (hkn : fd.scope.names.lookup kn = some .free)
  (b1 : (!badName kn) = true) (b2 : (!badName yn) = true) (hc : fd.closure.lookup kn = some c) (hcv : s.heap.IsCell c (some (.ref dp))) (D : s.heap.DictAt (uKind B.prog B.w) dp kvs kvs.length) (hv : valueAt kvs (.int n) = some (.int k t'))
  (q : ∀ h' tk, (∀ (b : Nat) o, s.heap.get? b = some o -> h'.get? b = some o) -> Q (.int k t') { s with heap := h', toks := tk }) : wpAny (model B.prog B.w) A (call (.ref f) [.int n t]) Q E s := by
 refine wpAny_call (kla_callFunE hd ho hdt hco hgen hbody hrec (bindArgs_ok (D := []) (r := none) h1 h2 h3 h4 hP (by simp) rfl (fun Q q => by rw [hD]; exact wpAny_pure q) (by simp) (by simp) (Nat.zero_le _) ?_))
 have eb : [yn].zip ([Value.int n t] ++ ([] : List Value).drop ([Value.int n t].length + ([] : List Value).length - [yn].length)) = [(yn, .int n t)] := rfl;rw [eb];refine wpAny_newFunctionEnv hcell (fun x hx => by rw [List.mem_singleton] at hx; subst hx; exact hy) (fun h' hns hsb => ?_) hk
 have keep : ∀ (b : Nat) o, s.heap.get? b = some o -> h'.get? b = some o := fun b o z => hsb.extBut b o (Nat.ne_of_lt (ltZ z)) (push_old _ b o z);refine ⟨lim.keeps keep, kla_codeExpr ?_⟩;generalize henv : newEnv fd.scope s.heap.objs.size fd.globals fd.closure (fd.qualname ++ ".<locals>.") (some f) fd.code none fd.builtins = env;have e_scope : env.scope = fd.scope := by subst henv; rfl
 have e_cells : env.cells = fd.closure := by subst henv; rfl
 have e_loc : env.locals = s.heap.objs.size := by subst henv; rfl
 have kk : ∀ x, env.kindOf x = fd.scope.names.lookup x := fun x => by unfold Env.kindOf; rw [e_scope]
 rw [arm_eval_Subscript];have hcv' : h'.IsCell c (some (.ref dp)) := let ⟨o, z, r⟩ := hcv; ⟨o, keep _ _ z, r⟩;refine wpAny_bind (wpAny_Name (wpAny_loadName_free (by rw [e_scope]; exact hk) (by rw [kk]; exact hkn) (by rw [e_cells]; exact hc) hcv' ?_ (bad_no b1).2) (bad_no b1).1)
 refine wpAny_bind (wpAny_holding (wpAny_Name (wpAny_loadName_local (by rw [e_scope]; exact hk) (by rw [kk]; exact hy) (by rw [e_loc]; exact hns) (v := .int n t) (by simp) ?_) (bad_no b2).1))
 refine wpAny_bind (wpAny_standAt ?_);have D' : h'.DictAt (uKind B.prog B.w) dp kvs kvs.length := D.keep keep;have G : Does B (A.deeper env) [] (getItem (.ref dp) (.int n t)) (m0 B) { s with heap := h', toks := s.toks + [(yn, Value.int n t)].length } (fun _ u s' => u = .int k t' /\ ∃ tk, s' = { s with heap := h', toks := tk }) :=
  Does.wp (s' := { s with heap := h', toks := s.toks + [(yn, Value.int n t)].length + 1 }) (fun Q E z => wpAny_getItem_of (key_is (x := V.int n) (m := m0 B) rfl ⟨t, rfl⟩) D'.dictOf.mapOf hv z) (Step.refl ..) ⟨rfl, _, rfl⟩
 refine sub_tail (has_dict D') G _ _ fun m' u s' _ p => ?_;obtain ⟨rfl, tk, rfl⟩ := p;exact q h' tk keep
end
theorem keysIn_len {es : List (V × V)} : ∀ {ns ks : List Int}, keysIn es ns = some ks -> ks.length = ns.length
 | [], _, h => by cases h; rfl
 | n :: ns, ks, h => by
  unfold keysIn at h;split at h
  ·obtain ⟨r, h1, rfl⟩ := mpd h;rw [List.length_cons, List.length_cons, keysIn_len h1]
  ·cases h
theorem keysIn_get {es : List (V × V)} : ∀ {ns ks : List Int}, keysIn es ns = some ks -> ∀ {i : Nat} {n k : Int}, ns[i]? = some n -> ks[i]? = some k -> inD (.int n) es = some (.int k)
 | [], _, h, i, n, k, h1, _ => by cases h1
 | n0 :: ns, ks, h, i, n, k, h1, h2 => by
  unfold keysIn at h;split at h
  ·rename_i k0 hk0;obtain ⟨r, h3, rfl⟩ := mpd h;cases i with
   | zero => cases h1; cases h2; exact hk0
   | succ i => exact keysIn_get h3 (i := i) (by simpa using h1) (by simpa using h2)
  ·cases h
theorem insK_perm (x : Int × Int) : ∀ (l : List (Int × Int)), (insK x l).Perm (x :: l)
 | [] => List.Perm.refl _
 | y :: r => by
  unfold insK;split
  ·exact List.Perm.refl _
  ·exact ((insK_perm x r).cons y).trans (List.Perm.swap x y r)
theorem sortK_go (l : List (Int × Int)) : ∀ acc : List (Int × Int), (l.foldl (fun acc x => insK x acc) acc).Perm (l ++ acc) := by
 induction l with
 | nil => intro acc; exact List.Perm.refl _
 | cons x l ih =>
  intro acc;rw [List.foldl_cons];exact (ih _).trans (((insK_perm x acc).append_left l).trans List.perm_middle)
theorem insK_sorted (x : Int × Int) : ∀ {l : List (Int × Int)}, l.Pairwise (fun p q => p.1 <= q.1) -> (insK x l).Pairwise (fun p q => p.1 <= q.1)
 | [], _ => List.pairwise_singleton _ _
 | y :: r, h => by
  unfold insK;rw [List.pairwise_cons] at h;split
  ·rename_i hx;rw [List.pairwise_cons];refine ⟨fun z hz => ?_, List.pairwise_cons.mpr h⟩;rcases List.mem_cons.mp hz with rfl | hz
   ·exact Int.le_of_lt hx
   ·exact Int.le_trans (Int.le_of_lt hx) (h.1 z hz)
  ·rename_i hx;rw [List.pairwise_cons];refine ⟨fun z hz => ?_, insK_sorted x h.2⟩;rcases List.mem_cons.mp ((insK_perm x r).mem_iff.mp hz) with rfl | hz
   ·exact Int.not_lt.1 hx
   ·exact h.1 z hz
theorem sortK_sorted_go (l : List (Int × Int)) : ∀ {acc : List (Int × Int)}, acc.Pairwise (fun p q => p.1 <= q.1) -> (l.foldl (fun acc x => insK x acc) acc).Pairwise (fun p q => p.1 <= q.1) := by
 induction l with
 | nil => intro acc h; exact h
 | cons x l ih => intro acc h; exact ih (insK_sorted x h)
theorem nodupI_ok : ∀ {l : List Int}, nodupI l = true -> l.Nodup
 | [], _ => List.nodup_nil
 | x :: r, h => by
  unfold nodupI at h;rw [Bool.and_eq_true] at h;rw [List.nodup_cons];exact ⟨by have := h.1; simpa using this, nodupI_ok h.2⟩
theorem sortK_uniq {l r : List (Int × Int)} (hn : (l.map (·.1)).Nodup) (p : r.Perm l) (h : r.Pairwise (fun p q => p.1 <= q.1)) : r.map (·.2) = sortK l := by
 unfold sortK;have p2 := sortK_go l [];rw [List.append_nil] at p2;have s2 := sortK_sorted_go l (acc := []) List.Pairwise.nil;refine congrArg (List.map (·.2)) ((p.trans p2.symm).eq_of_pairwise (fun a b ha hb x y => ?_) h s2)
 have ha' := p.mem_iff.mp ha;have hb' := p2.mem_iff.mp hb;have e : a.1 = b.1 := Int.le_antisymm x y;exact inj_of_nodup hn ha' hb' e
where
 inj_of_nodup : ∀ {l : List (Int × Int)}, (l.map (·.1)).Nodup -> ∀ {a b : Int × Int}, a ∈ l -> b ∈ l -> a.1 = b.1 -> a = b
  | [], _, _, _, h, _, _ => by cases h
  | x :: l, hn, a, b, ha, hb, e => by
   rw [List.map_cons, List.nodup_cons] at hn;rcases List.mem_cons.mp ha with h1 | h1 <;> rcases List.mem_cons.mp hb with h2 | h2
   ·rw [h1, h2]
   ·exact absurd (List.mem_map.mpr ⟨b, h2, by rw [<- e, h1]⟩) hn.1
   ·exact absurd (List.mem_map.mpr ⟨a, h1, by rw [e, h2]⟩) hn.1
   ·exact inj_of_nodup hn.2 h1 h2 e
theorem sort_call {B : Bs} {A : Around} {s : Shared} {L l f : Nat} {fL : Str -> Option Value} {us : Array Value} {ks ns : List Int} {Q : Value -> Shared -> Prop} {E : Value -> Shared -> Prop} (hfL : s.heap.Ns L fL) (hl : s.heap.IsList l us) (hI : IntsAre us.toList ns) (hlen : ks.length = ns.length) (h64 : us.size < 64) (hnd : ks.Nodup)
  (turn : ∀ (i : Nat) (n k : Int) (t : Tok) (h : Heap) (tk : Nat), ns[i]? = some n -> ks[i]? = some k -> (∀ (b : Nat) o, b ≠ L -> s.heap.get? b = some o -> h.get? b = some o) -> ∀ (Q : Value -> Shared -> Prop) (E : Value -> Shared -> Prop),
   (∀ h2 tk2 t', (∀ (b : Nat) o, h.get? b = some o -> h2.get? b = some o) -> Q (.int k t') { s with heap := h2, toks := tk2 }) -> wpAny (model B.prog B.w) A.in1.in1 (call (.ref f) [.int n t]) Q E { s with heap := h, toks := tk })
  (fin : ∀ D h' tk out c, (∀ (b : Nat) o, b ≠ L -> s.heap.get? b = some o -> h'.get? b = some o /\ b < D) -> s.heap.objs.size <= h'.objs.size -> h'.Ns L fL -> h'.get? D = some (seqObj "list" out c) -> (∀ m', VRs m' ((sortK (ks.zip ns)).map .int) out.toList) -> Q (.ref D) { s with heap := h', toks := tk }) :
  wpAny (model B.prog B.w) A (call (.builtin "sorted") [.ref l] [(("key" : Str), .ref f)]) Q E s := by
 have News0 : News noHeap L s.heap (allObjs s.heap L) := fun p hp => by
  obtain ⟨b, o⟩ := p;obtain ⟨z1, z2⟩ := mem_allObjs.mp hp;exact ⟨z2, z1, noHeap_get _⟩
 have old : ∀ {own : List (Addr × Obj)} {h : Heap}, News noHeap L h (allObjs s.heap L ++ own) -> ∀ (b : Nat) o, b ≠ L -> s.heap.get? b = some o -> h.get? b = some o := fun {own h} Nw b o hb z =>
  (Nw (b, o) (List.mem_append_left _ (mem_allObjs.mpr ⟨hb, z⟩))).1
 have mkFr : ∀ h : Heap, h.Ns L fL -> Fr noHeap L h fL := fun h z => ⟨z, fun b o z => (by rw [noHeap_get] at z; cases z), Nat.zero_le _⟩
 have hl2 : ks.length = us.toList.length := hlen.trans hI.length.symm;refine wpAny_size (ksk_sorted (h₀ := noHeap) (L := L) (m := fL) (news := allObjs s.heap L) (kz := ks) (vs := us.toList) (b := false) (mkFr _ hfL) News0 (by simpa using hl) hl2 (by simpa using h64)
  (ksk_s1 _ _) (fun x => ksk_l1 _ _) (fun x => ksk_t1 f x) (fun i v k hv hk h tk own F' N' => ?_) (fun D h' tk out c F' N' lD ko hsz2 => ?_))
 ·cases hn : ns[i]? with
  | none =>
   have z1 := List.getElem?_eq_none_iff.mp hn;rw [List.getElem?_eq_none (hlen ▸ z1)] at hk; cases hk
  | some n =>
   obtain ⟨t, ht⟩ := hI.get i n hn;rw [hv] at ht;cases ht;exact turn i n k t h tk hn hk (old N') _ _ fun h2 tk2 t' kp => ⟨h2, tk2, t', rfl, rfl, mkFr _ (Ns_keep F'.ns fun o z => kp _ _ z), fun p hp => ⟨kp _ _ (N' p hp).1, (N' p hp).2⟩⟩
 ·obtain ⟨ps, ps1, ps2, ps3⟩ := ko;refine fin D h' tk out c (fun b o hb z => ?_) hsz2 F'.ns (N' (D, _) mem_cons_self).1 ?_
  ·have hm := mem_allObjs.mpr ⟨hb, z⟩;exact ⟨(N' (b, o) (mem_cons_of_mem _ hm)).1, lD _ hm⟩
  ·have outI := intsAre_map out.toList fun v hv => by
    rw [ps2] at hv;obtain ⟨pp, hp1, rfl⟩ := List.mem_map.mp hv;exact hI.all _ (List.of_mem_zip (ps1.mem_iff.mp hp1)).2
   have hr : (ps.map fun p => (p.1, numOf p.2)).Perm (ks.zip ns) := by
    have := ps1.map fun p : Int × Value => (p.1, numOf p.2);rwa [show (ks.zip us.toList).map (fun p : Int × Value => (p.1, numOf p.2)) = ks.zip ns by rw [<- hI.nums, List.zip_map_right]; rfl] at this
   have hs : (ps.map fun p => (p.1, numOf p.2)).Pairwise (fun p q => p.1 <= q.1) := by
    rw [List.pairwise_map];exact ps3.imp fun {a b} w => by simpa using w
   have eqs : out.toList.map numOf = sortK (ks.zip ns) := by
    rw [<- sortK_uniq (by rw [List.map_fst_zip (le_of_eq hlen)]; exact hnd) hr hs, ps2, List.map_map, List.map_map]
    rfl
   exact fun m' => by rw [<- eqs]; exact intsAre_VRs outI
structure KeyOk (H : Hp) (c : Clo) (kn yn : Str) (rd id : Nat) (es : List (V × V)) : Prop where
 body : ∃ p1 p2 p3, c.body = .expr (.Subscript (.Name kn p1) (.Name yn p2) p3)
 names : c.arguments.args.map (·.arg) = [yn]
 cell : ∀ x ∈ c.scope.names, x.2 ≠ .cell
 y : c.scope.names.lookup yn = some .local
 k : c.scope.names.lookup kn = some .free
 b1 : (!badName kn) = true
 b2 : (!badName yn) = true
 cl : ∃ p, c.cells.lookup kn = some p /\ H.get p.1 p.2 = some (.cell (some (.ref rd id)))
 dict : H.get rd id = some (.dict es)
section
variable {B : Bs} (K : BOk B) {m : Mp} {e : En} {env : Env} {H : Hp} {s : Shared} {c : Clo} {kn yn : Str} {rd id : Nat} {es : List (V × V)}
include K
theorem key_turn [sam : Sam B s] (R : Rel B m H s.heap) (Y : KeyOk H c kn yn rd id es) {f : Nat} {fd : FuncData} {L : Nat} (np : NP m L) (low : B.n0 <= L) (ho : s.heap.get? f = some { cls := .type "function", data := .func fd }) (hf : f ≠ L) (C : CloR m c fd s.heap) {A : Around} (rm : A.depth < recursionLimit) {n k : Int} (hin : inD (.int n) es = some (.int k)) {t : Tok} {h : Heap} {tk : Nat}
  (keep : ∀ (b : Nat) o, b ≠ L -> s.heap.get? b = some o -> h.get? b = some o) {Q : Value -> Shared -> Prop} {E : Value -> Shared -> Prop} (q : ∀ h2 tk2 t', (∀ (b : Nat) o, h.get? b = some o -> h2.get? b = some o) -> Q (.int k t') { s with heap := h2, toks := tk2 }) :
  wpAny (model B.prog B.w) A (call (.ref f) [.int n t]) Q E { s with heap := h, toks := tk } := by
 obtain ⟨p1, p2, p3, hb⟩ := Y.body;obtain ⟨cc, hc, g⟩ := Y.cl;obtain ⟨qc, y3, y4⟩ := CVs.lookup C.cells hc;obtain ⟨du, cell, dvr⟩ := R.cell g y3;obtain ⟨pd, kvs, ed, rfl, D, dr, hsm⟩ := R.dict K dvr Y.dict;have neL : ∀ r i p, m r i = some p -> p.1 ≠ L := fun r i p z w => by
  by_cases hr : r = 0
  ·subst hr;obtain ⟨rfl, z1, _⟩ := R.zero i p z;rw [<- w] at low;exact absurd z1 (Nat.not_lt_of_le low)
  ·exact (np r i p hr z).1 w
 have hval := inD_ok (k := .int n) dr;rw [hin] at hval;obtain ⟨ku, kv1, ⟨t', rfl⟩⟩ := hval;obtain ⟨c', k19, k20, k21⟩ := C.code;have lim : h.NoLimit := by
  obtain ⟨mc, n1, n2⟩ := R.nolim K;refine ⟨mc, Ns_keep n1 fun o z => keep _ _ (fun w => ?_) z, n2⟩;have z2 := K.two;have z3 : (cStatics : Nat) < 100 := by decide
  rw [<- w] at low;exact absurd (lt_of_lt_of_le z3 (le_trans z2 low)) (Nat.lt_irrefl _)
 exact key_call (s := { s with heap := h, toks := tk }) rm (keep _ _ hf ho) rfl (C.body.trans hb) C.kind C.co C.gen (by rw [C.params]; exact C.po) (by rw [C.params]; exact C.va) (by rw [C.params]; exact C.ko) (by rw [C.params]; exact C.kwa) (by rw [C.params]; exact Y.names) C.dflt
  (by rw [k19]; exact code_pin k20 fun o z => keep _ _ (neL 1 c' _ k21) z) lim (by rw [C.scope]; exact Y.cell) (by rw [C.scope]; exact Y.y) (by rw [C.scope]; exact Y.k) Y.b1 Y.b2 y4
  (let ⟨o, z, r⟩ := cell; ⟨o, keep _ _ (neL _ _ _ y3) z, r⟩) (let ⟨o, es', z, r⟩ := D; ⟨o, es', keep _ _ (neL _ _ _ ed) z, r⟩) kv1 fun h2 tk2 kp => q h2 tk2 t' kp
theorem sort_ok [sam : Sam B s] (R : Rel B m H s.heap) (N : EnvOk B m e env s.heap) (Y : KeyOk H c kn yn rd id es) {qc : Nat × Nat} (g : H.get qc.1 qc.2 = some (.clo c)) {fa : Nat} (vf : VR m (.ref qc.1 qc.2) (.ref fa)) (hsz : s.heap.objs.size = fa + 1) {rl il : Nat} {u : Value} {xs : List V} {ns ks : List Int} (vl : VR m (.ref rl il) u) (gl : H.get rl il = some (.list xs))
  (hi : intsOf xs = some ns) (hk : keysIn es ns = some ks) (hnd : ks.Nodup) (h64 : xs.length < 64) {A : Around} (rm : A.depth < recursionLimit) {Q : Value -> Shared -> Prop} {E : Value -> Shared -> Prop}
  (q : ∀ m' v s', Step B [env.locals] m s.heap m' s'.heap -> Rel B m' (H.push (.list ((sortK (ks.zip ns)).map .int))) s'.heap -> EnvOk B m' e env s'.heap -> VR m' (.ref H.reg H.nxt) v -> [Sam B s'] -> Q v s') :
  wpAny (model B.prog B.w) A (call (.builtin "sorted") [u] [(("key" : Str), .ref fa)]) Q E s := by
 obtain ⟨pf, mf, ef⟩ := vf;obtain rfl : fa = pf.1 := Value.ref.inj ef;obtain ⟨fd, f1, C⟩ := R.obj _ _ _ _ mf g;obtain ⟨pl, us, nl, e1, rfl, l1, v1⟩ := R.list vl gl;obtain ⟨fL, hfL, hlL⟩ := N.loc;have hf : pf.1 ≠ (env.locals : Nat) := fun w => by
  by_cases hr : qc.1 = 0
  ·rw [hr] at mf;have z := R.zero _ _ mf;have := N.low;rw [<- w, z.1] at this;exact absurd z.2.1 (Nat.not_lt_of_le this)
  ·exact (N.np _ _ _ hr mf).1 w
 refine sort_call hfL (isL_of l1) (intsOf_ok hi v1) (keysIn_len hk) (by rw [v1.size]; exact h64) hnd (fun i n k t h tk h1 h2 keep Q E q => key_turn K (A := A.in1.in1) R Y N.np N.low f1 hf C rm (keysIn_get hk h1 h2) keep q) fun D h' tk out c' keep hs nsL gD vo => ?_
 have pr := R.priv (X := [(env.locals : Nat)]) (h' := h') (fun b hb => by rw [List.mem_singleton] at hb; subst hb; exact ⟨N.np, N.low⟩) (fun b o hb z => (keep b o (fun w => hb (by rw [w]; exact List.mem_singleton.mpr rfl)) z).1) hs
 have hD : s.heap.objs.size <= D := by rw [hsz]; exact (keep _ _ hf f1).2
 obtain ⟨m5, R5, st5, hm5, le5⟩ := pr.1.adopt (.list ((sortK (ks.zip ns)).map .int)) pr.2 hD ⟨R.np_new hD, le_trans R.size hD, ltZ gD⟩ fun m' l => ⟨out, c', gD, vo m'⟩;exact q m5 _ _ st5 R5 { N with loc := ⟨fL, nsL, hlL.mono le5⟩, np := st5.np N.np N.lt, cel := fun y p z => let ⟨w, z1, z2⟩ := N.cel y p z; ⟨w, le5 _ _ _ z1, z2⟩ } ⟨_, hm5, rfl⟩
end
end
section
open PySem.SeqAt PySem.Builtin.Str
noncomputable def isComp : Expr -> Bool
 | .ListComp .. => true
 | .SetComp .. => true
 | .DictComp .. => true
 | _ => false
section
variable {B : Bs} {d : Nat} {e : En} {H : Hp}
theorem exJ_expr {x : Expr} {pos : Pos} {p : V × Hp} (hc : (!isComp x) = true) (h1 : EvJ B d e H x p) : ExJ B d e H (.Expr x pos) (.next, e, p.2) := fun m A env s z Q E q =>
 wpAny_Expr_any (h1 m A env s z _ E fun m1 u s1 st1 p1 => q m1 _ s1 st1.nil ⟨p1.1, (z.step st1 p1.1).N, .next⟩) (by unfold interactive; rw [z.N.kind]; rfl) (by cases x <;> first | rfl | cases hc)
theorem exJ_ret0 {pos : Pos} : ExJ B d e H (.Return none pos) (.ret .none, e, H) := fun m A env s z Q E q => wpAny_Return_none (q m _ s (Step.refl ..) ⟨z.R, z.N, .ret rfl⟩)
theorem exJ_ret {x : Expr} {pos : Pos} {p : V × Hp} (h1 : EvJ B d e H x p) : ExJ B d e H (.Return (some x) pos) (.ret p.1, e, p.2) := fun m A env s z Q E q =>
 wpAny_Return_some (h1 m A env s z _ E fun m1 u s1 st1 p1 => q m1 _ s1 st1.nil ⟨p1.1, (z.step st1 p1.1).N, .ret p1.2⟩)
theorem exJ_if {t : Expr} {b o : List Stmt} {pos : Pos} {c : Bool × Hp} {r : Fl × En × Hp} (h1 : TsJ B d e H t c) (h2 : ExsJ B d e c.2 (if c.1 = true then b else o) r) : ExJ B d e H (.If t b o pos) r := fun m A env s z Q E q =>
 wpAny_If (h1 m A env s z _ E fun m1 u s1 st1 p1 => by
  intro _;obtain ⟨c, H1⟩ := c;obtain ⟨R1, rfl⟩ := p1;have k := h2 m1 A env s1 (z.step st1 R1) Q E fun m2 u2 s2 st2 p2 => q m2 u2 s2 (st1.nil.trans st2) p2;cases u <;> exact k)
theorem exJ_while {t : Expr} {b : List Stmt} {pos : Pos} {r : Fl × En × Hp} (h : WhJ B d e H t b r) : ExJ B d e H (.While t b [] pos) r := fun m A env s z Q E q => wpAny_While (h m A env s z _ fun m' u s' st p => q m' u s' st p)
theorem exJ_for {t i : Expr} {b : List Stmt} {pos : Pos} {it : It × Hp} {r : Fl × En × Hp} (hi : (!isSetE i) = true) (h1 : IterEJ B d e H i it) (h2 : FoJ B d e it.2 t it.1 b r) : ExJ B d e H (.For t i b [] pos) r := fun m A env s z Q E q => by
 refine wpAny_For (h1 m A env s z _ E fun m1 u s1 st1 p1 => ?_) (not_set hi env);obtain ⟨R1, a, j, rfl, l1, l2, X⟩ := p1;refine h2 m1 A env s1 a j (z.step st1 R1) X _ fun m2 u2 s2 st2 p2 => ?_;intro _;have st : Step B [(env.locals : Nat), a, j] m s.heap m2 s2.heap := st1.nil.trans st2;exact q m2 u2 s2 (Step.narrow (X := [(env.locals : Nat)]) (Y := [a, j]) st fun b hb => (List.mem_cons.mp hb).elim (fun w => by rw [w]; exact l1) fun w => by rw [List.mem_singleton.mp w]; exact l2) p2
theorem exJ_def (K : BOk B) {name : Str} {args : Arguments} {body : List Stmt} {scope : Scope} {pos : Pos} {cl : List (Str × Nat × Nat)} {q : En × Hp} (c1 : plainArgs args = true) (c2 : fnScope scope = true) (c8 : pgT.nest e.qual = some (e.qual ++ name)) (hk : lk e.names name = some .local) (h1 : closeOver e scope = some cl)
  (h2 : StoreJ B e (H.push (.clo ⟨name, e.qual ++ name, args.args.map (·.arg), args, .stmts body, scope, cl⟩)) name (.ref H.reg H.nxt) q) : ExJ B d e H (.FunctionDef name args body [] none [] scope none name pos) (.next, q) := fun m A env s z Q E w => by
 obtain ⟨_, p2, p3, p4⟩ := plain_defaults (env := env) c1;have hq : qualnameIn env name name = e.qual ++ name := by
  unfold qualnameIn;rw [z.N.kindOf hk, z.N.qual]; rfl
 intro _;refine nestDef_K p2 p3 p4 ?_;rw [hq];refine fn_ok K c1 c2 c8 h1 z.R z.N _ E fun m1 u s1 st1 p1 => ?_;intro _;exact h2 m1 A env s1 u p1.1.1 (z.step st1 p1.1.1).N p1.1.2 _ E fun m2 _ s2 st2 p2 => w m2 _ s2 (st1.nil.trans st2) ⟨p2.1, p2.2, .next⟩
def StoresJ (B : Bs) (d : Nat) (e : En) (H : Hp) (t x : Expr) (v : V) (r : En × Hp) : Prop := ∀ m A env s u, At B d e H m A env s -> VR m v u -> ∃ sw, swappedStores [t] x env = pure sw /\ Does B A [env.locals] (assignStores env u sw ((assignEach [t] env).map (·.2))) m s (fun m' f s' => f = .next /\ EnvP B env r m' () s')
theorem stores_plain {t : Expr} {v : V} {r : En × Hp} (ht : (!isStar t) = true) (h : AssJ B d e H t v r) {m : Mp} {A : Around} {env : Env} {s : Shared} {u : Value} (z : At B d e H m A env s) (hv : VR m v u) : Does B A [env.locals] (assignStores env u none ((assignEach [t] env).map (·.2))) m s (fun m' f s' => f = .next /\ EnvP B env r m' () s') := by
 have e1 : assignStores env u none ((assignEach [t] env).map (·.2)) = (assign t env u >>= fun _ => pure .next) := by
  cases t <;> first | rfl | cases ht
 rw [e1];exact (h m A env s u z hv).bind fun m1 _ s1 st1 p1 => Does.pure ⟨rfl, p1⟩
noncomputable def bindRevO : List (Str × V) -> En -> Hp -> OM (En × Hp)
 | [], e, H => ret (e, H)
 | x :: r, e, H => (storeO e H x.1 x.2).bind fun p => bindRevO r p.1 p.2
def BindRevJ (B : Bs) (ps : List (Str × V)) (e : En) (H : Hp) (r : En × Hp) : Prop := ∀ m A env s us, Rel B m H s.heap -> EnvOk B m e env s.heap -> VRs m (ps.map (·.2)) us -> Does B A [env.locals] (assignInOrder (ps.map fun p => bindName env p.1) us) m s (EnvP B env r)
theorem bindRevO_ok : ∀ {ps : List (Str × V)} {e : En} {H : Hp}, Says (bindRevO ps e H) (BindRevJ B ps e H)
 | [], e, H => Says.ret fun m A env s us R N v => by
  cases us with
  | nil => exact Does.pure ⟨R, N⟩
  | cons _ _ => exact v.elim
 | p :: ps, e, H => storeO_ok.bind fun a h1 => bindRevO_ok.mono fun r h2 m A env s us R N v => by
  cases us with
  | nil => exact v.elim
  | cons u us =>
   show Does B A [env.locals] (PySem.holding us (bindName env p.1 u) >>= fun _ => assignInOrder (ps.map fun p => bindName env p.1) us) m s _;have one : Does B A [env.locals] (bindName env p.1 u) m s (EnvP B env a) := fun Q E q => wpAny_bindName (h1 m A env s u R N v.1 Q E q);exact one.holding.bind fun m1 _ s1 st1 p1 => h2 m1 A env s1 us p1.1 p1.2 (v.2.mono st1.le)
theorem storesJ_swap {ts vs : List Expr} {n n' : Nat} {p p' : Pos} {names : List Str} {v : V} {xs : List V} {r : En × Hp} (h1 : swapped ts vs e = some (some names)) (h2 : ItemsJ B d H v xs) (hl : xs.length = names.length) (h3 : BindRevJ B (names.zip xs).reverse e H r) : StoresJ B d e H (.Tuple ts n p) (.Tuple vs n' p') v r := fun m A env s u z hv => by
 refine ⟨_, swapped_ok h1 z.N.kind z.N.names.symm.symm, ?_⟩;show Does B A [env.locals] (rule "assign.swapped-stores" >>= fun _ => unpackItems u names.length none >>= fun items => assignInOrder (names.reverse.map fun n => bindName env n) items.reverse >>= fun _ => (pure Flow.next : Sem Flow)) m s _;have U := h2 m A s u z.R z.rm hv;rw [hl] at U;intro Q E q _;refine wpAny_bind (wpAny_rule (wpAny_bind (U _ E fun m1 us s1 st1 p1 => ?_)));intro _;have e2 : (names.reverse.map fun n => bindName env n) = (names.zip xs).reverse.map fun p => bindName env p.1 := by
  rw [List.map_reverse, List.map_reverse];refine congrArg List.reverse ?_;have : names = (names.zip xs).map (·.1) := by rw [List.map_fst_zip (le_of_eq hl.symm)]
  conv => lhs; rw [this]
  rw [List.map_map]; rfl
 rw [e2];have v2 : VRs m1 ((names.zip xs).reverse.map (·.2)) us.reverse := by
  rw [List.map_reverse, List.map_snd_zip (le_of_eq hl)];exact p1.2.reverse
 refine wpAny_bind (h3 m1 A env s1 us.reverse p1.1 (z.step st1 p1.1).N v2 _ E fun m2 _ s2 st2 p2 => wpAny_pure ?_);exact q m2 _ s2 (st1.nil.trans st2) ⟨rfl, p2⟩
noncomputable def isTupE : Expr -> Bool
 | .Tuple .. => true
 | .List .. => true
 | _ => false
theorem swap_none {t x : Expr} {env : Env} (h : (!(isTupE t && isTupE x)) = true) : swappedStores [t] x env = pure none := by
 cases t with
 | Tuple ts n p => cases x with
  | Tuple _ _ _ => cases h
  | List _ _ => cases h
  | _ => rfl
 | List ts n => cases x with
  | Tuple _ _ _ => cases h
  | List _ _ => cases h
  | _ => rfl
 | _ => rfl
theorem storesJ_plain {t x : Expr} {v : V} {r : En × Hp} (ht : (!isStar t) = true) (h2 : (!(isTupE t && isTupE x)) = true) (h : AssJ B d e H t v r) : StoresJ B d e H t x v r := fun m A env s u z hv => ⟨none, swap_none h2, stores_plain ht h z hv⟩
theorem storesJ_same {ts vs : List Expr} {n n' : Nat} {p p' : Pos} {v : V} {r : En × Hp} (h1 : swapped ts vs e = some none) (h : AssJ B d e H (.Tuple ts n p) v r) : StoresJ B d e H (.Tuple ts n p) (.Tuple vs n' p') v r := fun m A env s u z hv =>
 ⟨none, swapped_ok h1 z.N.kind z.N.names.symm.symm, stores_plain rfl h z hv⟩
theorem exJ_assign {t x : Expr} {pos : Pos} {p : V × Hp} {q : En × Hp} (hs : ∀ env, swapsWith x (some t) pos.line env = pure false) (h1 : EvJ B d e H x p) (h2 : StoresJ B d e p.2 t x p.1 q) : ExJ B d e H (.Assign [t] x pos) (.next, q) := fun m A env s z => by
 rw [exec_Assign];refine Does.standAt ?_;rw [show swapsWithSole [t] x pos.line env = pure false from hs env]
 show Does B A [env.locals] (eval x env >>= fun v => swappedStores [t] x env >>= fun sw => assignStores env v sw ((assignEach [t] env).map (·.2))) m s _
 refine (h1 m A env s z).bind0 fun m1 u s1 st1 p1 => ?_;obtain ⟨sw, w1, w2⟩ := h2 m1 A env s1 u (z.step st1 p1.1) p1.2;rw [w1];exact w2.mono fun m2 f s2 st2 p2 => by
  obtain ⟨rfl, p2⟩ := p2;exact ⟨p2.1, p2.2, .next⟩
theorem assignC_plain {t : Expr} {elt : Expr ⊕ (Expr × Expr)} {gens : List Comprehension} {scope : Scope} {ps pos : Pos} {p : V × Hp} {q : En × Hp} (ht : (!isStar t) = true) (h1 : CompJ B d e H elt gens scope p) (h2 : AssJ B d e p.2 t p.1 q) {m : Mp} {A : Around} {env : Env} {s : Shared} (z : At B d e H m A env s) (hs : swapsWith (compE elt gens scope ps) (some t) pos.line env = pure false) : Does B A [env.locals] (exec (.Assign [t] (compE elt gens scope ps) pos) env) m s (FlowP B env (.next, q)) := by
 rw [exec_Assign];refine Does.standAt ?_;rw [show swapsWithSole [t] (compE elt gens scope ps) pos.line env = pure false from hs]
 show Does B A [env.locals] (eval (compE elt gens scope ps) env >>= fun v => swappedStores [t] (compE elt gens scope ps) env >>= fun sw => assignStores env v sw ((assignEach [t] env).map (·.2))) m s _
 refine (evJ_comp h1 m A env s z).bind0 fun m1 u s1 st1 p1 => ?_;have e1 : isTupE (compE elt gens scope ps) = false := by cases elt <;> rfl
 rw [swap_none (by rw [e1, Bool.and_false]; rfl)]
 exact (stores_plain ht h2 (z.step st1 p1.1) p1.2).mono fun m2 f s2 st2 p2 => by rw [p2.1]; exact ⟨p2.2.1, p2.2.2, .next⟩
theorem exJ_assignN {nm : Str} {np : Pos} {elt : Expr ⊕ (Expr × Expr)} {gens : List Comprehension} {scope : Scope} {ps pos : Pos} {p : V × Hp} {q : En × Hp} (h1 : CompJ B d e H elt gens scope p) (h2 : AssJ B d e p.2 (.Name nm np) p.1 q) : ExJ B d e H (.Assign [.Name nm np] (compE elt gens scope ps) pos) (.next, q) := fun m A env s z => by
 obtain ⟨b, hb⟩ : ∃ b, swapsWith (compE elt gens scope ps) (some (.Name nm np)) pos.line env = pure b := by cases elt <;> exact ⟨_, rfl⟩
 cases b with
 | false => exact assignC_plain rfl h1 h2 z hb
 | true =>
  rw [exec_Assign];refine Does.standAt ?_;rw [show swapsWithSole [.Name nm np] (compE elt gens scope ps) pos.line env = pure true from hb]
  show Does B A [env.locals] (evalThenUse (compE elt gens scope ps) env (fun v => assignAll v ((assignEach [.Name nm np] env).map (·.2))) >>= fun _ => (pure Flow.next : Sem Flow)) m s _
  refine (us_comp h1 z fun m1 u s1 st1 p1 => ?_).bind fun m2 _ s2 st2 p2 => Does.pure ⟨p2.1, p2.2, .next⟩;show Does B A [env.locals] (assign (.Name nm np) env u) m1 s1 _;exact h2 m1 A env s1 u (z.step st1 p1.1) p1.2
theorem exJ_assignS {o sl : Expr} {sp : Pos} {elt : Expr ⊕ (Expr × Expr)} {gens : List Comprehension} {scope : Scope} {ps pos : Pos} {p : V × Hp} {q : En × Hp} (h1 : CompJ B d e H elt gens scope p) (h2 : AssJ B d e p.2 (.Subscript o sl sp) p.1 q) : ExJ B d e H (.Assign [.Subscript o sl sp] (compE elt gens scope ps) pos) (.next, q) := fun m A env s z =>
 assignC_plain rfl h1 h2 z (by cases elt <;> rfl)
theorem exJ_sorted (K : BOk B) {np kn yn : Str} {p kp cp lp pos : Pos} {x b : Expr} {args : Arguments} {scope : Scope} {f a : V × Hp} {cl : List (Str × Nat × Nat)} {rd id rl il : Nat} {es : List (V × V)} {xs : List V} {ns ks : List Int} (h1 : EvJ B d e H (.Name np p) f) (hf : f.1 = .bi "sorted") (hx : (!isStar x) = true) (h2 : EvJ B d e f.2 x a)
  (c2 : plainArgs args = true) (c3 : fnScope scope = true) (c4 : pgT.nest e.qual = some (e.qual ++ "<lambda>")) (hcl : closeOver e scope = some cl) (Y : KeyOk (a.2.push (.clo ⟨"<lambda>", e.qual ++ "<lambda>", args.args.map (·.arg), args, .expr b, scope, cl⟩)) ⟨"<lambda>", e.qual ++ "<lambda>", args.args.map (·.arg), args, .expr b, scope, cl⟩ kn yn rd id es)
  (ha : a.1 = .ref rl il) (gl : (a.2.push (.clo ⟨"<lambda>", e.qual ++ "<lambda>", args.args.map (·.arg), args, .expr b, scope, cl⟩)).get rl il = some (.list xs)) (hi : intsOf xs = some ns) (hk : keysIn es ns = some ks) (hnd : ks.Nodup /\ xs.length < 64) :
  ExJ B d e H (.Return (some (.Call (.Name np p) [x] [⟨some "key", .Lambda args b scope lp, kp⟩] cp)) pos) (.ret (.ref a.2.reg (a.2.nxt + 1)), e, (a.2.push (.clo ⟨"<lambda>", e.qual ++ "<lambda>", args.args.map (·.arg), args, .expr b, scope, cl⟩)).push (.list ((sortK (ks.zip ns)).map .int))) := fun m A env s z Q E q => by
 intro _;refine wpAny_Return_some ?_;rw [arm_eval_Call_Name'];refine wpAny_bind (h1 m A env s z _ E fun m1 fu s1 st1 p1 => ?_);intro _;obtain ⟨R1, v1⟩ := p1;rw [hf] at v1;rw [show fu = .builtin "sorted" from v1]
 have hst : starEach [x] env = [(false, eval x env)] := star_cons hx [] env;have z1 := z.step st1 R1;refine callWith_of (P := fun _ => True) (by rw [hst]; rfl) (fun h _ => mk_callee_bi (B := B) h _) ?_
 refine evalArgs_kw2 (by rfl) ?_ (by rw [hst]; rfl)
 refine evsJ_cons hx h2 evsJ_nil m1 A env s1 _ z1 _ E fun m2 us s2 st2 p2 => ?_;intro _;obtain ⟨R2, vs2⟩ := p2;obtain ⟨au, rfl, _⟩ := VRs.one vs2;have z2 := z1.step st2 R2;refine kwAll_cons (kla_eval (plain_defaults c2).1 ?_);rw [z2.N.qual];refine fn_ok K c2 c3 c4 hcl R2 z2.N _ E fun m3 cu s3 st3 p3 => kwAll_nil ⟨trivial, ?_⟩;obtain ⟨⟨R3, v3⟩, fa, rfl, hsz⟩ := p3;have va := vs2.1.mono st3.le;rw [ha] at va;have hg : ∀ o, (a.2.push o).get a.2.reg a.2.nxt = some o := fun o => by rw [Hp.get_push, if_pos ⟨rfl, rfl⟩]
 refine sort_ok K (qc := (a.2.reg, a.2.nxt)) R3 (z2.step st3 R3).N Y (hg _) v3 hsz va gl hi hk hnd.1 hnd.2 z.rm.d fun m4 v s4 st4 R4 N4 v4 => ?_;intro _;exact q m4 _ s4 (((st1.trans st2).trans st3).nil.trans st4) ⟨R4, N4, .ret v4⟩
end
noncomputable def sortedO' (I : OI) (d : Nat) (e : En) (H : Hp) (np : Str) (p : Pos) (x : Expr) (args : Arguments) (b : Expr) (scope : Scope) (kn yn : Str) : OM (V × Hp) :=
 (I.ev d e H (.Name np p)).bind fun f => (I.ev d e f.2 x).bind fun a => guardO (isSorted f.1) (guardO (!isStar x) (guardO (plainArgs args) (guardO (fnScope scope) (guardO (decide (pgT.nest e.qual = some (e.qual ++ "<lambda>"))) (guardO (decide (args.args.map (·.arg) = [yn])) (guardO (decide (lk scope.names yn = some .local))
   (guardO (decide (lk scope.names kn = some .free)) (guardO (scope.names.all (fun x => x.2 != .cell)) (guardO (!badName kn) (guardO (!badName yn)
  (liftO (closeOver e scope) fun cl => liftO (lk cl kn) fun c => (newO a.2 (.clo ⟨"<lambda>", e.qual ++ "<lambda>", args.args.map (·.arg), args, .expr b, scope, cl⟩)).bind fun q =>
   (getO q.2 c.1 c.2).bind fun oc => onC oc fun dv => liftO dv fun dv => onRef dv fun rd id => (getO q.2 rd id).bind fun od => onD od fun es => onRef a.1 fun rl il => (getO q.2 rl il).bind fun ol => onL ol fun xs =>
   (askO Ans.is? (intsOf xs)).bind fun ns => (askO Ans.is? (keysIn es ns)).bind fun ks => reqO (ks.Nodup /\ xs.length < 64) (newO q.2 (.list ((sortK (ks.zip ns)).map .int))))))))))))))
theorem isSorted_ok {f : V} (h : isSorted f = true) : f = .bi "sorted" := by
 cases f with
 | bi id => rw [show id = "sorted" from eq_of_beq h]
 | _ => cases h
theorem sortedO_ok {B : Bs} (K : BOk B) {I : OI} (O : IOk B I) {d : Nat} {e : En} {H : Hp} {np : Str} {p : Pos} {x : Expr} {args : Arguments} {scope : Scope} {kn yn : Str} {p1 p2 p3 lp kp cp pos : Pos} :
  Says (sortedO' I d e H np p x args (.Subscript (.Name kn p1) (.Name yn p2) p3) scope kn yn) (fun r => ExJ B d e H (.Return (some (.Call (.Name np p) [x] [⟨some "key", .Lambda args (.Subscript (.Name kn p1) (.Name yn p2) p3) scope lp, kp⟩] cp)) pos) (.ret r.1, e, r.2)) := by
 refine (O.ev d e H _).bind fun f h1 => (O.ev d e f.2 x).bind fun a h2 => Says.guard fun c1 => Says.guard fun c0 => Says.guard fun c2 => Says.guard fun c3 => Says.guard fun c4 => Says.guard fun c5 => Says.guard fun c6 => Says.guard fun c7 => Says.guard fun c8 => Says.guard fun c9 => Says.guard fun c10 => Says.lift fun cl hcl => Says.lift fun c hlc =>
  Says.bind (F := fun q => q = (V.ref a.2.reg a.2.nxt, a.2.push (.clo ⟨"<lambda>", e.qual ++ "<lambda>", args.args.map (·.arg), args, .expr (.Subscript (.Name kn p1) (.Name yn p2) p3), scope, cl⟩))) (Says.new rfl) fun q hq => ?_
 subst hq;refine Says.get fun oc g1 => Says.onC fun dv e1 => Says.lift fun dv e2 => Says.onRef fun rd id e3 => Says.get fun od g2 => Says.onD fun es e4 => Says.onRef fun rl il e5 => Says.get fun ol g3 => Says.onL fun xs e6 =>
  Says.bind (F := fun ns => intsOf xs = some ns) (Says.askO fun _ h => h) fun ns h3 => Says.bind (F := fun ks => keysIn es ns = some ks) (Says.askO fun _ h => h) fun ks h4 => Says.req fun h5 => Says.new ?_
 exact exJ_sorted K h1 (isSorted_ok c1) c0 h2 c2 c3 (of_decide_eq_true c4) hcl ⟨⟨p1, p2, p3, rfl⟩, of_decide_eq_true c5, fun x hx => bne_iff_ne.mp (List.all_eq_true.mp c8 x hx), of_decide_eq_true c6, of_decide_eq_true c7, c9, c10, ⟨c, hlc, (g1.trans e1).trans (by rw [e2, e3])⟩, g2.trans e4⟩ e5 (g3.trans e6) h3 h4 h5
noncomputable def sortBO (I : OI) (d : Nat) (e : En) (H : Hp) (np : Str) (p : Pos) (x : Expr) (args : Arguments) (b : Expr) (scope : Scope) : OM (V × Hp) := match b with
 | .Subscript o s p3 => onName o fun kn => onName s fun yn => sortedO' I d e H np p x args (.Subscript o s p3) scope kn yn
 | _ => OM.no
noncomputable def sortLO (I : OI) (d : Nat) (e : En) (H : Hp) (np : Str) (p : Pos) (x : Expr) (l : Expr) : OM (V × Hp) := match l with
 | .Lambda args b scope _ => sortBO I d e H np p x args b scope
 | _ => OM.no
noncomputable def sortXO (I : OI) (d : Nat) (e : En) (H : Hp) (np : Str) (p : Pos) (as : List Expr) (l : Expr) : OM (V × Hp) := match as with
 | [] => OM.no
 | x :: r => match r with
  | [] => sortLO I d e H np p x l
  | _ :: _ => OM.no
noncomputable def sortFO (I : OI) (d : Nat) (e : En) (H : Hp) (f : Expr) (as : List Expr) (k : Keyword) : OM (V × Hp) := match f with
 | .Name np p => guardO (decide (k.arg = some "key")) (sortXO I d e H np p as k.value)
 | _ => OM.no
noncomputable def retSO (I : OI) (d : Nat) (e : En) (H : Hp) (x : Expr) : OM (V × Hp) := match x with
 | .Call f as ks p => match ks with
  | [] => I.ev d e H (.Call f as [] p)
  | k :: r => match r with
   | [] => sortFO I d e H f as k
   | _ :: _ => OM.no
 | x => I.ev d e H x
theorem sortF_ok {B : Bs} (K : BOk B) {I : OI} (O : IOk B I) {d : Nat} {e : En} {H : Hp} {f : Expr} {as : List Expr} {k : Keyword} {cp pos : Pos} : Says (sortFO I d e H f as k) (fun r => ExJ B d e H (.Return (some (.Call f as [k] cp)) pos) (.ret r.1, e, r.2)) := by
 cases f with
 | Name np p =>
  refine Says.guard fun hk => ?_;obtain ⟨ka, kv, kp⟩ := k;obtain rfl : ka = some "key" := of_decide_eq_true hk;cases as with
  | nil => exact Says.no
  | cons x r => cases r with
   | cons _ _ => exact Says.no
   | nil => cases kv with
    | Lambda args b scope lp => cases b with
     | Subscript o s p3 =>
      refine Says.onName fun kn p1 e1 => Says.onName fun yn p2 e2 => ?_;subst e1 e2;exact sortedO_ok K O
     | _ => exact Says.no
    | _ => exact Says.no
 | _ => exact Says.no
theorem retSO_ok {B : Bs} (K : BOk B) {I : OI} (O : IOk B I) {d : Nat} {e : En} {H : Hp} {x : Expr} {pos : Pos} : Says (retSO I d e H x) (fun r => ExJ B d e H (.Return (some x) pos) (.ret r.1, e, r.2)) := by
 cases x with
 | Call f as ks p => cases ks with
  | nil => exact (O.ev d e H _).mono fun r h => exJ_ret h
  | cons k r => cases r with
   | nil => exact sortF_ok K O
   | cons _ _ => exact Says.no
 | _ => exact (O.ev d e H _).mono fun r h => exJ_ret h
noncomputable def evO (I : OI) (d : Nat) (e : En) (H : Hp) (x : Expr) : OM (V × Hp) := match x with
 | .Constant c _ _ => constO c H
 | .Name y _ => (nameO e H y).bind fun v => ret (v, H)
 | .BoolOp op xs _ => boolVO I d e op H xs
 | .BinOp l op r _ => (I.ev d e H l).bind fun a => (I.ev d e a.2 r).bind fun b => binO b.2 op a.1 b.1
 | .UnaryOp op y _ => (I.ev d e H y).bind fun a => unaryO op a.1 a.2
 | .IfExp t b o _ => (I.ts d e H t).bind fun c => match c.1 with
  | true => I.ev d e c.2 b
  | false => I.ev d e c.2 o
 | .Dict ks vs _ => dictO I d e H ks vs
 | .List es _ => guardO (noStars es) ((evsO I d e H es).bind fun a => newLO a.2 a.1)
 | .Tuple es _ _ => guardO (noStars es) ((evsO I d e H es).bind fun a => newTO a.2 a.1)
 | .ListComp elt gens scope _ => compO I d e H (.inl elt) gens scope
 | .DictComp k v gens scope _ => compO I d e H (.inr (k, v)) gens scope
 | .Compare l ops cs _ => (I.ev d e H l).bind fun a => (chainO I d e a.2 a.1 ops cs).bind fun b => ret (.bool b.1, b.2)
 | .Call f args kws pos => callEO I d e H f args kws pos
 | .Attribute o m _ => guardO (noSuper o) ((I.ev d e H o).bind fun a => (attrO a.2 a.1 m).bind fun v => ret (v, a.2))
 | .Subscript o s _ => (I.ev d e H o).bind fun a => match s with
  | .Slice lo hi st _ => (optO I d e a.2 lo).bind fun l => (optO I d e l.2 hi).bind fun h => (optO I d e h.2 st).bind fun t => sliceO t.2 a.1 l.1 h.1 t.1
  | s => (I.ev d e a.2 s).bind fun k => (itemO k.2 a.1 k.1).bind fun v => ret (v, k.2)
 | _ => OM.no
section
variable {B : Bs} (K : BOk B) {I : OI} (O : IOk B I) {d : Nat} {e : En} {H : Hp}
include K O
theorem sub_ok {o s : Expr} {pos : Pos} : Says ((I.ev d e H o).bind fun a => (I.ev d e a.2 s).bind fun k => (itemO k.2 a.1 k.1).bind fun v => ret (v, k.2)) (EvJ B d e H (.Subscript o s pos)) :=
 (O.ev d e H o).bind fun a h1 => (O.ev d e a.2 s).bind fun k h2 => (itemO_ok K).bind fun v h3 => Says.ret (evJ_sub h1 h2 h3)
theorem evO_ok {x : Expr} : Says (evO I d e H x) (EvJ B d e H x) := by
 cases x with
 | Constant c k pos => exact evJ_const
 | Name y pos => exact (nameO_ok K).bind fun v h => Says.ret fun m A env s z => h m A env s pos z.R z.N
 | BoolOp op xs pos => exact (boolVO_ok O).mono fun r h m A env s z => Does.eq (h m A env s pos z) (arm_eval_BoolOp ..)
 | BinOp l op r pos => exact (O.ev d e H l).bind fun a h1 => (O.ev d e a.2 r).bind fun b h2 => binO_ok.mono fun c h3 => evJ_bin h1 h2 h3
 | UnaryOp op y pos => exact (O.ev d e H y).bind fun a h1 => evJ_unary h1
 | IfExp t b o pos =>
  refine (O.ts d e H t).bind fun c h1 => ?_;cases hc : c.1 with
  | true => exact (O.ev d e c.2 b).mono fun r h2 => evJ_ifexp h1 (by rw [if_pos hc]; exact h2)
  | false => exact (O.ev d e c.2 o).mono fun r h2 => evJ_ifexp h1 (by rw [hc, if_neg nofun]; exact h2)
 | Dict ks vs pos => exact dictO_ok O
 | List es pos => exact Says.guard fun hs => (evsO_ok O hs).bind fun a h1 => Says.newL fun hl => evJ_list h1 hl
 | Tuple es n pos => exact Says.guard fun hs => (evsO_ok O hs).bind fun a h1 => Says.newT fun hl => evJ_tuple h1 hl
 | ListComp a gs sc pos => exact (compO_ok K O).mono fun r h => evJ_comp (elt := .inl a) h
 | DictComp a b gs sc pos => exact (compO_ok K O).mono fun r h => evJ_comp (elt := .inr (a, b)) h
 | Compare l ops cs pos => exact (O.ev d e H l).bind fun a h1 => (chainO_ok K O).bind fun b h2 => Says.ret (evJ_cmp h1 h2)
 | Call f args kws pos => exact callEO_ok K O
 | Attribute o n pos => exact Says.guard fun hn => (O.ev d e H o).bind fun a h1 => (attrO_ok K).bind fun v h2 => Says.ret (evJ_attr hn h1 h2)
 | Subscript o s pos => cases s with
  | Slice lo hi st p => exact (O.ev d e H o).bind fun a h1 => (optO_ok O).bind fun l h2 => (optO_ok O).bind fun h h3 => (optO_ok O).bind fun t h4 => sliceO_ok.mono fun r h5 => evJ_slice h1 h2 h3 h4 h5
  | _ => exact sub_ok K O
 | _ => exact Says.no
end
noncomputable def storesPO (I : OI) (d : Nat) (e : En) (H : Hp) (t x : Expr) (v : V) : OM (En × Hp) := guardO (!isStar t) (guardO (!(isTupE t && isTupE x)) (assO I d e H t v))
noncomputable def storesO (I : OI) (d : Nat) (e : En) (H : Hp) (t x : Expr) (v : V) : OM (En × Hp) := match t with
 | .Tuple ts n p => match x with
  | .Tuple vs _ _ => liftO (swapped ts vs e) fun sw => match sw with
   | some names => (itemsO H v).bind fun xs => guardO (decide (xs.length = names.length)) (bindRevO (names.zip xs).reverse e H)
   | none => assO I d e H (.Tuple ts n p) v
  | x => storesPO I d e H (.Tuple ts n p) x v
 | t => storesPO I d e H t x v
noncomputable def assignCO (I : OI) (d : Nat) (e : En) (H : Hp) (t : Expr) (elt : Expr ⊕ (Expr × Expr)) (gens : List Comprehension) (scope : Scope) : OM (Fl × En × Hp) := match t with
 | .Name nm np => (compO I d e H elt gens scope).bind fun p => (assO I d e p.2 (.Name nm np) p.1).bind fun q => ret (.next, q)
 | .Subscript o sl sp => (compO I d e H elt gens scope).bind fun p => (assO I d e p.2 (.Subscript o sl sp) p.1).bind fun q => ret (.next, q)
 | _ => OM.no
noncomputable def assignSO (I : OI) (d : Nat) (e : En) (H : Hp) (t x : Expr) : OM (Fl × En × Hp) := match x with
 | .ListComp a gs sc _ => assignCO I d e H t (.inl a) gs sc
 | .DictComp a b gs sc _ => assignCO I d e H t (.inr (a, b)) gs sc
 | .SetComp .. => OM.no
 | x => (I.ev d e H x).bind fun p => (storesO I d e p.2 t x p.1).bind fun q => ret (.next, q)
noncomputable def defO (e : En) (H : Hp) (name : Str) (args : Arguments) (body : List Stmt) (decs : List Expr) (rets : Option Expr) (tps : List TypeParam) (scope : Scope) (tsc : Option Scope) (bind : Str) : OM (Fl × En × Hp) :=
 guardO (plainArgs args && fnScope scope && decs.isEmpty && rets.isNone && tps.isEmpty && tsc.isNone && decide (bind = name) && decide (pgT.nest e.qual = some (e.qual ++ name)) && decide (lk e.names name = some .local))
  (liftO (closeOver e scope) fun cl => (newO H (.clo ⟨name, e.qual ++ name, args.args.map (·.arg), args, .stmts body, scope, cl⟩)).bind fun p => (storeO e p.2 name (.ref H.reg H.nxt)).bind fun q => ret (.next, q))
noncomputable def exO (I : OI) (d : Nat) (e : En) (H : Hp) (x : Stmt) : OM (Fl × En × Hp) := match x with
 | .Expr v _ => guardO (!isComp v) ((I.ev d e H v).bind fun p => ret (.next, e, p.2))
 | .Return v _ => match v with
  | none => ret (.ret .none, e, H)
  | some v => (retSO I d e H v).bind fun p => ret (.ret p.1, e, p.2)
 | .Assign ts v _ => match ts with
  | [] => OM.no
  | t :: r => match r with
   | [] => assignSO I d e H t v
   | _ :: _ => OM.no
 | .If t b o _ => (I.ts d e H t).bind fun c => match c.1 with
  | true => exsO I d e c.2 b
  | false => exsO I d e c.2 o
 | .While t b o _ => match o with
  | [] => I.wh d e H t b
  | _ :: _ => OM.no
 | .For t i b o _ => match o with
  | [] => guardO (!isSetE i) ((iterEO I d e H i).bind fun it => I.fo d e it.2 t it.1 b)
  | _ :: _ => OM.no
 | .FunctionDef name args body decs rets tps scope tsc bind _ => defO e H name args body decs rets tps scope tsc bind
 | _ => OM.no
section
variable {B : Bs} (K : BOk B) {I : OI} (O : IOk B I) {d : Nat} {e : En} {H : Hp}
include K O
theorem storesPO_ok {t x : Expr} {v : V} : Says (storesPO I d e H t x v) (StoresJ B d e H t x v) := Says.guard fun hg => Says.guard fun hg2 => (assO_ok K O).mono fun r h => storesJ_plain hg hg2 h
theorem storesO_ok {t x : Expr} {v : V} : Says (storesO I d e H t x v) (StoresJ B d e H t x v) := by
 cases t with
 | Tuple ts n p =>
  cases x with
  | Tuple vs n' p' =>
   refine Says.lift fun sw hsw => ?_;cases sw with
   | none => exact (assO_ok K O).mono fun r h => storesJ_same hsw h
   | some names => exact (itemsO_ok (B := B) (d := d)).bind fun xs h1 => Says.guard fun hl => bindRevO_ok.mono fun r h2 => storesJ_swap hsw h1 (of_decide_eq_true hl) h2
  | _ => exact storesPO_ok K O
 | _ => exact storesPO_ok K O
theorem assignCO_ok {t : Expr} {elt : Expr ⊕ (Expr × Expr)} {gens : List Comprehension} {scope : Scope} {ps pos : Pos} : Says (assignCO I d e H t elt gens scope) (ExJ B d e H (.Assign [t] (compE elt gens scope ps) pos)) := by
 cases t with
 | Name nm np => exact (compO_ok K O).bind fun p h1 => (assO_ok K O).bind fun q h2 => Says.ret (exJ_assignN h1 h2)
 | Subscript o sl sp => exact (compO_ok K O).bind fun p h1 => (assO_ok K O).bind fun q h2 => Says.ret (exJ_assignS h1 h2)
 | _ => exact Says.no
theorem assignSO_ok {t x : Expr} {pos : Pos} : Says (assignSO I d e H t x) (ExJ B d e H (.Assign [t] x pos)) := by
 have plain : (∀ env, swapsWith x (some t) pos.line env = pure false) -> Says ((I.ev d e H x).bind fun p => (storesO I d e p.2 t x p.1).bind fun q => ret (Fl.next, q)) (ExJ B d e H (.Assign [t] x pos)) := fun hs =>
  (O.ev d e H x).bind fun p h1 => (storesO_ok K O).bind fun q h2 => Says.ret (exJ_assign hs h1 h2)
 cases x with
 | ListComp a gs sc ps => exact assignCO_ok K O (elt := .inl a)
 | DictComp a b gs sc ps => exact assignCO_ok K O (elt := .inr (a, b))
 | SetComp _ _ _ _ => exact Says.no
 | _ => exact plain fun _ => rfl
theorem exO_ok {x : Stmt} : Says (exO I d e H x) (ExJ B d e H x) := by
 cases x with
 | Expr v pos => exact Says.guard fun hc => (O.ev d e H v).bind fun p h => Says.ret (exJ_expr hc h)
 | Return v pos => cases v with
  | none => exact Says.ret exJ_ret0
  | some v => exact (retSO_ok K O).bind fun p h => Says.ret h
 | Assign ts v pos => cases ts with
  | nil => exact Says.no
  | cons t r => cases r with
   | nil => exact assignSO_ok K O
   | cons _ _ => exact Says.no
 | If t b o pos =>
  refine (O.ts d e H t).bind fun c h1 => ?_;cases hc : c.1 with
  | true => exact (exsO_ok O).mono fun r h2 => exJ_if h1 (by rw [if_pos hc]; exact h2)
  | false => exact (exsO_ok O).mono fun r h2 => exJ_if h1 (by rw [hc, if_neg nofun]; exact h2)
 | While t b o pos => cases o with
  | nil => exact (O.wh d e H t b).mono fun r h => exJ_while h
  | cons _ _ => exact Says.no
 | For t i b o pos => cases o with
  | nil => exact Says.guard fun hi => (iterEO_ok K O).bind fun it h1 => (O.fo d e it.2 t it.1 b).mono fun r h2 => exJ_for hi h1 h2
  | cons _ _ => exact Says.no
 | FunctionDef name args body decs rets tps scope tsc bind pos =>
  refine Says.guard fun hc => Says.lift fun cl hcl => ?_;simp only [Bool.and_eq_true, decide_eq_true_eq, List.isEmpty_iff, Option.isNone_iff_eq_none] at hc;obtain ⟨⟨⟨⟨⟨⟨⟨⟨c1, c2⟩, rfl⟩, rfl⟩, rfl⟩, rfl⟩, rfl⟩, c8⟩, c9⟩ := hc;exact Says.bind (F := fun p => p.2 = H.push (.clo ⟨bind, e.qual ++ bind, args.args.map (·.arg), args, .stmts body, scope, cl⟩)) (Says.new rfl) fun p hp => by
   rw [hp];exact storeO_ok.bind fun q h => Says.ret (exJ_def K c1 c2 c8 c9 hcl h)
 | _ => exact Says.no
end
noncomputable def fnO (B : Bs) (I : OI) (d a : Nat) (as : List V) (H : Hp) : OM (V × Hp) := ask Ans.vh? (FnJ B d a as H) (match pgT.fns a with
 | none => OM.no
 | some fn => match d with
  | 0 => OM.no
  | d + 1 => fnBody I d fn as H)
noncomputable def stepI (B : Bs) (I : OI) : OI := ⟨evO I, tsO I, exO I, fnO B I, fun d e H t b => ask Ans.fl? (WhJ B d e H t b) (whO I d e H t b), fun d e H t it b => ask Ans.fl? (FoJ B d e H t it b) (foO I d e H t it b), fun d e H elt g it r i => ask Ans.eh? (CoJ B d e H elt g it r i) (coO I d e H elt g it r i)⟩
noncomputable def botI : OI := ⟨fun _ _ _ _ => OM.no, fun _ _ _ _ => OM.no, fun _ _ _ _ => OM.no, fun _ _ _ _ => OM.no, fun _ _ _ _ _ => OM.no, fun _ _ _ _ _ _ => OM.no, fun _ _ _ _ _ _ _ _ => OM.no⟩
noncomputable def orI (B : Bs) : Nat -> OI
 | 0 => botI
 | n + 1 => stepI B (orI B n)
theorem orI_ok {B : Bs} (K : BOk B) : ∀ n, IOk B (orI B n)
 | 0 => ⟨fun _ _ _ _ => Says.no, fun _ _ _ _ => Says.no, fun _ _ _ _ => Says.no, fun _ _ _ _ => Says.no, fun _ _ _ _ _ => Says.no, fun _ _ _ _ _ _ => Says.no, fun _ _ _ _ _ _ _ _ => Says.no⟩
 | n + 1 => ⟨fun _ _ _ _ => evO_ok K (orI_ok K n), fun _ _ _ _ => tsO_ok K (orI_ok K n), fun _ _ _ _ => exO_ok K (orI_ok K n),
   fun d a as H => Says.ask (fun _ h => h) (by
    cases hf : pgT.fns a with
    | none => exact Says.no
    | some fn => cases d with
     | zero => exact Says.no
     | succ d => exact fnBody_ok K (orI_ok K n) hf),
   fun _ _ _ _ _ => Says.ask (fun _ h => h) (whO_ok (orI_ok K n)), fun _ _ _ _ _ _ => Says.ask (fun _ h => h) (foO_ok K (orI_ok K n)), fun _ _ _ _ _ _ _ _ => Says.ask (fun _ h => h) (coO_ok K (orI_ok K n))⟩
end
noncomputable abbrev rf (p : Nat × Nat) : V := .ref p.1 p.2
noncomputable abbrev nV (n : Nat) : V := .int (n : Int)
theorem none_of {α : Type} {o : Option α} (h : ∀ r, o = some r -> False) : o = none := by
 cases o with
 | none => rfl
 | some r => exact (h r rfl).elim
structure Hok (H : Hp) : Prop where
 fresh : ∀ i, H.nxt <= i -> H.get H.reg i = none
 above : ∀ r i, H.reg < r -> H.get r i = none
 pos : H.reg ≠ 0
 zero : ∀ i, Nat.beq i 1718 = false -> H.get 0 i = pgT.obj i
 scr : H.get 0 1718 ≠ none
theorem Hok.push {H : Hp} (h : Hok H) (o : O) : Hok (H.push o) where
 fresh := fun i hi => by
  rw [Hp.push_nxt] at hi;rw [Hp.push_reg, Hp.get_push, if_neg fun z => absurd z.2 (Nat.ne_of_gt hi)];exact h.fresh i (Nat.le_of_succ_le hi)
 above := fun r i hr => by
  rw [Hp.push_reg] at hr;rw [Hp.get_push, if_neg fun z => absurd z.1 (Nat.ne_of_gt hr)];exact h.above r i hr
 pos := h.pos
 zero := fun i q => by rw [Hp.get_push, if_neg (fun z => h.pos z.1.symm)]; exact h.zero i q
 scr := by rw [Hp.get_push, if_neg (fun z => h.pos z.1.symm)]; exact h.scr
theorem Hok.upd {H : Hp} (h : Hok H) {r i : Nat} {o0 : O} (o : O) (g : H.get r i = some o0) (hr : r ≠ 0) : Hok (H.upd r i o) where
 fresh := fun j hj => by
  rw [Hp.upd_nxt] at hj;rw [Hp.upd_reg, Hp.get_upd, if_neg ?_]
  ·exact h.fresh j hj
  ·rintro ⟨rfl, rfl⟩;rw [h.fresh _ hj] at g; cases g
 above := fun r' j hj => by
  rw [Hp.upd_reg] at hj;rw [Hp.get_upd, if_neg ?_]
  ·exact h.above r' j hj
  ·rintro ⟨rfl, rfl⟩;rw [h.above _ _ hj] at g; cases g
 pos := by rw [Hp.upd_reg]; exact h.pos
 zero := fun j q => by rw [Hp.get_upd, if_neg (fun z => hr z.1.symm)]; exact h.zero j q
 scr := by rw [Hp.get_upd, if_neg (fun z => hr z.1.symm)]; exact h.scr
theorem Hok.new {H : Hp} (h : Hok H) : H.get H.reg H.nxt = none := h.fresh _ (Nat.le_refl _)
theorem Hok.old {H : Hp} (h : Hok H) {r i : Nat} {o : O} (g : H.get r i = some o) : ¬ (r = H.reg /\ i = H.nxt) := by
 rintro ⟨rfl, rfl⟩;rw [h.new] at g; cases g
theorem get_push_old {H : Hp} (h : Hok H) {r i : Nat} {o : O} (x : O) (g : H.get r i = some o) : (H.push x).get r i = some o := by rw [Hp.get_push, if_neg (h.old g)]; exact g
theorem get_push_new (H : Hp) (x : O) : (H.push x).get H.reg H.nxt = some x := by rw [Hp.get_push, if_pos ⟨rfl, rfl⟩]
structure Ext (H H' : Hp) : Prop where
 ok0 : Hok H
 ok : Hok H'
 keep : ∀ r i o, H.get r i = some o -> H'.get r i = some o
 reg : H'.reg = H.reg
theorem Ext.refl {H : Hp} (h : Hok H) : Ext H H := ⟨h, h, fun _ _ _ g => g, rfl⟩
theorem Ext.trans {H H' H'' : Hp} (a : Ext H H') (b : Ext H' H'') : Ext H H'' := ⟨a.ok0, b.ok, fun r i o g => b.keep r i o (a.keep r i o g), b.reg.trans a.reg⟩
theorem Ext.push {H H' : Hp} (a : Ext H H') (o : O) : Ext H (H'.push o) := ⟨a.ok0, a.ok.push o, fun r i x g => get_push_old a.ok o (a.keep r i x g), a.reg⟩
theorem Ext.fresh {H H' : Hp} (a : Ext H H') : H.get H'.reg H'.nxt = none := none_of fun o g => by
 have := a.keep _ _ _ g;rw [a.ok.new] at this; cases this
theorem Ext.own {H H' : Hp} (a : Ext H H') {r i : Nat} {o : O} (n : H.get r i = none) (g : H'.get r i = some o) : r ≠ 0 := by
 rintro rfl;cases q : Nat.beq i 1718 with
 | true => rw [Nat.eq_of_beq_eq_true q] at n; exact a.ok0.scr n
 | false => rw [a.ok0.zero i q] at n; rw [a.ok.zero i q, n] at g; cases g
theorem Ext.upd {H H' : Hp} (a : Ext H H') {r i : Nat} {o0 : O} (o : O) (n : H.get r i = none) (g : H'.get r i = some o0) : Ext H (H'.upd r i o) where
 ok0 := a.ok0
 ok := a.ok.upd o g (a.own n g)
 keep := fun r' i' x g' => by
  rw [Hp.get_upd, if_neg ?_]
  ·exact a.keep _ _ _ g'
  ·rintro ⟨rfl, rfl⟩;rw [n] at g'; cases g'
 reg := (Hp.upd_reg ..).trans a.reg
theorem Ext.before {H H' : Hp} (a : Ext H H') {r i : Nat} (n : H'.get r i = none) : H.get r i = none := none_of fun o g => by rw [a.keep _ _ _ g] at n; cases n
theorem Ext.ne {H H' : Hp} {r i r' i' : Nat} {o : O} (g : H.get r i = some o) (n : H.get r' i' = none) : ¬ (r = r' /\ i = i') := by
 rintro ⟨rfl, rfl⟩;rw [n] at g; cases g

namespace Fact
noncomputable def c : Fact := ⟨.c, True, trivial⟩
noncomputable def v {x : Option V} {r : V} (h : x = some r) : Fact := ⟨.v r, x = some r, h⟩
noncomputable def ov {x r : Option V} (h : x = r) : Fact := ⟨.ov r, x = r, h⟩
noncomputable def y {p : Prop} (h : p) : Fact := ⟨.yes, p, h⟩
noncomputable def n {p : Prop} (h : ¬ p) : Fact := ⟨.no, ¬ p, h⟩
noncomputable def h {x r : Hp} (h : x = r) : Fact := ⟨.h r, x = r, h⟩
noncomputable def o {x : Option O} {r : O} (h : x = some r) : Fact := ⟨.o r, x = some r, h⟩
noncomputable def oo {x r : Option O} (h : x = r) : Fact := ⟨.oo r, x = r, h⟩
noncomputable def k {x : Option Key} {r : Key} (h : x = some r) : Fact := ⟨.k r, x = some r, h⟩
noncomputable def bo {x : Option Bool} {r : Bool} (h : x = some r) : Fact := ⟨.bo r, x = some r, h⟩
noncomputable def is {x : Option (List Int)} {r : List Int} (h : x = some r) : Fact := ⟨.is r, x = some r, h⟩
noncomputable def vh {B : Bs} {d a : Nat} {as : List V} {H : Hp} {r : V × Hp} (h : FnJ B d a as H r) : Fact := ⟨.vh r, FnJ B d a as H r, h⟩
noncomputable def wh {B : Bs} {d : Nat} {e : En} {H : Hp} {t : Expr} {b : List Stmt} {r : Fl × En × Hp} (h : WhJ B d e H t b r) : Fact := ⟨.fl r, WhJ B d e H t b r, h⟩
noncomputable def fo {B : Bs} {d : Nat} {e : En} {H : Hp} {t : Expr} {it : It} {b : List Stmt} {r : Fl × En × Hp} (h : FoJ B d e H t it b r) : Fact := ⟨.fl r, FoJ B d e H t it b r, h⟩
noncomputable def co {B : Bs} {d : Nat} {e : En} {H : Hp} {elt : Expr ⊕ (Expr × Expr)} {g : Comprehension} {it : It} {r i : Nat} {q : En × Hp} (h : CoJ B d e H elt g it r i q) : Fact := ⟨.eh q, CoJ B d e H elt g it r i q, h⟩
end Fact
noncomputable def fnOf (a : Nat) : Fn := match pgT.fns a with
 | some fn => fn
 | none => ⟨⟨#[]⟩, ⟨#[]⟩, [], [], ⟨.function, [], false, false, []⟩, []⟩
noncomputable abbrev I60 (B : Bs) : OI := orI B 60
section
variable {B : Bs} (K : BOk B)
include K
theorem fnJ_of {d a : Nat} {as : List V} {H : Hp} {r : V × Hp} (h : (pgT.fns a).isSome = true) (fs : List Fact) (e : fnBody (I60 B) d (fnOf a) as H (fs.map Fact.a) = .ok r [] (fs.map Fact.p)) : FnJ B (d + 1) a as H r := by
 unfold fnOf at e;cases hf : pgT.fns a with
 | none => rw [hf] at h; cases h
 | some fn => rw [hf] at e; exact (fnBody_ok K (orI_ok K 60) hf).ok fs e
theorem exsJ_of {d : Nat} {e : En} {H : Hp} {b : List Stmt} {r : Fl × En × Hp} (fs : List Fact) (h : exsO (I60 B) d e H b (fs.map Fact.a) = .ok r [] (fs.map Fact.p)) : ExsJ B d e H b r := (exsO_ok (orI_ok K 60)).ok fs h
omit K in
theorem FnJ.up {d d' a : Nat} {as : List V} {H : Hp} {r : V × Hp} (h : FnJ B d a as H r) (l : d <= d') : FnJ B d' a as H r :=
 ⟨h.1, fun m A s us R ha rm => h.2 m A s us R ha (rm.low l)⟩
end
structure Weak (e e' : En) : Prop where
 loc : ∀ x v, lk e'.loc x = some v -> lk e.loc x = some v
 cel : e'.cel = e.cel
 names : e'.names = e.names
 qual : e'.qual = e.qual
theorem EnvOk.weak {B : Bs} {m : Mp} {e e' : En} {env : Env} {h : Heap} (N : EnvOk B m e env h) (w : Weak e e') : EnvOk B m e' env h :=
 { N with names := N.names.trans w.names.symm, loc := let ⟨f, a, b⟩ := N.loc; ⟨f, a, fun x v z => b x v (w.loc x v z)⟩, cel := by rw [w.cel]; exact N.cel, qual := N.qual.trans w.qual.symm, code := by rw [w.qual]; exact N.code }
theorem At.weak {B : Bs} {d : Nat} {e e' : En} {H : Hp} {m : Mp} {A : Around} {env : Env} {s : Shared} (z : At B d e H m A env s) (w : Weak e e') : At B d e' H m A env s := ⟨z.R, z.N.weak w, z.rm⟩
noncomputable def pick (ns : List Str) (l : List (Str × V)) : List (Str × V) := ns.filterMap fun x => (lk l x).map fun v => (x, v)
noncomputable def pickE (ns : List Str) (e : En) : En := ⟨pick ns e.loc, e.cel, e.names, e.qual⟩
theorem lk_pick (l : List (Str × V)) (x : Str) (v : V) : ∀ ns : List Str, lk (pick ns l) x = some v -> lk l x = some v
 | [], h => nomatch h
 | y :: ns, h => by
  unfold pick at h;rw [List.filterMap_cons] at h;cases q : lk l y with
  | none => rw [q] at h; exact lk_pick l x v ns h
  | some u =>
   rw [q] at h;have h : List.lookup x ((y, u) :: pick ns l) = some v := h;rw [List.lookup_cons] at h;cases z : x == y with
   | true => rw [z] at h; rw [eq_of_beq z, q]; exact h
   | false => rw [z] at h; exact lk_pick l x v ns h
theorem weak_pick (ns : List Str) (e : En) : Weak e (pickE ns e) := ⟨fun x v h => lk_pick e.loc x v ns h, rfl, rfl, rfl⟩
section
variable {B : Bs} {d : Nat} {e e' : En} {H : Hp}
theorem FoJ.weak {t : Expr} {it : It} {b : List Stmt} {r : Fl × En × Hp} (h : FoJ B d e' H t it b r) (w : Weak e e') : FoJ B d e H t it b r := fun m A env s a j z X Rr q => h m A env s a j (z.weak w) X Rr q
theorem WhJ.weak {t : Expr} {b : List Stmt} {r : Fl × En × Hp} (h : WhJ B d e' H t b r) (w : Weak e e') : WhJ B d e H t b r := fun m A env s z Rr q => h m A env s (z.weak w) Rr q
theorem CoJ.weak {elt : Expr ⊕ (Expr × Expr)} {g : Comprehension} {it : It} {r i : Nat} {q : En × Hp} (h : CoJ B d e' H elt g it r i q) (w : Weak e e') : CoJ B d e H elt g it r i q := fun m A env s a j p scope pos z X hp hg Rr k => h m A env s a j p scope pos (z.weak w) X hp hg Rr k
end
noncomputable def turnWO (ns : List Str) (I : OI) (d : Nat) (e : En) (H : Hp) (t : Expr) (v : V) (b : List Stmt) : OM (Fl × En × Hp) := (assO I d e H t v).bind fun q => (exsO I d q.1 q.2 b).bind fun p => ret (p.1, pickE ns p.2.1, p.2.2)
def TurnJ (B : Bs) (d : Nat) (e : En) (H : Hp) (t : Expr) (v : V) (b : List Stmt) (r : Fl × En × Hp) : Prop := ∃ y p, AssJ B d e H t v y /\ ExsJ B d y.1 y.2 b p /\ r.1 = p.1 /\ r.2.2 = p.2.2 /\ Weak p.2.1 r.2.1
theorem turnWO_ok {B : Bs} (K : BOk B) {I : OI} (O : IOk B I) {ns : List Str} {d : Nat} {e : En} {H : Hp} {t : Expr} {v : V} {b : List Stmt} : Says (turnWO ns I d e H t v b) (TurnJ B d e H t v b) := (assO_ok K O).bind fun q h1 => (exsO_ok O).bind fun p h2 => Says.ret ⟨q, p, h1, h2, rfl, rfl, weak_pick ns p.2.1⟩
theorem turnJ_of {B : Bs} (K : BOk B) (ns : List Str) {d : Nat} {e : En} {H : Hp} {t : Expr} {v : V} {b : List Stmt} {r : Fl × En × Hp} (fs : List Fact) (h : turnWO ns (I60 B) d e H t v b (fs.map Fact.a) = .ok r [] (fs.map Fact.p)) : TurnJ B d e H t v b r := (turnWO_ok K (orI_ok K 60)).ok fs h
theorem foJ_step {B : Bs} {d : Nat} {e : En} {H H1 : Hp} {t : Expr} {it it' : It} {v : V} {b : List Stmt} {q r : Fl × En × Hp} (h1 : NextJ B H t it (some (v, it'), H1)) (h2 : TurnJ B d e H1 t v b q) (h3 : Turned q r (FoJ B d q.2.1 q.2.2 t it' b r)) (hb : q.1 = .next \/ q.1 = .cont) : FoJ B d e H t it b r := by
 obtain ⟨y, p, a1, a2, a3, a4, a5⟩ := h2;obtain ⟨f, e1, H2⟩ := p;obtain ⟨f', e2, H3⟩ := q;dsimp only at a3 a4 a5 hb;subst a3 a4;refine foJ_turn h1 a1 a2 ?_;rcases hb with rfl | rfl
 ·exact FoJ.weak h3 a5
 ·exact FoJ.weak h3 a5
theorem fo_inv {B : Bs} {d : Nat} {t : Expr} {b : List Stmt} {Q : It -> List V -> Prop} {S : Hp -> Prop} {J : List V -> En -> Hp -> Prop} (hS : ∀ vs e H, J vs e H -> S H) (h0 : ∀ H it, S H -> Q it [] -> NextJ B H t it (none, H))
  (h1 : ∀ H it v vs, S H -> Q it (v :: vs) -> ∃ it', NextJ B H t it (some (v, it'), H) /\ Q it' vs)
  (st : ∀ e H v vs, J (v :: vs) e H -> ∃ f e' H', TurnJ B d e H t v b (f, e', H') /\ (f = .next \/ f = .cont) /\ J vs e' H') :
  ∀ vs it e H, Q it vs -> J vs e H -> ∃ e' H', FoJ B d e H t it b (.next, e', H') /\ J [] e' H'
 | [], it, e, H, hq, hj => ⟨e, H, foJ_end (h0 H it (hS _ _ _ hj) hq), hj⟩
 | v :: vs, it, e, H, hq, hj => by
  obtain ⟨it', n1, n2⟩ := h1 H it v vs (hS _ _ _ hj) hq;obtain ⟨f, e1, H1, k1, k2, k3⟩ := st e H v vs hj;obtain ⟨e2, H2, k4, k5⟩ := fo_inv hS h0 h1 st vs it' e1 H1 n2 k3;exact ⟨e2, H2, foJ_step n1 k1 (by rcases k2 with rfl | rfl <;> exact k4) k2, k5⟩
def QL (r i : Nat) (xs : List V) (it : It) (vs : List V) : Prop := ∃ k, it = .lst r i k /\ vs = xs.drop k
def QT (r i : Nat) (xs : List V) (it : It) (vs : List V) : Prop := ∃ k, it = .tup r i k /\ vs = xs.drop k
def QK (r i : Nat) (es : List (V × V)) (it : It) (vs : List V) : Prop := ∃ k, it = .keys r i k es.length /\ vs = (es.map (·.1)).drop k
def QR (n : Nat) (it : It) (vs : List V) : Prop := ∃ k, it = .rng (k : Nat) (n : Nat) /\ vs = ((List.range n).map nV).drop k
theorem drop_cons {α : Type} {xs : List α} {k : Nat} {v : α} {vs : List α} (h : v :: vs = xs.drop k) : xs[k]? = some v /\ vs = xs.drop (k + 1) := by
 have a : (xs.drop k)[0]? = some v := by rw [<- h]; rfl
 have b : (xs.drop k).drop 1 = vs := by rw [<- h]; rfl
 rw [List.getElem?_drop] at a;rw [List.drop_drop] at b;exact ⟨a, b.symm⟩
theorem drop_none {α : Type} {xs : List α} {k : Nat} (h : [] = xs.drop k) : xs[k]? = none := List.getElem?_eq_none (List.drop_eq_nil_iff.1 h.symm)
section
variable {B : Bs} {t : Expr} {H : Hp}
theorem ql_end {r i : Nat} {xs : List V} {it : It} (g : H.get r i = some (.list xs)) (q : QL r i xs it []) : NextJ B H t it (none, H) := by
 obtain ⟨k, rfl, hk⟩ := q;exact next_lst0 g (drop_none hk)
theorem ql_item {r i : Nat} {xs : List V} {it : It} {v : V} {vs : List V} (g : H.get r i = some (.list xs)) (q : QL r i xs it (v :: vs)) : ∃ it', NextJ B H t it (some (v, it'), H) /\ QL r i xs it' vs := by
 obtain ⟨k, rfl, hk⟩ := q;obtain ⟨a, b⟩ := drop_cons hk;exact ⟨_, next_lst1 g a, k + 1, rfl, b⟩
theorem qt_end {r i : Nat} {xs : List V} {it : It} (g : H.get r i = some (.tup xs)) (q : QT r i xs it []) : NextJ B H t it (none, H) := by
 obtain ⟨k, rfl, hk⟩ := q;exact next_tup0 g (drop_none hk)
theorem qt_item {r i : Nat} {xs : List V} {it : It} {v : V} {vs : List V} (g : H.get r i = some (.tup xs)) (q : QT r i xs it (v :: vs)) : ∃ it', NextJ B H t it (some (v, it'), H) /\ QT r i xs it' vs := by
 obtain ⟨k, rfl, hk⟩ := q;obtain ⟨a, b⟩ := drop_cons hk;exact ⟨_, next_tup1 g a, k + 1, rfl, b⟩
theorem qk_end (K : BOk B) {r i : Nat} {es : List (V × V)} {it : It} (g : H.get r i = some (.dict es)) (q : QK r i es it []) : NextJ B H t it (none, H) := by
 obtain ⟨k, rfl, hk⟩ := q;exact next_keys0 K g (by rw [<- List.getElem?_map]; exact drop_none hk)
theorem qk_item (K : BOk B) {r i : Nat} {es : List (V × V)} {it : It} {v : V} {vs : List V} (g : H.get r i = some (.dict es)) (q : QK r i es it (v :: vs)) : ∃ it', NextJ B H t it (some (v, it'), H) /\ QK r i es it' vs := by
 obtain ⟨k, rfl, hk⟩ := q;obtain ⟨a, b⟩ := drop_cons hk;rw [List.getElem?_map] at a;exact ⟨_, next_keys1 K g a, k + 1, rfl, b⟩
theorem qr_end {n : Nat} {it : It} (q : QR n it []) : NextJ B H t it (none, H) := by
 obtain ⟨k, rfl, hk⟩ := q;have : n <= k := by have := List.drop_eq_nil_iff.1 hk.symm; rwa [length_map, List.length_range] at this
 exact next_rng0 (Int.not_lt.2 (Int.ofNat_le.2 this))
theorem qr_item {n : Nat} {it : It} {v : V} {vs : List V} (q : QR n it (v :: vs)) : ∃ it', NextJ B H t it (some (v, it'), H) /\ QR n it' vs := by
 obtain ⟨k, rfl, hk⟩ := q;obtain ⟨a, b⟩ := drop_cons hk;rw [List.getElem?_map] at a;obtain ⟨j, h1, rfl⟩ := mpd a;have hk2 : k < n := by
  rcases Nat.lt_or_ge k n with z | z
  ·exact z
  ·rw [List.getElem?_eq_none (by rw [List.length_range]; exact z)] at h1; cases h1
 rw [List.getElem?_range hk2] at h1;cases h1;exact ⟨_, next_rng1 (Int.ofNat_lt.2 hk2), k + 1, rfl, b⟩
end
section
variable {B : Bs} {d : Nat} {t : Expr} {b : List Stmt} {J : List V -> En -> Hp -> Prop}
theorem fo_list {r i : Nat} {xs : List V} (hS : ∀ vs e H, J vs e H -> H.get r i = some (.list xs)) (st : ∀ e H v vs, J (v :: vs) e H -> ∃ f e' H', TurnJ B d e H t v b (f, e', H') /\ (f = .next \/ f = .cont) /\ J vs e' H') {e : En} {H : Hp} (h : J xs e H) :
  ∃ e' H', FoJ B d e H t (.lst r i 0) b (.next, e', H') /\ J [] e' H' := fo_inv hS (fun _ _ g q => ql_end g q) (fun _ _ _ _ g q => ql_item g q) st xs _ e H ⟨0, rfl, rfl⟩ h
theorem fo_tup {r i : Nat} {xs : List V} (hS : ∀ vs e H, J vs e H -> H.get r i = some (.tup xs)) (st : ∀ e H v vs, J (v :: vs) e H -> ∃ f e' H', TurnJ B d e H t v b (f, e', H') /\ (f = .next \/ f = .cont) /\ J vs e' H') {e : En} {H : Hp} (h : J xs e H) :
  ∃ e' H', FoJ B d e H t (.tup r i 0) b (.next, e', H') /\ J [] e' H' := fo_inv hS (fun _ _ g q => qt_end g q) (fun _ _ _ _ g q => qt_item g q) st xs _ e H ⟨0, rfl, rfl⟩ h
theorem fo_keys (K : BOk B) {r i : Nat} {es : List (V × V)} (hS : ∀ vs e H, J vs e H -> H.get r i = some (.dict es)) (st : ∀ e H v vs, J (v :: vs) e H -> ∃ f e' H', TurnJ B d e H t v b (f, e', H') /\ (f = .next \/ f = .cont) /\ J vs e' H') {e : En} {H : Hp} (h : J (es.map (·.1)) e H) :
  ∃ e' H', FoJ B d e H t (.keys r i 0 es.length) b (.next, e', H') /\ J [] e' H' := fo_inv hS (fun _ _ g q => qk_end K g q) (fun _ _ _ _ g q => qk_item K g q) st _ _ e H ⟨0, rfl, rfl⟩ h
theorem fo_range {n : Nat} (st : ∀ e H v vs, J (v :: vs) e H -> ∃ f e' H', TurnJ B d e H t v b (f, e', H') /\ (f = .next \/ f = .cont) /\ J vs e' H') {e : En} {H : Hp} (h : J ((List.range n).map nV) e H) :
  ∃ e' H', FoJ B d e H t (.rng 0 (n : Nat)) b (.next, e', H') /\ J [] e' H' := fo_inv (S := fun _ => True) (fun _ _ _ _ => trivial) (fun _ _ _ q => qr_end q) (fun _ _ _ _ _ q => qr_item q) st _ _ e H ⟨0, rfl, rfl⟩ h
end
noncomputable def coWO (I : OI) (d : Nat) (e : En) (H : Hp) (elt : Expr ⊕ (Expr × Expr)) (g : Comprehension) (v : V) (r i : Nat) : OM (En × Hp) := (assO I d e H g.target v).bind fun y => (testsO I d y.1 y.2 g.ifs).bind fun z => match z.1 with
 | true => (emitO I d y.1 z.2 elt r i).bind fun H => ret (pickE [] y.1, H)
 | false => ret (pickE [] y.1, z.2)
def CTurnJ (B : Bs) (d : Nat) (e : En) (H : Hp) (elt : Expr ⊕ (Expr × Expr)) (g : Comprehension) (v : V) (r i : Nat) (q : En × Hp) : Prop := ∃ y ok, AssJ B d e H g.target v y /\ (∀ m A env s, At B d y.1 y.2 m A env s -> Does B A [] (testsOf g.ifs env) m s (BoolP B ok)) /\ (if ok.1 = true then EmitJ B d y.1 ok.2 elt r i q.2 else q.2 = ok.2) /\ Weak y.1 q.1
theorem coWO_ok {B : Bs} (K : BOk B) {I : OI} (O : IOk B I) {d : Nat} {e : En} {H : Hp} {elt : Expr ⊕ (Expr × Expr)} {g : Comprehension} {v : V} {r i : Nat} : Says (coWO I d e H elt g v r i) (CTurnJ B d e H elt g v r i) := (assO_ok K O).bind fun y h1 => (testsO_ok O).bind fun z h2 => by
 cases hz : z.1 with
 | true => exact (emitO_ok K O).bind fun H2 h3 => Says.ret ⟨y, z, h1, h2, by rw [if_pos hz]; exact h3, weak_pick [] y.1⟩
 | false => exact Says.ret ⟨y, z, h1, h2, by rw [hz, if_neg nofun], weak_pick [] y.1⟩
theorem cTurnJ_of {B : Bs} (K : BOk B) {d : Nat} {e : En} {H : Hp} {elt : Expr ⊕ (Expr × Expr)} {g : Comprehension} {v : V} {r i : Nat} {q : En × Hp} (fs : List Fact) (h : coWO (I60 B) d e H elt g v r i (fs.map Fact.a) = .ok q [] (fs.map Fact.p)) : CTurnJ B d e H elt g v r i q := (coWO_ok K (orI_ok K 60)).ok fs h
theorem coJ_step {B : Bs} {d : Nat} {e : En} {H H1 : Hp} {elt : Expr ⊕ (Expr × Expr)} {g : Comprehension} {it it' : It} {v : V} {r i : Nat} {q p : En × Hp} (h1 : NextJ B H g.target it (some (v, it'), H1)) (h2 : CTurnJ B d e H1 elt g v r i q) (h3 : CoJ B d q.1 q.2 elt g it' r i p) : CoJ B d e H elt g it r i p := by
 obtain ⟨y, ok, a1, a2, a3, a4⟩ := h2;refine coJ_turn h1 a1 a2 ?_;by_cases hc : ok.1 = true
 ·rw [if_pos hc] at a3 ⊢; exact ⟨_, a3, h3.weak a4⟩
 ·rw [if_neg hc] at a3 ⊢; rw [<- a3]; exact h3.weak a4
theorem co_inv {B : Bs} {d : Nat} {e : En} {elt : Expr ⊕ (Expr × Expr)} {g : Comprehension} {r i : Nat} {Q : It -> List V -> Prop} {S : Hp -> Prop} {J : List V -> Hp -> Prop} (hS : ∀ vs H, J vs H -> S H) (h0 : ∀ H it, S H -> Q it [] -> NextJ B H g.target it (none, H))
  (h1 : ∀ H it v vs, S H -> Q it (v :: vs) -> ∃ it', NextJ B H g.target it (some (v, it'), H) /\ Q it' vs)
  (st : ∀ H v vs, J (v :: vs) H -> ∃ H', CTurnJ B d e H elt g v r i (e, H') /\ J vs H') :
  ∀ vs it H, Q it vs -> J vs H -> ∃ H', CoJ B d e H elt g it r i (e, H') /\ J [] H'
 | [], it, H, hq, hj => ⟨H, coJ_end (h0 H it (hS _ _ hj) hq), hj⟩
 | v :: vs, it, H, hq, hj => by
  obtain ⟨it', n1, n2⟩ := h1 H it v vs (hS _ _ hj) hq;obtain ⟨H1, k1, k2⟩ := st H v vs hj;obtain ⟨H2, k3, k4⟩ := co_inv hS h0 h1 st vs it' H1 n2 k2;exact ⟨H2, coJ_step n1 k1 k3, k4⟩
section
variable {B : Bs} {d : Nat} {e : En} {elt : Expr ⊕ (Expr × Expr)} {g : Comprehension} {ra ia : Nat} {J : List V -> Hp -> Prop}
theorem co_list {r i : Nat} {xs : List V} (hS : ∀ vs H, J vs H -> H.get r i = some (.list xs)) (st : ∀ H v vs, J (v :: vs) H -> ∃ H', CTurnJ B d e H elt g v ra ia (e, H') /\ J vs H') {H : Hp} (h : J xs H) :
  ∃ H', CoJ B d e H elt g (.lst r i 0) ra ia (e, H') /\ J [] H' := co_inv hS (fun _ _ g q => ql_end g q) (fun _ _ _ _ g q => ql_item g q) st xs _ H ⟨0, rfl, rfl⟩ h
end
noncomputable def whWO (ns : List Str) (I : OI) (d : Nat) (e : En) (H : Hp) (t : Expr) (b : List Stmt) : OM (Bool × Fl × En × Hp) := (I.ts d e H t).bind fun c => match c.1 with
 | true => (exsO I d e c.2 b).bind fun p => ret (true, p.1, pickE ns p.2.1, p.2.2)
 | false => ret (false, .next, e, c.2)
def WTurnJ (B : Bs) (d : Nat) (e : En) (H : Hp) (t : Expr) (b : List Stmt) (r : Bool × Fl × En × Hp) : Prop := ∃ c, TsJ B d e H t c /\ c.1 = r.1 /\ match r.1 with
 | true => ∃ p, ExsJ B d e c.2 b p /\ r.2.1 = p.1 /\ r.2.2.2 = p.2.2 /\ Weak p.2.1 r.2.2.1
 | false => r.2 = (.next, e, c.2)
theorem whWO_ok {B : Bs} {I : OI} (O : IOk B I) {ns : List Str} {d : Nat} {e : En} {H : Hp} {t : Expr} {b : List Stmt} : Says (whWO ns I d e H t b) (WTurnJ B d e H t b) := (O.ts d e H t).bind fun c h1 => by
 cases hc : c.1 with
 | true => exact (exsO_ok O).bind fun p h2 => Says.ret ⟨c, h1, hc, p, h2, rfl, rfl, weak_pick ns p.2.1⟩
 | false => exact Says.ret ⟨c, h1, hc, rfl⟩
theorem wTurnJ_of {B : Bs} (K : BOk B) (ns : List Str) {d : Nat} {e : En} {H : Hp} {t : Expr} {b : List Stmt} {r : Bool × Fl × En × Hp} (fs : List Fact) (h : whWO ns (I60 B) d e H t b (fs.map Fact.a) = .ok r [] (fs.map Fact.p)) : WTurnJ B d e H t b r := (whWO_ok (orI_ok K 60)).ok fs h
theorem wh_end {B : Bs} {d : Nat} {e e' : En} {H H' : Hp} {t : Expr} {b : List Stmt} {f : Fl} (h : WTurnJ B d e H t b (false, f, e', H')) : WhJ B d e H t b (f, e', H') := by
 obtain ⟨c, h1, h2, h3⟩ := h;rw [show (f, e', H') = _ from h3]
 exact whJ_end h1 h2
theorem wh_step {B : Bs} {d : Nat} {e e' : En} {H H' : Hp} {t : Expr} {b : List Stmt} {f : Fl} {r : Fl × En × Hp} (h : WTurnJ B d e H t b (true, f, e', H')) (hf : f = .next \/ f = .cont) (h3 : WhJ B d e' H' t b r) : WhJ B d e H t b r := by
 obtain ⟨c, h1, h2, p, k1, k2, k3, k4⟩ := h;obtain ⟨f2, e2, H2⟩ := p;dsimp only at k2 k3 k4;subst k2 k3;refine whJ_turn h1 h2 k1 ?_;rcases hf with rfl | rfl <;> exact WhJ.weak h3 k4
theorem wh_inv {B : Bs} {d : Nat} {t : Expr} {b : List Stmt} {J : Nat -> En -> Hp -> Prop} {Q : En -> Hp -> Prop} (st : ∀ n e H, J n e H -> (∃ e' H', WTurnJ B d e H t b (false, .next, e', H') /\ Q e' H') \/ ∃ f e' H', WTurnJ B d e H t b (true, f, e', H') /\ (f = .next \/ f = .cont) /\ ∃ n', n' < n /\ J n' e' H') :
  ∀ n e H, J n e H -> ∃ e' H', WhJ B d e H t b (.next, e', H') /\ Q e' H' := by
 intro n
 induction n using Nat.strongRecOn with
 | _ n ih =>
  intro e H hj;rcases st n e H hj with ⟨e', H', h1, h2⟩ | ⟨f, e', H', h1, h2, n', h3, h4⟩
  ·exact ⟨e', H', wh_end h1, h2⟩
  ·obtain ⟨e2, H2, k1, k2⟩ := ih n' h3 e' H' h4;exact ⟨e2, H2, wh_step h1 h2 k1, k2⟩
noncomputable def bodyOf (a : Nat) : List Stmt := (fnOf a).body
noncomputable def stAt (b : List Stmt) (k : Nat) : Stmt := (b[k]?).getD (.Pass ⟨0, 0, 0, 0⟩)
noncomputable def forT : Stmt -> Expr
 | .For t _ _ _ _ => t
 | _ => .Constant .none 0 ⟨0, 0, 0, 0⟩
noncomputable def forB : Stmt -> List Stmt
 | .For _ _ b _ _ => b
 | _ => []
noncomputable def whT : Stmt -> Expr
 | .While t _ _ _ => t
 | _ => .Constant .none 0 ⟨0, 0, 0, 0⟩
noncomputable def whB : Stmt -> List Stmt
 | .While _ b _ _ => b
 | _ => []
noncomputable def asV : Stmt -> Expr
 | .Assign _ v _ => v
 | .Return (some v) _ => v
 | .Expr v _ => v
 | _ => .Constant .none 0 ⟨0, 0, 0, 0⟩
noncomputable def compElt : Expr -> Expr ⊕ (Expr × Expr)
 | .ListComp x _ _ _ => .inl x
 | .DictComp k x _ _ _ => .inr (k, x)
 | x => .inl x
noncomputable def compG : Expr -> Comprehension
 | .ListComp _ (g :: _) _ _ => g
 | .DictComp _ _ (g :: _) _ _ => g
 | x => ⟨x, x, [], 0⟩
noncomputable def pV : Option Nat -> V
 | none => .none
 | some n => nV n
structure Row where
 kind : Str
 name : Str
 uri : Str
 loc : Str
 value : Str
 parent : Option Nat
 ch : List Nat
 ats : List Nat
 nss : List Nat
inductive Role where
 | tree | rows | row (k : Nat) | ch (k : Nat) | ats (k : Nat) | nss (k : Nat)
noncomputable def rowO (ad : Role -> Nat × Nat) (k : Nat) (r : Row) : O := .inst 1101 [(ofString "kind", .str r.kind), (ofString "name", .str r.name), (ofString "uri", .str r.uri), (ofString "local", .str r.loc), (ofString "value", .str r.value), (ofString "parent", pV r.parent),
 (ofString "children", rf (ad (.ch k))), (ofString "attributes", rf (ad (.ats k))), (ofString "namespaces", rf (ad (.nss k)))]
noncomputable def cont (ad : Role -> Nat × Nat) (T : List Row) : Role -> Option O
 | .tree => some (.inst 1290 [(ofString "rows", rf (ad .rows))])
 | .rows => some (.list ((List.range T.length).map fun k => rf (ad (.row k))))
 | .row k => (T[k]?).map fun r => rowO ad k r
 | .ch k => (T[k]?).map fun r => .list (r.ch.map nV)
 | .ats k => (T[k]?).map fun r => .list (r.ats.map nV)
 | .nss k => (T[k]?).map fun r => .list (r.nss.map nV)
structure TreeL (H : Hp) (ad : Role -> Nat × Nat) (T : List Row) : Prop where
 get : ∀ q o, cont ad T q = some o -> H.get (ad q).1 (ad q).2 = some o
 inj : ∀ p q o o', cont ad T p = some o -> cont ad T q = some o' -> ad p = ad q -> p = q
 few : T.length <= 1000
 pos : ∀ q o, cont ad T q = some o -> (ad q).1 ≠ 0
theorem TreeL.ext {H H' : Hp} {ad : Role -> Nat × Nat} {T : List Row} (t : TreeL H ad T) (x : Ext H H') : TreeL H' ad T := ⟨fun q o h => x.keep _ _ _ (t.get q o h), t.inj, t.few, t.pos⟩
theorem lim_of {n : Nat} (h : n <= 1000) : n <= limN := le_trans h (by decide)
theorem atI_nat {α : Type} {xs : List α} {n : Nat} (hl : n < 1000000) : atI xs (n : Int) = xs[n]? := by
 unfold atI;rw [if_neg (show ¬ 1000000 <= (n : Int).natAbs from Nat.not_le.2 hl), if_neg (Int.not_lt.2 (Int.natCast_nonneg n))]
 rfl
theorem rows_at {α : Type} {n k : Nat} (f : Nat -> α) (hn : n < k) (hk : k <= 1000) : atI ((List.range k).map f) (n : Int) = some (f n) := by
 rw [atI_nat (lt_of_lt_of_le hn (le_trans hk (by decide))), List.getElem?_map, List.getElem?_range hn]; rfl
theorem len_rows {α : Type} {k : Nat} (f : Nat -> α) : ((List.range k).map f).length = k := by rw [length_map, List.length_range]
theorem TreeL.row {H : Hp} {ad : Role -> Nat × Nat} {T : List Row} (t : TreeL H ad T) {n : Nat} {r : Row} (hr : T[n]? = some r) : H.get (ad (.row n)).1 (ad (.row n)).2 = some (rowO ad n r) := t.get (.row n) (rowO ad n r) (by show Option.map _ _ = _; rw [hr]; rfl)
theorem TreeL.chs {H : Hp} {ad : Role -> Nat × Nat} {T : List Row} (t : TreeL H ad T) {n : Nat} {r : Row} (hr : T[n]? = some r) : H.get (ad (.ch n)).1 (ad (.ch n)).2 = some (.list (r.ch.map nV)) := t.get (.ch n) _ (by show Option.map _ _ = _; rw [hr]; rfl)
theorem TreeL.atts {H : Hp} {ad : Role -> Nat × Nat} {T : List Row} (t : TreeL H ad T) {n : Nat} {r : Row} (hr : T[n]? = some r) : H.get (ad (.ats n)).1 (ad (.ats n)).2 = some (.list (r.ats.map nV)) := t.get (.ats n) _ (by show Option.map _ _ = _; rw [hr]; rfl)
theorem TreeL.nsss {H : Hp} {ad : Role -> Nat × Nat} {T : List Row} (t : TreeL H ad T) {n : Nat} {r : Row} (hr : T[n]? = some r) : H.get (ad (.nss n)).1 (ad (.nss n)).2 = some (.list (r.nss.map nV)) := t.get (.nss n) _ (by show Option.map _ _ = _; rw [hr]; rfl)
theorem row_lt {T : List Row} {n : Nat} {r : Row} (hr : T[n]? = some r) : n < T.length := (List.getElem?_eq_some_iff.1 hr).1
theorem len_lim {α β : Type} {f : α -> β} {xs : List α} (h : xs.length <= 1000) : (xs.map f).length <= limN := by rw [length_map]; exact lim_of h
theorem noBi_pV (p : Option Nat) : noBi (some (pV p)) = some (pV p) := by cases p <;> rfl
section
variable {B : Bs} (K : BOk B) {d : Nat} {H : Hp} {ad : Role -> Nat × Nat} {T : List Row}
include K
theorem t_row (t : TreeL H ad T) {n : Nat} (hn : n < T.length) : FnJ B (d + 1) 1133 [rf (ad .tree), nV n] H (rf (ad (.row n)), H) := by
 have g1 := t.get .tree _ rfl;have g2 := t.get .rows _ rfl;have h0 : (0 : Int) <= n := Int.natCast_nonneg n;have h1 : (n : Int) < (((List.range T.length).map fun k => rf (ad (.row k))).length : Nat) := by rw [len_rows]; exact Int.ofNat_lt.2 hn
 have h3 : ((List.range T.length).map fun k => rf (ad (.row k))).length <= limN := by rw [len_rows]; exact lim_of t.few
 have h4 := rows_at (fun k => rf (ad (.row k))) hn t.few;exact fnJ_of K rfl [.y h0, .o g1, .c, .o g2, .y h3, .y h1, .o g1, .c, .o g2, .v h4] (by kernel_rfl)
theorem t_parent (t : TreeL H ad T) {n : Nat} {r : Row} (hr : T[n]? = some r) : FnJ B (d + 2) 1245 [rf (ad .tree), nV n] H (pV r.parent, H) := by
 have g1 := t.get .tree _ rfl;have g3 := t.row hr;have s := t_row K t (row_lt hr) (d := d);have hp := noBi_pV r.parent;exact fnJ_of K rfl [.o g1, .vh s, .o g3, .v hp] (by kernel_rfl)
theorem t_children (t : TreeL H ad T) {n : Nat} {r : Row} (hr : T[n]? = some r) (hc : r.ch.length <= 1000) : FnJ B (d + 2) 1252 [rf (ad .tree), nV n] H (.ref H.reg H.nxt, H.push (.list (r.ch.map nV))) := by
 have g1 := t.get .tree _ rfl;have g3 := t.row hr;have g4 := t.chs hr;have s := t_row K t (row_lt hr) (d := d);have h3 := len_lim (f := nV) hc;exact fnJ_of K rfl [.o g1, .vh s, .o g3, .c, .o g4, .y h3, .c] (by kernel_rfl)
theorem t_attributes (t : TreeL H ad T) {n : Nat} {r : Row} (hr : T[n]? = some r) (hc : r.ats.length <= 1000) : FnJ B (d + 2) 1259 [rf (ad .tree), nV n] H (.ref H.reg H.nxt, H.push (.list (r.ats.map nV))) := by
 have g1 := t.get .tree _ rfl;have g3 := t.row hr;have g4 := t.atts hr;have s := t_row K t (row_lt hr) (d := d);have h3 := len_lim (f := nV) hc;exact fnJ_of K rfl [.o g1, .vh s, .o g3, .c, .o g4, .y h3, .c] (by kernel_rfl)
theorem t_namespaces (t : TreeL H ad T) {n : Nat} {r : Row} (hr : T[n]? = some r) (hc : r.nss.length <= 1000) : FnJ B (d + 2) 1266 [rf (ad .tree), nV n] H (.ref H.reg H.nxt, H.push (.list (r.nss.map nV))) := by
 have g1 := t.get .tree _ rfl;have g3 := t.row hr;have g4 := t.nsss hr;have s := t_row K t (row_lt hr) (d := d);have h3 := len_lim (f := nV) hc;exact fnJ_of K rfl [.o g1, .vh s, .o g3, .c, .o g4, .y h3, .c] (by kernel_rfl)
end
theorem Hok.next {H : Hp} (h : Hok H) (k : Nat) : H.get H.reg (H.nxt + k) = none := h.fresh _ (Nat.le_add_right _ _)
structure Made (H H' : Hp) (os : List O) : Prop where
 ext : Ext H H'
 nxt : H'.nxt = H.nxt + os.length
 got : ∀ k o, os[k]? = some o -> H'.get H.reg (H.nxt + k) = some o
theorem Made.start {H : Hp} (hk : Hok H) : Made H H [] := ⟨Ext.refl hk, rfl, fun _ _ h => nomatch h⟩
theorem Made.push {H H' : Hp} {os : List O} (m : Made H H' os) (x : O) : Made H (H'.push x) (os ++ [x]) := ⟨m.ext.push x, by rw [Hp.push_nxt, m.nxt, length_append]; rfl, fun k o h => by
 rw [Hp.get_push, m.ext.reg, m.nxt];rcases Nat.lt_trichotomy k os.length with z | z | z
 ·rw [if_neg fun e => Nat.ne_of_lt z (Nat.add_left_cancel e.2)];rw [List.getElem?_append_left z] at h;exact m.got k o h
 ·subst z;rw [List.getElem?_concat_length] at h;rw [if_pos ⟨rfl, rfl⟩]; exact h
 ·rw [List.getElem?_eq_none (by rw [length_append]; exact z)] at h; cases h⟩
theorem upd_mk (H : Hp) (r i : Nat) (o : O) : ∃ b t, H.upd r i o = ⟨b, H.reg, t, H.nxt⟩ := by
 unfold Hp.upd;cases Nat.beq r H.reg <;> exact ⟨_, _, rfl⟩
theorem Made.set {H H' : Hp} {os : List O} (m : Made H H' os) (k : Nat) (o : O) (hk : k < os.length) : ∃ b t, H'.upd H.reg (H.nxt + k) o = ⟨b, H.reg, t, H.nxt + os.length⟩ /\ Made H ⟨b, H.reg, t, H.nxt + os.length⟩ (os.set k o) := by
 obtain ⟨b, t, e⟩ := upd_mk H' H.reg (H.nxt + k) o;rw [m.ext.reg, m.nxt] at e;refine ⟨b, t, e, ?_, by rw [List.length_set], fun j x h => ?_⟩
 ·rw [<- e];exact m.ext.upd o (m.ext.ok0.fresh _ (Nat.le_add_right ..)) (m.got k _ (List.getElem?_eq_getElem hk))
 ·rw [<- e, Hp.get_upd];rw [List.getElem?_set] at h;by_cases z : k = j
  ·subst z;rw [if_pos rfl, if_pos hk] at h;rw [if_pos ⟨rfl, rfl⟩]; exact h
  ·rw [if_neg z] at h;rw [if_neg fun e => z (Nat.add_left_cancel e.2).symm];exact m.got j x h
def NewRow (H H' : Hp) (kind name uri loc value : Str) (parent : Option Nat) : Prop := Made H H' [.inst 1101 [(ofString "kind", .str kind), (ofString "name", .str name), (ofString "uri", .str uri), (ofString "local", .str loc), (ofString "value", .str value), (ofString "parent", pV parent),
  (ofString "children", .ref H.reg (H.nxt + 1)), (ofString "attributes", .ref H.reg (H.nxt + 2)), (ofString "namespaces", .ref H.reg (H.nxt + 3))], .list [], .list [], .list []]
noncomputable def Role.ok (n : Nat) : Role -> Prop
 | .tree => True
 | .rows => True
 | .row k => k < n
 | .ch k => k < n
 | .ats k => k < n
 | .nss k => k < n
theorem cont_ok {ad : Role -> Nat × Nat} {T : List Row} {q : Role} {o : O} (h : cont ad T q = some o) : q.ok T.length := by
 cases q
 ·trivial
 ·trivial
 all_goals
  obtain ⟨r, h, _⟩ := mpd (show Option.map _ _ = _ from h)
  exact (List.getElem?_eq_some_iff.1 h).1
theorem ok_cont (ad : Role -> Nat × Nat) {T : List Row} {q : Role} (h : q.ok T.length) : ∃ o, cont ad T q = some o := by
 cases q
 ·exact ⟨_, rfl⟩
 ·exact ⟨_, rfl⟩
 case row k =>
  exact Option.isSome_iff_exists.1 (by show (Option.map _ T[k]?).isSome = true; rw [List.getElem?_eq_getElem (show k < T.length from h)]; rfl)
 case ch k =>
  exact Option.isSome_iff_exists.1 (by show (Option.map _ T[k]?).isSome = true; rw [List.getElem?_eq_getElem (show k < T.length from h)]; rfl)
 case ats k =>
  exact Option.isSome_iff_exists.1 (by show (Option.map _ T[k]?).isSome = true; rw [List.getElem?_eq_getElem (show k < T.length from h)]; rfl)
 case nss k =>
  exact Option.isSome_iff_exists.1 (by show (Option.map _ T[k]?).isSome = true; rw [List.getElem?_eq_getElem (show k < T.length from h)]; rfl)
def Off (ad : Role -> Nat × Nat) (n r i : Nat) : Prop := ∀ q, q.ok n -> ad q ≠ (r, i)
structure TMod (H : Hp) (ad : Role -> Nat × Nat) (T : List Row) (H' : Hp) (ad' : Role -> Nat × Nat) (T' : List Row) : Prop where
 ok0 : Hok H
 ok : Hok H'
 tree : TreeL H' ad' T'
 len : T.length <= T'.length
 old : ∀ q, q.ok T.length -> ad' q = ad q
 new : ∀ q, q.ok T'.length -> ¬ q.ok T.length -> H.get (ad' q).1 (ad' q).2 = none
 keep : ∀ r i o, Off ad T.length r i -> H.get r i = some o -> H'.get r i = some o
 reg : H'.reg = H.reg
section
variable {H H' H'' : Hp} {ad ad' ad'' : Role -> Nat × Nat} {T T' T'' : List Row}
theorem Role.ok.mono {n m : Nat} {q : Role} (h : q.ok n) (l : n <= m) : q.ok m := by
 cases q <;> first | trivial | exact lt_of_lt_of_le h l
theorem TMod.off (m : TMod H ad T H' ad' T') {r i : Nat} {o : O} (h : Off ad T.length r i) (g : H.get r i = some o) : Off ad' T'.length r i := fun q hq e => by
 by_cases z : q.ok T.length
 ·rw [m.old q z] at e; exact h q z e
 ·have := m.new q hq z;rw [e, g] at this; cases this
theorem TMod.trans (a : TMod H ad T H' ad' T') (b : TMod H' ad' T' H'' ad'' T'') : TMod H ad T H'' ad'' T'' where
 ok0 := a.ok0
 ok := b.ok
 tree := b.tree
 len := le_trans a.len b.len
 old := fun q h => (b.old q (h.mono a.len)).trans (a.old q h)
 new := fun q h n => by
  by_cases z : q.ok T'.length
  ·rw [b.old q z]; exact a.new q z n
  ·refine none_of fun o g => ?_;have hz : Off ad T.length (ad'' q).1 (ad'' q).2 := fun p hp e => by
    have h1 := b.new q h z;obtain ⟨o2, hc⟩ := ok_cont ad' (hp.mono a.len);have h2 := a.tree.get p o2 hc;rw [a.old p hp, e] at h2;rw [h1] at h2; cases h2
   have := a.keep _ _ _ hz g;rw [b.new q h z] at this; cases this
 keep := fun r i o h g => b.keep r i o (a.off h g) (a.keep r i o h g)
 reg := b.reg.trans a.reg
theorem setRole (hk : Hok H) (t : TreeL H ad T) {q : Role} {o o0 : O} (hq : cont ad T q = some o0) (hl : T'.length = T.length) (hT : ∀ p, p ≠ q -> cont ad T' p = cont ad T p) (hq' : cont ad T' q = some o) : TMod H ad T (H.upd (ad q).1 (ad q).2 o) ad T' where
 ok0 := hk
 ok := hk.upd o (t.get q o0 hq) (t.pos q o0 hq)
 tree := by
  refine ⟨fun p o' hp => ?_, fun p p' o1 o2 h1 h2 e => ?_, by rw [hl]; exact t.few, fun p o1 h1 => ?_⟩
  ·rw [Hp.get_upd];by_cases z : p = q
   ·subst z;rw [if_pos ⟨rfl, rfl⟩, <- hq', hp]
   ·rw [hT p z] at hp;rw [if_neg ?_]
    ·exact t.get p o' hp
    ·rintro ⟨e1, e2⟩;exact z (t.inj p q o' o0 hp hq (Prod.ext e1 e2))
  ·obtain ⟨o3, h3⟩ := ok_cont ad (q := p) (T := T) (by rw [<- hl]; exact cont_ok h1)
   obtain ⟨o4, h4⟩ := ok_cont ad (q := p') (T := T) (by rw [<- hl]; exact cont_ok h2)
   exact t.inj p p' o3 o4 h3 h4 e
  ·obtain ⟨o3, h3⟩ := ok_cont ad (q := p) (T := T) (by rw [<- hl]; exact cont_ok h1)
   exact t.pos p o3 h3
 len := le_of_eq hl.symm
 old := fun _ _ => rfl
 new := fun p h n => by rw [hl] at h; exact absurd h n
 keep := fun r i o' h g => by
  rw [Hp.get_upd, if_neg ?_]
  ·exact g
  ·rintro ⟨rfl, rfl⟩;exact h q (cont_ok hq) rfl
 reg := Hp.upd_reg ..
end
noncomputable def adAdd (ad : Role -> Nat × Nat) (n r i : Nat) : Role -> Nat × Nat
 | .row k => if k = n then (r, i) else ad (.row k)
 | .ch k => if k = n then (r, i + 1) else ad (.ch k)
 | .ats k => if k = n then (r, i + 2) else ad (.ats k)
 | .nss k => if k = n then (r, i + 3) else ad (.nss k)
 | q => ad q
noncomputable def Role.off : Role -> Nat
 | .ch _ => 1
 | .ats _ => 2
 | .nss _ => 3
 | _ => 0
theorem adAdd_old (ad : Role -> Nat × Nat) {n r i : Nat} {q : Role} (h : q.ok n) : adAdd ad n r i q = ad q := by
 cases q
 ·rfl
 ·rfl
 all_goals exact if_neg (Nat.ne_of_lt h)
theorem adAdd_new (ad : Role -> Nat × Nat) {n r i : Nat} {q : Role} (h : q.ok (n + 1)) (h' : ¬ q.ok n) : adAdd ad n r i q = (r, i + q.off) := by
 cases q
 case tree => exact absurd trivial h'
 case rows => exact absurd trivial h'
 all_goals
  have e : _ = n := Nat.le_antisymm (Nat.le_of_lt_succ h) (Nat.le_of_not_lt h');exact if_pos e
theorem new_eq {n : Nat} {p q : Role} (hp : p.ok (n + 1)) (hp' : ¬ p.ok n) (hq : q.ok (n + 1)) (hq' : ¬ q.ok n) (e : p.off = q.off) : p = q := by
 cases p <;> cases q <;> first
  | exact absurd trivial hp'
  | exact absurd trivial hq'
  | (exfalso; revert e; simp [Role.off]; done)
  | rw [show _ = n from Nat.le_antisymm (Nat.le_of_lt_succ hp) (Nat.le_of_not_lt hp'), show _ = n from Nat.le_antisymm (Nat.le_of_lt_succ hq) (Nat.le_of_not_lt hq')]
section
variable {H H1 : Hp} {ad : Role -> Nat × Nat} {T : List Row}
theorem addRow (hk : Hok H) (t : TreeL H ad T) (few : T.length < 1000) {kind name uri loc value : Str} {parent : Option Nat} (nr : NewRow H H1 kind name uri loc value parent) :
  TMod H ad T (H1.upd (ad .rows).1 (ad .rows).2 (.list ((List.range T.length).map (fun k => rf (ad (.row k))) ++ [.ref H.reg H.nxt]))) (adAdd ad T.length H.reg H.nxt) (T ++ [⟨kind, name, uri, loc, value, parent, [], [], []⟩]) := by
 have g2 := t.get .rows _ rfl;have g2' := nr.ext.keep _ _ _ g2;have r0 : (ad .rows).1 ≠ 0 := t.pos .rows _ rfl;have hlen : (T ++ [(⟨kind, name, uri, loc, value, parent, [], [], []⟩ : Row)]).length = T.length + 1 := by rw [length_append]; rfl
 have nn : ∀ q, q.ok (T.length + 1) -> ¬ q.ok T.length -> H.get (adAdd ad T.length H.reg H.nxt q).1 (adAdd ad T.length H.reg H.nxt q).2 = none := fun q h n => by
  rw [adAdd_new ad h n];exact hk.next _
 refine ⟨hk, nr.ext.ok.upd _ g2' r0, ⟨fun q o hq => ?_, fun p q o1 o2 h1 h2 e => ?_, by rw [hlen]; exact few, fun q o hq => ?_⟩, by rw [hlen]; exact Nat.le_succ _, fun q h => adAdd_old ad h, fun q h n => nn q (by rw [<- hlen]; exact h) n, fun r i o h g => ?_, (Hp.upd_reg ..).trans nr.ext.reg⟩
 ·have hok := cont_ok hq;rw [hlen] at hok;rw [Hp.get_upd];by_cases z : q = .rows
  ·subst z;rw [if_pos ⟨rfl, rfl⟩];injection hq with hq
   rw [<- hq, hlen, List.range_succ, List.map_append];have : (List.range T.length).map (fun k => rf (ad (.row k))) = (List.range T.length).map (fun k => rf (adAdd ad T.length H.reg H.nxt (.row k))) :=
    List.map_congr_left fun k hk' => by rw [adAdd_old ad (q := .row k) (List.mem_range.1 hk')]
   rw [this];congr 3
   show [V.ref H.reg H.nxt] = [rf (adAdd ad T.length H.reg H.nxt (.row T.length))];have e1 : adAdd ad T.length H.reg H.nxt (.row T.length) = (H.reg, H.nxt) := if_pos rfl;rw [e1]
  ·by_cases y : q.ok T.length
   ·obtain ⟨o', hc⟩ := ok_cont ad y;rw [adAdd_old ad y];have hne : ¬ ((ad q).1 = (ad .rows).1 /\ (ad q).2 = (ad .rows).2) := fun ⟨e1, e2⟩ => z (t.inj q .rows o' _ hc rfl (Prod.ext e1 e2));rw [if_neg hne];refine nr.ext.keep _ _ _ (t.get q o ?_);rw [<- hq];cases q
    case tree => rfl
    case rows => exact absurd rfl z
    all_goals
     show Option.map _ _ = Option.map _ _;rw [List.getElem?_append_left (show _ < T.length from y)]
     try rfl
    case row k =>
     congr 1
     funext r
     unfold rowO;rw [adAdd_old ad (q := .ch k) y, adAdd_old ad (q := .ats k) y, adAdd_old ad (q := .nss k) y]
   ·have hnone := nn q hok y;have hne : ¬ ((adAdd ad T.length H.reg H.nxt q).1 = (ad .rows).1 /\ (adAdd ad T.length H.reg H.nxt q).2 = (ad .rows).2) := fun ⟨e1, e2⟩ => by
     rw [e1, e2, g2] at hnone; cases hnone
    rw [if_neg hne, adAdd_new ad hok y];cases q
    case tree => exact absurd trivial y
    case rows => exact absurd trivial y
    case row k =>
     obtain rfl : k = T.length := Nat.le_antisymm (Nat.le_of_lt_succ hok) (Nat.le_of_not_lt y);have : o = rowO (adAdd ad T.length H.reg H.nxt) T.length ⟨kind, name, uri, loc, value, parent, [], [], []⟩ := by
      have h2 : Option.map (fun r => rowO (adAdd ad T.length H.reg H.nxt) T.length r) (T ++ [(⟨kind, name, uri, loc, value, parent, [], [], []⟩ : Row)])[T.length]? = some o := hq;rw [List.getElem?_concat_length] at h2;injection h2 with h2
      exact h2.symm
     rw [this];have h3 := nr.got 0 _ rfl;unfold rowO;simp only [adAdd, if_true];exact h3
    case ch k =>
     obtain rfl : k = T.length := Nat.le_antisymm (Nat.le_of_lt_succ hok) (Nat.le_of_not_lt y);have h2 : Option.map (fun r => O.list (List.map nV r.ch)) (T ++ [(⟨kind, name, uri, loc, value, parent, [], [], []⟩ : Row)])[T.length]? = some o := hq;rw [List.getElem?_concat_length] at h2;injection h2 with h2
     rw [<- h2];exact nr.got 1 _ rfl
    case ats k =>
     obtain rfl : k = T.length := Nat.le_antisymm (Nat.le_of_lt_succ hok) (Nat.le_of_not_lt y);have h2 : Option.map (fun r => O.list (List.map nV r.ats)) (T ++ [(⟨kind, name, uri, loc, value, parent, [], [], []⟩ : Row)])[T.length]? = some o := hq;rw [List.getElem?_concat_length] at h2;injection h2 with h2
     rw [<- h2];exact nr.got 2 _ rfl
    case nss k =>
     obtain rfl : k = T.length := Nat.le_antisymm (Nat.le_of_lt_succ hok) (Nat.le_of_not_lt y);have h2 : Option.map (fun r => O.list (List.map nV r.nss)) (T ++ [(⟨kind, name, uri, loc, value, parent, [], [], []⟩ : Row)])[T.length]? = some o := hq;rw [List.getElem?_concat_length] at h2;injection h2 with h2
     rw [<- h2];exact nr.got 3 _ rfl
 ·have hp := cont_ok h1;have hq := cont_ok h2;rw [hlen] at hp hq;by_cases a : p.ok T.length <;> by_cases b : q.ok T.length
  ·rw [adAdd_old ad a, adAdd_old ad b] at e;obtain ⟨o3, h3⟩ := ok_cont ad a;obtain ⟨o4, h4⟩ := ok_cont ad b;exact t.inj p q o3 o4 h3 h4 e
  ·have := nn q hq b;rw [<- e, adAdd_old ad a] at this;obtain ⟨o3, h3⟩ := ok_cont ad a;rw [t.get p o3 h3] at this; cases this
  ·have := nn p hp a;rw [e, adAdd_old ad b] at this;obtain ⟨o3, h3⟩ := ok_cont ad b;rw [t.get q o3 h3] at this; cases this
  ·rw [adAdd_new ad hp a, adAdd_new ad hq b] at e;injection e with _ e
   exact new_eq hp a hq b (Nat.add_left_cancel e)
 ·have hok := cont_ok hq;rw [hlen] at hok;by_cases y : q.ok T.length
  ·obtain ⟨o', hc⟩ := ok_cont ad y;rw [adAdd_old ad y];exact t.pos q o' hc
  ·rw [adAdd_new ad hok y];exact hk.pos
 ·rw [Hp.get_upd, if_neg ?_]
  ·exact nr.ext.keep _ _ _ g
  ·rintro ⟨rfl, rfl⟩;exact h .rows trivial rfl
end
noncomputable def rowN (kind name uri loc value : Str) (parent : Option Nat) : Row := ⟨kind, name, uri, loc, value, parent, [], [], []⟩
noncomputable def addC (n : Nat) (r : Row) : Row := { r with ch := r.ch ++ [n] }
noncomputable def addA (n : Nat) (r : Row) : Row := { r with ats := r.ats ++ [n] }
noncomputable def addN (n : Nat) (r : Row) : Row := { r with nss := r.nss ++ [n] }
section
variable {H : Hp} {ad : Role -> Nat × Nat} {T : List Row}
theorem mod_get {T : List Row} {p : Nat} {r : Row} (f : Row -> Row) (hr : T[p]? = some r) (k : Nat) : (T.modify p f)[k]? = if k = p then some (f r) else T[k]? := by
 rw [List.getElem?_modify];by_cases h : k = p
 ·subst h; rw [if_pos rfl, hr]; simp
 ·rw [if_neg h];have : ¬ (p = k) := fun z => h z.symm;cases T[k]? <;> simp [this]
theorem modCh (hk : Hok H) (t : TreeL H ad T) {p n : Nat} {r : Row} (hr : T[p]? = some r) : TMod H ad T (H.upd (ad (.ch p)).1 (ad (.ch p)).2 (.list (r.ch.map nV ++ [nV n]))) ad (T.modify p (addC n)) := by
 refine setRole (q := .ch p) (o0 := .list (r.ch.map nV)) hk t (by show Option.map _ _ = _; rw [hr]; rfl) (by simp) (fun q hq => ?_) ?_
 ·cases q
  case tree => rfl
  case rows => show some (O.list _) = some (O.list _); rw [List.length_modify]
  all_goals
   show Option.map _ _ = Option.map _ _;rw [mod_get _ hr];split
   ·next e =>
    subst e
    first
     | exact absurd rfl hq
     | (rw [hr]; rfl)
   ·rfl
 ·show Option.map _ _ = _;rw [mod_get _ hr, if_pos rfl];show some (O.list ((r.ch ++ [n]).map nV)) = _;rw [List.map_append]; rfl
theorem modAts (hk : Hok H) (t : TreeL H ad T) {p n : Nat} {r : Row} (hr : T[p]? = some r) : TMod H ad T (H.upd (ad (.ats p)).1 (ad (.ats p)).2 (.list (r.ats.map nV ++ [nV n]))) ad (T.modify p (addA n)) := by
 refine setRole (q := .ats p) (o0 := .list (r.ats.map nV)) hk t (by show Option.map _ _ = _; rw [hr]; rfl) (by simp) (fun q hq => ?_) ?_
 ·cases q
  case tree => rfl
  case rows => show some (O.list _) = some (O.list _); rw [List.length_modify]
  all_goals
   show Option.map _ _ = Option.map _ _;rw [mod_get _ hr];split
   ·next e =>
    subst e
    first
     | exact absurd rfl hq
     | (rw [hr]; rfl)
   ·rfl
 ·show Option.map _ _ = _;rw [mod_get _ hr, if_pos rfl];show some (O.list ((r.ats ++ [n]).map nV)) = _;rw [List.map_append]; rfl
theorem modNss (hk : Hok H) (t : TreeL H ad T) {p n : Nat} {r : Row} (hr : T[p]? = some r) : TMod H ad T (H.upd (ad (.nss p)).1 (ad (.nss p)).2 (.list (r.nss.map nV ++ [nV n]))) ad (T.modify p (addN n)) := by
 refine setRole (q := .nss p) (o0 := .list (r.nss.map nV)) hk t (by show Option.map _ _ = _; rw [hr]; rfl) (by simp) (fun q hq => ?_) ?_
 ·cases q
  case tree => rfl
  case rows => show some (O.list _) = some (O.list _); rw [List.length_modify]
  all_goals
   show Option.map _ _ = Option.map _ _;rw [mod_get _ hr];split
   ·next e =>
    subst e
    first
     | exact absurd rfl hq
     | (rw [hr]; rfl)
   ·rfl
 ·show Option.map _ _ = _;rw [mod_get _ hr, if_pos rfl];show some (O.list ((r.nss ++ [n]).map nV)) = _;rw [List.map_append]; rfl
end
section
variable {B : Bs} (K : BOk B) {d : Nat} {H : Hp} {ad : Role -> Nat × Nat} {T : List Row}
include K
theorem n_row (hk : Hok H) (kind name uri loc value : Str) (parent : Option Nat) : ∃ H', FnJ B (d + 1) 1098 [.ref H.reg H.nxt, .str kind, .str name, .str uri, .str loc, .str value, pV parent] (H.push (.inst 1101 [])) (.none, H') /\ NewRow H H' kind name uri loc value parent := by
 have h0 := hk.pos;have m0 : Made H _ [_] := (Made.start hk).push (.inst 1101 []);have g0 := m0.got 0 _ rfl;obtain ⟨b1, t1, e1, m1⟩ : ∃ b t, _ = (⟨b, H.reg, t, H.nxt + 1⟩ : Hp) /\ Made H ⟨b, H.reg, t, H.nxt + 1⟩ [.inst 1101 [(ofString "kind", .str kind)]] := m0.set 0 (.inst 1101 [(ofString "kind", .str kind)]) (Nat.zero_lt_succ _);have g1 := m1.got 0 _ rfl;obtain ⟨b2, t2, e2, m2⟩ : ∃ b t, _ = (⟨b, H.reg, t, H.nxt + 1⟩ : Hp) /\ Made H ⟨b, H.reg, t, H.nxt + 1⟩ [.inst 1101 [(ofString "kind", .str kind), (ofString "name", .str name)]] := m1.set 0 (.inst 1101 [(ofString "kind", .str kind), (ofString "name", .str name)]) (Nat.zero_lt_succ _);have g2 := m2.got 0 _ rfl;obtain ⟨b3, t3, e3, m3⟩ : ∃ b t, _ = (⟨b, H.reg, t, H.nxt + 1⟩ : Hp) /\ Made H ⟨b, H.reg, t, H.nxt + 1⟩ [.inst 1101 [(ofString "kind", .str kind), (ofString "name", .str name), (ofString "uri", .str uri)]] := m2.set 0 (.inst 1101 [(ofString "kind", .str kind), (ofString "name", .str name), (ofString "uri", .str uri)]) (Nat.zero_lt_succ _);have g3 := m3.got 0 _ rfl;obtain ⟨b4, t4, e4, m4⟩ : ∃ b t, _ = (⟨b, H.reg, t, H.nxt + 1⟩ : Hp) /\ Made H ⟨b, H.reg, t, H.nxt + 1⟩ [.inst 1101 [(ofString "kind", .str kind), (ofString "name", .str name), (ofString "uri", .str uri), (ofString "local", .str loc)]] := m3.set 0 (.inst 1101 [(ofString "kind", .str kind), (ofString "name", .str name), (ofString "uri", .str uri), (ofString "local", .str loc)]) (Nat.zero_lt_succ _);have g4 := m4.got 0 _ rfl;obtain ⟨b5, t5, e5, m5⟩ : ∃ b t, _ = (⟨b, H.reg, t, H.nxt + 1⟩ : Hp) /\ Made H ⟨b, H.reg, t, H.nxt + 1⟩ [.inst 1101 [(ofString "kind", .str kind), (ofString "name", .str name), (ofString "uri", .str uri), (ofString "local", .str loc), (ofString "value", .str value)]] := m4.set 0 (.inst 1101 [(ofString "kind", .str kind), (ofString "name", .str name), (ofString "uri", .str uri), (ofString "local", .str loc), (ofString "value", .str value)]) (Nat.zero_lt_succ _);have g5 := m5.got 0 _ rfl;obtain ⟨b6, t6, e6, m6⟩ : ∃ b t, _ = (⟨b, H.reg, t, H.nxt + 1⟩ : Hp) /\ Made H ⟨b, H.reg, t, H.nxt + 1⟩ [.inst 1101 [(ofString "kind", .str kind), (ofString "name", .str name), (ofString "uri", .str uri), (ofString "local", .str loc), (ofString "value", .str value), (ofString "parent", pV parent)]] := m5.set 0 (.inst 1101 [(ofString "kind", .str kind), (ofString "name", .str name), (ofString "uri", .str uri), (ofString "local", .str loc), (ofString "value", .str value), (ofString "parent", pV parent)]) (Nat.zero_lt_succ _);have g6 := m6.got 0 _ rfl;have p7 := m6.push (.list []);have q7 := p7.got 0 _ rfl;obtain ⟨b7, t7, e7, m7⟩ : ∃ b t, _ = (⟨b, H.reg, t, H.nxt + 2⟩ : Hp) /\ Made H ⟨b, H.reg, t, H.nxt + 2⟩ [.inst 1101 [(ofString "kind", .str kind), (ofString "name", .str name), (ofString "uri", .str uri), (ofString "local", .str loc), (ofString "value", .str value), (ofString "parent", pV parent), (ofString "children", .ref H.reg (H.nxt + 1))], .list []] := p7.set 0 (.inst 1101 [(ofString "kind", .str kind), (ofString "name", .str name), (ofString "uri", .str uri), (ofString "local", .str loc), (ofString "value", .str value), (ofString "parent", pV parent), (ofString "children", .ref H.reg (H.nxt + 1))]) (Nat.zero_lt_succ _);have g7 := m7.got 0 _ rfl;have p8 := m7.push (.list []);have q8 := p8.got 0 _ rfl;obtain ⟨b8, t8, e8, m8⟩ : ∃ b t, _ = (⟨b, H.reg, t, H.nxt + 3⟩ : Hp) /\ Made H ⟨b, H.reg, t, H.nxt + 3⟩ [.inst 1101 [(ofString "kind", .str kind), (ofString "name", .str name), (ofString "uri", .str uri), (ofString "local", .str loc), (ofString "value", .str value), (ofString "parent", pV parent), (ofString "children", .ref H.reg (H.nxt + 1)), (ofString "attributes", .ref H.reg (H.nxt + 2))], .list [], .list []] := p8.set 0 (.inst 1101 [(ofString "kind", .str kind), (ofString "name", .str name), (ofString "uri", .str uri), (ofString "local", .str loc), (ofString "value", .str value), (ofString "parent", pV parent), (ofString "children", .ref H.reg (H.nxt + 1)), (ofString "attributes", .ref H.reg (H.nxt + 2))]) (Nat.zero_lt_succ _);have g8 := m8.got 0 _ rfl;have p9 := m8.push (.list []);have q9 := p9.got 0 _ rfl;obtain ⟨b9, t9, e9, m9⟩ : ∃ b t, _ = (⟨b, H.reg, t, H.nxt + 4⟩ : Hp) /\ Made H ⟨b, H.reg, t, H.nxt + 4⟩ [.inst 1101 [(ofString "kind", .str kind), (ofString "name", .str name), (ofString "uri", .str uri), (ofString "local", .str loc), (ofString "value", .str value), (ofString "parent", pV parent), (ofString "children", .ref H.reg (H.nxt + 1)), (ofString "attributes", .ref H.reg (H.nxt + 2)), (ofString "namespaces", .ref H.reg (H.nxt + 3))], .list [], .list [], .list []] := p9.set 0 (.inst 1101 [(ofString "kind", .str kind), (ofString "name", .str name), (ofString "uri", .str uri), (ofString "local", .str loc), (ofString "value", .str value), (ofString "parent", pV parent), (ofString "children", .ref H.reg (H.nxt + 1)), (ofString "attributes", .ref H.reg (H.nxt + 2)), (ofString "namespaces", .ref H.reg (H.nxt + 3))]) (Nat.zero_lt_succ _);have g9 := m9.got 0 _ rfl;have w : FnJ B (d + 1) 1098 [.ref H.reg H.nxt, .str kind, .str name, .str uri, .str loc, .str value, pV parent] (H.push (.inst 1101 [])) (.none, ⟨b9, H.reg, t9, H.nxt + 4⟩) := by
  exact fnJ_of K rfl [.o g0, .y h0, .h e1, .o g1, .y h0, .h e2, .o g2, .y h0, .h e3, .o g3, .y h0, .h e4, .o g4, .y h0, .h e5, .o g5, .y h0, .h e6, .c, .c, .o q7, .y h0, .h e7, .c, .c, .o q8, .y h0, .h e8, .c, .c, .o q9, .y h0, .h e9] (by kernel_rfl)
 exact ⟨_, w, m9⟩
theorem t_newrow (hk : Hok H) (t : TreeL H ad T) (few : T.length < 1000) (kind name uri loc value : Str) (parent : Option Nat) :
  ∃ ad' H', FnJ B (d + 3) 1126 [rf (ad .tree), .str kind, .str name, .str uri, .str loc, .str value, pV parent] H (nV T.length, H') /\ TMod H ad T H' ad' (T ++ [rowN kind name uri loc value parent]) := by
 obtain ⟨H1, s, nr⟩ := n_row K hk kind name uri loc value parent (d := d);have M := addRow hk t few nr;have g1 := t.get .tree _ rfl;have g2 := t.get .rows _ rfl;have g3 := nr.ext.keep _ _ _ g1;have g4 := nr.ext.keep _ _ _ g2;have r0 : (ad .rows).1 ≠ 0 := t.pos .rows _ rfl;have h1 : ((List.range T.length).map fun k => rf (ad (.row k))).length < limN := by rw [len_rows]; exact lt_of_lt_of_le few (by decide)
 obtain ⟨H2, e2⟩ : ∃ H2, H1.upd (ad .rows).1 (ad .rows).2 (.list ((List.range T.length).map (fun k => rf (ad (.row k))) ++ [.ref H.reg H.nxt])) = H2 := ⟨_, rfl⟩;rw [e2] at M;have g5 : H2.get (ad .tree).1 (ad .tree).2 = _ := M.tree.get .tree _ rfl;have g6 : H2.get (ad .rows).1 (ad .rows).2 = _ := M.tree.get .rows _ rfl;have h2 : ((List.range (T ++ [rowN kind name uri loc value parent]).length).map fun k => rf (adAdd ad T.length H.reg H.nxt (.row k))).length <= limN := by rw [len_rows, length_append]; exact le_trans (Nat.succ_le_of_lt few) (by decide)
 have e3 : (((List.range (T ++ [rowN kind name uri loc value parent]).length).map fun k => rf (adAdd ad T.length H.reg H.nxt (.row k))).length : Int) - 1 = T.length := by rw [len_rows, length_append]; exact Int.add_sub_cancel (T.length : Int) 1
 have w : FnJ B (d + 3) 1126 [rf (ad .tree), .str kind, .str name, .str uri, .str loc, .str value, pV parent] H (.int ((((List.range (T ++ [rowN kind name uri loc value parent]).length).map fun k => rf (adAdd ad T.length H.reg H.nxt (.row k))).length : Nat) - 1), H2) := by
  exact fnJ_of K rfl [.o g1, .c, .o g2, .c, .vh s, .o g4, .y h1, .y r0, .h e2, .o g5, .c, .o g6, .y h2] (by kernel_rfl)
 rw [e3] at w;exact ⟨_, H2, w, M⟩
end
section
variable {H : Hp} {ad : Role -> Nat × Nat} {T : List Row}
theorem TreeL.chp (t : TreeL H ad T) {n : Nat} {r : Row} (hr : T[n]? = some r) : (ad (.ch n)).1 ≠ 0 := t.pos (.ch n) (.list (r.ch.map nV)) (by show Option.map _ _ = _; rw [hr]; rfl)
theorem TreeL.atp (t : TreeL H ad T) {n : Nat} {r : Row} (hr : T[n]? = some r) : (ad (.ats n)).1 ≠ 0 := t.pos (.ats n) (.list (r.ats.map nV)) (by show Option.map _ _ = _; rw [hr]; rfl)
theorem TreeL.nsp (t : TreeL H ad T) {n : Nat} {r : Row} (hr : T[n]? = some r) : (ad (.nss n)).1 ≠ 0 := t.pos (.nss n) (.list (r.nss.map nV)) (by show Option.map _ _ = _; rw [hr]; rfl)
theorem TreeL.len_rows (t : TreeL H ad T) : ((List.range T.length).map fun k => rf (ad (.row k))).length <= limN := by rw [Mine.len_rows]; exact lim_of t.few
theorem len_limS {α β : Type} {f : α -> β} {xs : List α} (h : xs.length < 1000) : (xs.map f).length < limN := by rw [length_map]; exact lt_of_lt_of_le h (by decide)
theorem get_cat {α : Type} {xs : List α} {n : Nat} {x y : α} (h : xs[n]? = some x) : (xs ++ [y])[n]? = some x := by rw [List.getElem?_append_left (List.getElem?_eq_some_iff.1 h).1]; exact h
end
section
variable {B : Bs} (K : BOk B) {d : Nat} {H : Hp} {ad : Role -> Nat × Nat} {T : List Row}
noncomputable def addCh (T : List Row) (p : Nat) (r : Row) : List Row := (T ++ [r]).modify p (addC T.length)
noncomputable def addAt (T : List Row) (p : Nat) (r : Row) : List Row := (T ++ [r]).modify p (addA T.length)
noncomputable def addNs (T : List Row) (p : Nat) (r : Row) : List Row := (T ++ [r]).modify p (addN T.length)
include K
theorem t_newroot (hk : Hok H) (t : TreeL H ad T) (few : T.length < 1000) :
  ∃ ad' H', FnJ B (d + 4) 1140 [rf (ad .tree)] H (nV T.length, H') /\ TMod H ad T H' ad' (T ++ [rowN (ofString "root") (ofString "") (ofString "") (ofString "") (ofString "") none]) := by
 obtain ⟨ad', H', s, M⟩ := t_newrow K hk t few (ofString "root") (ofString "") (ofString "") (ofString "") (ofString "") none (d := d);have g1 := t.get .tree _ rfl;have w : FnJ B (d + 4) 1140 [rf (ad .tree)] H (nV T.length, H') := by
  exact fnJ_of K rfl [.o g1, .vh s] (by kernel_rfl)
 exact ⟨ad', H', w, M⟩
theorem t_addchild (hk : Hok H) (t : TreeL H ad T) (few : T.length < 1000) {p : Nat} {r : Row} (hr : T[p]? = some r) (hc : r.ch.length < 1000) (hkd : r.kind = ofString "root" \/ r.kind = ofString "element") (kind name uri loc value : Str) :
  ∃ ad' H', FnJ B (d + 4) 1147 [rf (ad .tree), nV p, .str kind, .str name, .str uri, .str loc, .str value] H (nV T.length, H') /\ TMod H ad T H' ad' (addCh T p (rowN kind name uri loc value (some p))) := by
 obtain ⟨ad', H1, s, M⟩ := t_newrow K hk t few kind name uri loc value (some p) (d := d);have hn := row_lt hr;have g1 := t.get .tree _ rfl;have g3 := t.row hr;have s2 := t_row K t hn (d := d + 2);have z : _ = some (O.tup [.str (ofString "root"), .str (ofString "element")]) := hk.zero 1084 rfl;have iv : inL (.str r.kind) [.str (ofString "root"), .str (ofString "element")] = some true := by
  rcases hkd with e | e <;> rw [e] <;> kernel_rfl
 have hr' := get_cat (y := rowN kind name uri loc value (some p)) hr;have f1 := M.tree.get .tree _ rfl;rw [M.old .tree trivial] at f1;have f2 := M.tree.get .rows _ rfl;have f3 := M.tree.row hr';have f4 := M.tree.chs hr';have M2 := modCh M.ok M.tree hr' (n := T.length);have h5 := M.tree.chp hr';have h6 := M.tree.len_rows;have h7 := rows_at (fun k => rf (ad' (.row k))) (row_lt hr') M.tree.few;have h8 := len_limS (f := nV) hc;have w : FnJ B (d + 4) 1147 [rf (ad .tree), nV p, .str kind, .str name, .str uri, .str loc, .str value] H (nV T.length, H1.upd (ad' (.ch p)).1 (ad' (.ch p)).2 (.list (r.ch.map nV ++ [nV T.length]))) := by
  exact fnJ_of K rfl [.o g1, .vh s2, .o g3, .c, .o z, .bo iv, .o g1, .vh s, .o f1, .c, .o f2, .v h7, .o f3, .c, .o f4, .o f4, .y h8, .y h5, .c] (by kernel_rfl)
 exact ⟨ad', _, w, M.trans M2⟩
theorem t_addelement (hk : Hok H) (t : TreeL H ad T) (few : T.length < 1000) {p : Nat} {r : Row} (hr : T[p]? = some r) (hc : r.ch.length < 1000) (hkd : r.kind = ofString "root" \/ r.kind = ofString "element") (name uri loc : Str) :
  ∃ ad' H', FnJ B (d + 5) 1154 [rf (ad .tree), nV p, .str name, .str uri, .str loc] H (nV T.length, H') /\ TMod H ad T H' ad' (addCh T p (rowN (ofString "element") name uri loc (ofString "") (some p))) := by
 obtain ⟨ad', H', s, M⟩ := t_addchild K hk t few hr hc hkd (ofString "element") name uri loc (ofString "") (d := d);have g1 := t.get .tree _ rfl;have w : FnJ B (d + 5) 1154 [rf (ad .tree), nV p, .str name, .str uri, .str loc] H (nV T.length, H') := by
  exact fnJ_of K rfl [.o g1, .vh s] (by kernel_rfl)
 exact ⟨ad', H', w, M⟩
theorem t_addtext (hk : Hok H) (t : TreeL H ad T) (few : T.length < 1000) {p : Nat} {r : Row} (hr : T[p]? = some r) (hc : r.ch.length < 1000) (hkd : r.kind = ofString "root" \/ r.kind = ofString "element") (value : Str) :
  ∃ ad' H', FnJ B (d + 5) 1161 [rf (ad .tree), nV p, .str value] H (nV T.length, H') /\ TMod H ad T H' ad' (addCh T p (rowN (ofString "text") (ofString "") (ofString "") (ofString "") value (some p))) := by
 obtain ⟨ad', H', s, M⟩ := t_addchild K hk t few hr hc hkd (ofString "text") (ofString "") (ofString "") (ofString "") value (d := d);have g1 := t.get .tree _ rfl;have w : FnJ B (d + 5) 1161 [rf (ad .tree), nV p, .str value] H (nV T.length, H') := by
  exact fnJ_of K rfl [.o g1, .vh s] (by kernel_rfl)
 exact ⟨ad', H', w, M⟩
theorem t_addcomment (hk : Hok H) (t : TreeL H ad T) (few : T.length < 1000) {p : Nat} {r : Row} (hr : T[p]? = some r) (hc : r.ch.length < 1000) (hkd : r.kind = ofString "root" \/ r.kind = ofString "element") (value : Str) :
  ∃ ad' H', FnJ B (d + 5) 1168 [rf (ad .tree), nV p, .str value] H (nV T.length, H') /\ TMod H ad T H' ad' (addCh T p (rowN (ofString "comment") (ofString "") (ofString "") (ofString "") value (some p))) := by
 obtain ⟨ad', H', s, M⟩ := t_addchild K hk t few hr hc hkd (ofString "comment") (ofString "") (ofString "") (ofString "") value (d := d);have g1 := t.get .tree _ rfl;have w : FnJ B (d + 5) 1168 [rf (ad .tree), nV p, .str value] H (nV T.length, H') := by
  exact fnJ_of K rfl [.o g1, .vh s] (by kernel_rfl)
 exact ⟨ad', H', w, M⟩
theorem t_elrow (t : TreeL H ad T) {n : Nat} {r : Row} (hr : T[n]? = some r) (hkd : r.kind = ofString "element") : FnJ B (d + 2) 1182 [rf (ad .tree), nV n] H (rf (ad (.row n)), H) := by
 have g1 := t.get .tree _ rfl;have g3 := t.row hr;have s := t_row K t (row_lt hr) (d := d);have q : eqS (.str r.kind) (.str (ofString "element")) = some true := by rw [hkd]; kernel_rfl
 exact fnJ_of K rfl [.o g1, .vh s, .o g3, .c, .y hkd] (by kernel_rfl)
end
noncomputable def loE (a : Nat) (l : List (Str × V)) : En := ⟨l, [], (fnOf a).scope.names, (fnOf a).qual ++ ".<locals>."⟩
noncomputable abbrev sO (s : String) : Str := ofString s
theorem eqS_ne {a b : Str} (h : a ≠ b) : eqS (.str a) (.str b) = some false := congrArg some (decide_eq_false h)
section
variable {B : Bs} {d : Nat} {t : Expr} {b : List Stmt} {e : En} {J : List V -> Hp -> Prop}
theorem fo_listS {r i : Nat} {xs : List V} (hS : ∀ vs H, J vs H -> H.get r i = some (.list xs)) {H : Hp} (h : J xs H) (st : ∀ H v vs, J (v :: vs) H -> ∃ f H', TurnJ B d e H t v b (f, e, H') /\ (f = .next \/ f = .cont) /\ J vs H') :
  ∃ H', FoJ B d e H t (.lst r i 0) b (.next, e, H') /\ J [] H' := by
 obtain ⟨e', H', h1, rfl, h2⟩ := fo_list (J := fun vs e' H => e' = e /\ J vs H) (fun vs e' H h => hS vs H h.2) (fun e' H v vs h => by
  obtain ⟨h1, h⟩ := h;obtain ⟨f, H', a1, a2, a3⟩ := st H v vs h;exact ⟨f, _, H', by rw [h1]; exact a1, a2, rfl, a3⟩) ⟨rfl, h⟩
 exact ⟨H', h1, h2⟩
end
section
variable {B : Bs} (K : BOk B) {d : Nat} {H : Hp} {ad : Role -> Nat × Nat} {T : List Row}
include K
theorem t_setattr (hk : Hok H) (t : TreeL H ad T) (few : T.length < 1000) {p : Nat} {r : Row} (hr : T[p]? = some r) (hc : r.ats.length < 1000) (hkd : r.kind = ofString "element") (name uri loc value : Str)
  (hne : ∀ a ∈ r.ats, ∃ ra, T[a]? = some ra /\ ra.loc ≠ loc) :
  ∃ ad' H', FnJ B (d + 4) 1189 [rf (ad .tree), nV p, .str name, .str uri, .str loc, .str value] H (nV T.length, H') /\ TMod H ad T H' ad' (addAt T p (rowN (ofString "attribute") name uri loc value (some p))) := by
 obtain ⟨ad', H1, s, M⟩ := t_newrow K hk t few (sO "attribute") name uri loc value (some p) (d := d);have hn := row_lt hr;have g1 := t.get .tree _ rfl;have g2 := t.get .rows _ rfl;have g3 := t.row hr;have g4 := t.atts hr;have s2 := t_elrow K t hr hkd (d := d + 1);have hr' := get_cat (y := rowN (sO "attribute") name uri loc value (some p)) hr;have f3 := M.tree.row hr';rw [M.old (.row p) hn] at f3;have f4 := M.tree.atts hr';have M2 := modAts M.ok M.tree hr' (n := T.length);have h5 := M.tree.atp hr';have h8 := len_limS (f := nV) hc;obtain ⟨H2, s3, e2, -⟩ := fo_listS (B := B) (d := d + 3) (e := loE 1189 [(sO "self", rf (ad .tree)), (sO "element", nV p), (sO "name", .str name), (sO "uri", .str uri), (sO "local", .str loc), (sO "value", .str value), (sO "row", rf (ad (.row p)))]) (t := forT (stAt (bodyOf 1189) 1)) (b := forB (stAt (bodyOf 1189) 1)) (xs := r.ats.map nV)
  (J := fun vs H' => H' = H /\ ∀ v ∈ vs, ∃ a ra, v = nV a /\ T[a]? = some ra /\ ra.loc ≠ loc) (fun vs H' h => h.1 ▸ g4) ⟨rfl, fun v hv => by
   obtain ⟨a, ha, rfl⟩ := List.mem_map.1 hv;obtain ⟨ra, h1, h2⟩ := hne a ha;exact ⟨a, ra, rfl, h1, h2⟩⟩ fun H' v vs h => by
   obtain ⟨rfl, hv⟩ := h;obtain ⟨a, ra, rfl, ha, hra⟩ := hv v (mem_cons_self ..);have k1 := rows_at (fun k => rf (ad (.row k))) (row_lt ha) t.few;have k2 := t.len_rows;have k3 := t.row ha;have k4 : eqS (.str ra.loc) (.str loc) = some false := eqS_ne hra;refine ⟨.next, H', ?_, .inl rfl, rfl, fun v h => hv v (mem_cons_of_mem _ h)⟩;cases ku : decide (ra.uri = uri) with
   | true =>
    have k5 := of_decide_eq_true ku;exact turnJ_of K [sO "self", sO "element", sO "name", sO "uri", sO "local", sO "value", sO "row"] [.o g1, .c, .o g2, .v k1, .o k3, .c, .y k5, .o k3, .c, .n hra] (by kernel_rfl)
   | false =>
    have k5 := of_decide_eq_false ku;exact turnJ_of K [sO "self", sO "element", sO "name", sO "uri", sO "local", sO "value", sO "row"] [.o g1, .c, .o g2, .v k1, .o k3, .c, .n k5] (by kernel_rfl)
 rw [e2] at s3;have w : FnJ B (d + 4) 1189 [rf (ad .tree), nV p, .str name, .str uri, .str loc, .str value] H (nV T.length, H1.upd (ad' (.ats p)).1 (ad' (.ats p)).2 (.list (r.ats.map nV ++ [nV T.length]))) := by
  exact fnJ_of K rfl [.o g1, .vh s2, .o g3, .c, .o g4, .fo s3, .o g1, .vh s, .o f3, .c, .o f4, .o f4, .y h8, .y h5, .c] (by kernel_rfl)
 exact ⟨ad', _, w, M.trans M2⟩
theorem t_addns (hk : Hok H) (t : TreeL H ad T) (few : T.length < 1000) {p : Nat} {r : Row} (hr : T[p]? = some r) (hc : r.nss.length < 1000) (hkd : r.kind = ofString "element") (prefix_ uri : Str)
  (hne : ∀ a ∈ r.nss, ∃ ra, T[a]? = some ra /\ ra.name ≠ prefix_) :
  ∃ ad' H', FnJ B (d + 4) 1196 [rf (ad .tree), nV p, .str prefix_, .str uri] H (nV T.length, H') /\ TMod H ad T H' ad' (addNs T p (rowN (sO "namespace") prefix_ (sO "") prefix_ uri (some p))) := by
 obtain ⟨ad', H1, s, M⟩ := t_newrow K hk t few (sO "namespace") prefix_ (sO "") prefix_ uri (some p) (d := d);have hn := row_lt hr;have g1 := t.get .tree _ rfl;have g2 := t.get .rows _ rfl;have g3 := t.row hr;have g4 := t.nsss hr;have s2 := t_elrow K t hr hkd (d := d + 1);have hr' := get_cat (y := rowN (sO "namespace") prefix_ (sO "") prefix_ uri (some p)) hr;have f3 := M.tree.row hr';rw [M.old (.row p) hn] at f3;have f4 := M.tree.nsss hr';have M2 := modNss M.ok M.tree hr' (n := T.length);have h5 := M.tree.nsp hr';have h8 := len_limS (f := nV) hc;obtain ⟨H2, s3, e2, -⟩ := fo_listS (B := B) (d := d + 3) (e := loE 1196 [(sO "self", rf (ad .tree)), (sO "element", nV p), (sO "prefix", .str prefix_), (sO "uri", .str uri), (sO "row", rf (ad (.row p)))]) (t := forT (stAt (bodyOf 1196) 1)) (b := forB (stAt (bodyOf 1196) 1)) (xs := r.nss.map nV)
  (J := fun vs H' => H' = H /\ ∀ v ∈ vs, ∃ a ra, v = nV a /\ T[a]? = some ra /\ ra.name ≠ prefix_) (fun vs H' h => h.1 ▸ g4) ⟨rfl, fun v hv => by
   obtain ⟨a, ha, rfl⟩ := List.mem_map.1 hv;obtain ⟨ra, h1, h2⟩ := hne a ha;exact ⟨a, ra, rfl, h1, h2⟩⟩ fun H' v vs h => by
   obtain ⟨rfl, hv⟩ := h;obtain ⟨a, ra, rfl, ha, hra⟩ := hv v (mem_cons_self ..);have k1 := rows_at (fun k => rf (ad (.row k))) (row_lt ha) t.few;have k2 := t.len_rows;have k3 := t.row ha;have k4 : eqS (.str ra.name) (.str prefix_) = some false := eqS_ne hra;refine ⟨.next, H', ?_, .inl rfl, rfl, fun v h => hv v (mem_cons_of_mem _ h)⟩;exact turnJ_of K [sO "self", sO "element", sO "prefix", sO "uri", sO "row"] [.o g1, .c, .o g2, .v k1, .o k3, .c, .n hra] (by kernel_rfl)
 rw [e2] at s3;have w : FnJ B (d + 4) 1196 [rf (ad .tree), nV p, .str prefix_, .str uri] H (nV T.length, H1.upd (ad' (.nss p)).1 (ad' (.nss p)).2 (.list (r.nss.map nV ++ [nV T.length]))) := by
  exact fnJ_of K rfl [.o g1, .vh s2, .o g3, .c, .o g4, .fo s3, .o g1, .vh s, .o f3, .c, .o f4, .o f4, .y h8, .y h5, .c] (by kernel_rfl)
 exact ⟨ad', _, w, M.trans M2⟩
end
theorem nat_small {x : Int} (h0 : 0 <= x) (h1 : x < 2147483647) : x.natAbs < 2 ^ 63 := by
 obtain ⟨n, rfl⟩ := Int.eq_ofNat_of_zero_le h0;exact Nat.lt_trans (Int.ofNat_lt.1 h1) (by decide)
noncomputable def gr (x : Int) : Int := if x < -1 - x then -1 - x else x
structure SrcAt (H : Hp) (r i : Nat) (a b : Int) : Prop where
 get : H.get r i = some (.list [.int a, .int b])
 na : 0 <= a
 nb : 0 <= b
 pos : r ≠ 0
def SMod (r i : Nat) (H H' : Hp) : Prop := ∃ a b : Int, 0 <= a /\ 0 <= b /\ H' = H.upd r i (.list [.int a, .int b])
section
variable {H : Hp} {r i : Nat} {a b : Int}
theorem SMod.src {H' : Hp} (h : SMod r i H H') (r0 : r ≠ 0) : ∃ a b, SrcAt H' r i a b := by
 obtain ⟨a, b, h1, h2, rfl⟩ := h;exact ⟨a, b, by rw [Hp.get_upd, if_pos ⟨rfl, rfl⟩], h1, h2, r0⟩
theorem SMod.get {H' : Hp} (h : SMod r i H H') {r' i' : Nat} (n : ¬ (r' = r /\ i' = i)) : H'.get r' i' = H.get r' i' := by
 obtain ⟨a, b, h1, h2, rfl⟩ := h;rw [Hp.get_upd, if_neg n]
theorem SMod.ok {H' : Hp} (h : SMod r i H H') (hk : Hok H) (s : SrcAt H r i a b) : Hok H' := by
 obtain ⟨a, b, h1, h2, rfl⟩ := h;exact hk.upd _ s.get s.pos
end
section
variable {B : Bs} (K : BOk B) {d : Nat} {H : Hp} {r i : Nat} {a b : Int}
include K
theorem l_take (s : SrcAt H r i a b) {top : Int} (h0 : 0 < top) (h1 : top < 1073741824) :
  ∃ f H', FnJ B (d + 1) 1686 [.ref r i, .int top] H (.int f, H') /\ 0 <= f /\ f < top /\ SMod r i H H' := by
 have g1 := s.get;have r0 := s.pos;have na := s.na;have nb := s.nb;have t0 : top ≠ 0 := Int.ne_of_gt h0;cases ha : decide (0 < a) with
 | true =>
  have ha := of_decide_eq_true ha;have w : FnJ B (d + 1) 1686 [.ref r i, .int top] H (.int (Int.fmod a top), H.upd r i (.list [.int (Int.fdiv a top), .int b])) := by
   exact fnJ_of K rfl [.o g1, .c, .y ha, .o g1, .c, .y h0, .o g1, .c, .y (p := 0 < top /\ top < 1073741824) ⟨h0, h1⟩, .o g1, .c, .y r0, .c] (by kernel_rfl)
  exact ⟨_, _, w, Int.fmod_nonneg_of_pos _ h0, Int.fmod_lt_of_pos _ h0, _, _, Int.fdiv_nonneg na (Int.le_of_lt h0), nb, rfl⟩
 | false =>
  have ha := of_decide_eq_false ha;have b0 := Int.fmod_nonneg_of_pos (b * 39373 + 7) (show (0 : Int) < 2147483647 by decide)
  have b1 := Int.fmod_lt_of_pos (b * 39373 + 7) (show (0 : Int) < 2147483647 by decide)
  obtain ⟨x, hx⟩ : ∃ x, x = Int.fmod (b * 39373 + 7) 2147483647 := ⟨_, rfl⟩;obtain ⟨H1, e1⟩ : ∃ H1, H.upd r i (.list [.int a, .int (Int.fmod (b * 39373 + 7) 2147483647)]) = H1 := ⟨_, rfl⟩;have g2 : H1.get r i = some (.list [.int a, .int (Int.fmod (b * 39373 + 7) 2147483647)]) := by rw [<- e1, Hp.get_upd, if_pos ⟨rfl, rfl⟩]
  have w : FnJ B (d + 1) 1686 [.ref r i, .int top] H (.int (Int.fmod (Int.fdiv (Int.fmod (Int.fmod (b * 39373 + 7) 2147483647 * Int.fmod (b * 39373 + 7) 2147483647) 2147483629) 32) top), H1) := by
   exact fnJ_of K rfl [.o g1, .c, .n ha, .o g1, .c, .c, .c, .o g1, .c, .y r0, .h e1, .o g2, .c, .o g2, .c, .y (p := ((b * 39373 + 7).fmod 2147483647).natAbs < 2 ^ 63 \/ ((b * 39373 + 7).fmod 2147483647).natAbs < 2 ^ 63) (Or.inl (nat_small b0 b1)), .c, .c, .y h0] (by kernel_rfl)
  exact ⟨_, _, w, Int.fmod_nonneg_of_pos _ h0, Int.fmod_lt_of_pos _ h0, _, _, na, b0, e1.symm⟩
theorem l_one (s : SrcAt H r i a b) {r' i' : Nat} {xs : List V} (g : H.get r' i' = some (.list xs)) (hne : ¬ (r' = r /\ i' = i)) (h0 : 0 < xs.length) (h1 : xs.length <= 1000) :
  ∃ v H', FnJ B (d + 2) 1693 [.ref r i, .ref r' i'] H (v, H') /\ v ∈ xs /\ SMod r i H H' := by
 obtain ⟨f, H', s1, f0, f1, hm⟩ := l_take K s (top := (xs.length : Nat)) (Int.ofNat_lt.2 h0) (Int.lt_of_le_of_lt (Int.ofNat_le.2 h1) (by decide)) (d := d)
 obtain ⟨n, rfl⟩ := Int.eq_ofNat_of_zero_le f0;have hn : n < xs.length := Int.ofNat_lt.1 f1;have g' := (hm.get hne).trans g;have e : atI xs (n : Int) = some xs[n] := (atI_nat (lt_of_lt_of_le hn (le_trans h1 (by decide)))).trans (List.getElem?_eq_getElem hn)
 have h2 : xs.length <= limN := lim_of h1;have w : FnJ B (d + 2) 1693 [.ref r i, .ref r' i'] H (xs[n], H') := by
  exact fnJ_of K rfl [.o g, .y h2, .vh s1, .o g', .v e] (by kernel_rfl)
 exact ⟨_, _, w, List.getElem_mem hn, hm⟩
omit K in
theorem gr_nn (x : Int) : 0 <= gr x := by unfold gr; split <;> omega
theorem l_pool {r' i' : Nat} {xs : List Int} (g : H.get r' i' = some (.list (xs.map V.int))) (h1 : xs.length <= 1000) :
  ∃ a b : Int, FnJ B (d + 1) 1679 [.ref r' i', .int 0] H (.ref H.reg H.nxt, H.push (.list [.int a, .int b])) /\ 0 <= a /\ 0 <= b := by
 have h2 : (xs.map V.int).length <= limN := len_lim h1;cases xs with
 | cons x xs =>
  have h3 : (0 : Int) < ((x :: xs).map V.int).length := Int.ofNat_lt.2 (Nat.zero_lt_succ _);cases q : decide (10 ^ Int.toNat 18 <= gr x) with
  | true =>
   have q := of_decide_eq_true q;have w : FnJ B (d + 1) 1679 [.ref r' i', .int 0] H (.ref H.reg H.nxt, H.push (.list [.int (gr x * 1), .int (Int.fmod ((Int.fmod (gr x) 2147483629 + 7919 * 0 * 0 + 31 * 0 + 17) * 48271) 2147483647)])) := by
    exact fnJ_of K rfl [.o g, .y h2, .y h3, .o g, .c, .c, .c, .c, .c, .c, .c, .c, .y q, .c, .c, .c] (by kernel_rfl)
   exact ⟨_, _, w, Int.mul_nonneg (gr_nn x) (by decide), Int.fmod_nonneg_of_pos _ (by decide)⟩
  | false =>
   have q := of_decide_eq_false q;have w : FnJ B (d + 1) 1679 [.ref r' i', .int 0] H (.ref H.reg H.nxt, H.push (.list [.int (gr x * 0), .int (Int.fmod ((Int.fmod (gr x) 2147483629 + 7919 * 0 * 0 + 31 * 0 + 17) * 48271) 2147483647)])) := by
    exact fnJ_of K rfl [.o g, .y h2, .y h3, .o g, .c, .c, .c, .c, .c, .c, .c, .c, .n q, .c, .c, .c] (by kernel_rfl)
   exact ⟨_, _, w, Int.mul_nonneg (gr_nn x) (by decide), Int.fmod_nonneg_of_pos _ (by decide)⟩
 | nil =>
  have w : FnJ B (d + 1) 1679 [.ref r' i', .int 0] H (.ref H.reg H.nxt, H.push (.list [.int 0, .int 820607])) := by
   exact fnJ_of K rfl [.o g, .y h2, .c, .c, .c, .c, .c, .c, .c, .c, .c, .c, .c, .c] (by kernel_rfl)
  exact ⟨_, _, w, by decide, by decide⟩
end
noncomputable def par (T : List Row) (k : Nat) : Option Nat := (T[k]?).bind (·.parent)
noncomputable def kids (T : List Row) (k : Nat) : List Nat := match T[k]? with
 | some r => r.nss ++ r.ats ++ r.ch
 | none => []
structure Wf (T : List Row) : Prop where
 kid : ∀ k c, c ∈ kids T k -> c < T.length /\ k < c /\ par T c = some k
 up : ∀ c p, par T c = some p -> c ∈ kids T p
 nodup : ∀ k, (kids T k).Nodup
theorem Wf.par_lt {T : List Row} (w : Wf T) {c p : Nat} (h : par T c = some p) : p < c /\ c < T.length := by
 have := w.kid p c (w.up c p h);exact ⟨this.2.1, this.1⟩
noncomputable def wk (T : List Row) : Nat -> Nat -> List Nat
 | 0, _ => []
 | f + 1, k => k :: (kids T k).flatMap (wk T f)
theorem flatMap_same {α β : Type} {f g : α -> List β} : ∀ {xs : List α}, (∀ x ∈ xs, f x = g x) -> xs.flatMap f = xs.flatMap g
 | [], _ => rfl
 | x :: xs, h => by rw [List.flatMap_cons, List.flatMap_cons, h x (mem_cons_self ..), flatMap_same fun y hy => h y (mem_cons_of_mem _ hy)]
theorem fuel {n k f c : Nat} (h : n <= k + (f + 1)) (q : k < c) : n <= c + f := le_trans h (Nat.succ_add_eq_add_succ k f ▸ Nat.add_le_add_right q f)
theorem wk_enough {T : List Row} (w : Wf T) : ∀ (f g k : Nat), T.length <= k + f -> T.length <= k + g -> k < T.length -> wk T f k = wk T g k
 | 0, _, k, h, _, hk => absurd hk (Nat.not_lt.2 h)
 | _ + 1, 0, k, _, h, hk => absurd hk (Nat.not_lt.2 h)
 | f + 1, g + 1, k, h1, h2, hk => by
  show k :: _ = k :: _;congr 1
  refine flatMap_same fun c hc => ?_;have := w.kid k c hc;exact wk_enough w f g c (fuel h1 this.2.1) (fuel h2 this.2.1) this.1
noncomputable def chainUp (T : List Row) : Nat -> Nat -> List Nat
 | 0, _ => []
 | f + 1, k => k :: (match par T k with | some p => chainUp T f p | none => [])
theorem chainUp_le {T : List Row} (w : Wf T) : ∀ (f c a : Nat), a ∈ chainUp T f c -> a <= c
 | 0, _, _, h => by cases h
 | f + 1, c, a, h => by
  unfold chainUp at h;rcases List.mem_cons.1 h with rfl | h
  ·exact Nat.le_refl _
  ·cases e : par T c with
   | none => rw [e] at h; cases h
   | some p =>
    rw [e] at h;exact le_trans (chainUp_le w f p a h) (Nat.le_of_lt (w.par_lt e).1)
theorem chainUp_enough {T : List Row} (w : Wf T) : ∀ (f g k : Nat), k < f -> k < g -> chainUp T f k = chainUp T g k
 | 0, _, k, h, _ => absurd h (Nat.not_lt_zero k)
 | _ + 1, 0, k, _, h => absurd h (Nat.not_lt_zero k)
 | f + 1, g + 1, k, h1, h2 => by
  show k :: _ = k :: _;congr 1
  cases e : par T k with
  | none => rfl
  | some p =>
   have := (w.par_lt e).1;exact chainUp_enough w f g p (lt_of_lt_of_le this (Nat.le_of_lt_succ h1)) (lt_of_lt_of_le this (Nat.le_of_lt_succ h2))
noncomputable def ups (T : List Row) (c : Nat) : List Nat := chainUp T (c + 1) c
theorem ups_root {T : List Row} {c : Nat} (h : par T c = none) : ups T c = [c] := by unfold ups chainUp; rw [h]
theorem ups_step {T : List Row} (w : Wf T) {c p : Nat} (h : par T c = some p) : ups T c = c :: ups T p := by
 have := (w.par_lt h).1;show chainUp T (c + 1) c = _;unfold chainUp;rw [h];show c :: chainUp T c p = _;rw [chainUp_enough w c (p + 1) p this (Nat.lt_succ_self _)]
 rfl
theorem ups_self (T : List Row) (c : Nat) : c ∈ ups T c := mem_cons_self ..
theorem ups_le {T : List Row} (w : Wf T) {c a : Nat} (h : a ∈ ups T c) : a <= c := chainUp_le w _ _ _ h
theorem mem_wk {T : List Row} (w : Wf T) : ∀ (f k c : Nat), k < T.length -> T.length <= k + f -> (c ∈ wk T f k ↔ c < T.length /\ k ∈ ups T c)
 | 0, k, c, h, h2 => absurd h (Nat.not_lt.2 h2)
 | f + 1, k, c, hk, hf => by
  show c ∈ k :: (kids T k).flatMap (wk T f) ↔ _;rw [List.mem_cons, List.mem_flatMap];constructor
  ·rintro (rfl | ⟨x, hx, hc⟩)
   ·exact ⟨hk, ups_self T _⟩
   ·have hw := w.kid k x hx;have := (mem_wk w f x c hw.1 (fuel hf hw.2.1)).1 hc;refine ⟨this.1, ?_⟩
    -- x is above c, k is above x
    have trans : ∀ n c, c <= n -> x ∈ ups T c -> k ∈ ups T c := by
     intro n
     induction n with
     | zero =>
      intro c hc hx';exact absurd (lt_of_lt_of_le hw.2.1 (le_trans (ups_le w hx') hc)) (Nat.not_lt_zero k)
     | succ n ih =>
      intro c hc hx';cases e : par T c with
      | none =>
       rw [ups_root e] at hx';have : x = c := List.mem_singleton.1 hx';subst this;rw [hw.2.2] at e; cases e
      | some p =>
       rw [ups_step w e] at hx' ⊢;rcases List.mem_cons.1 hx' with rfl | h
       ·rw [hw.2.2] at e; cases e;exact mem_cons_of_mem _ (ups_self T _)
       ·have := (w.par_lt e).1;exact mem_cons_of_mem _ (ih p (Nat.le_of_lt_succ (lt_of_lt_of_le this hc)) h)
    exact trans c c (Nat.le_refl _) this.2
  ·rintro ⟨hc, hu⟩
   -- go down from c to the kid of k
   have key : ∀ n c, c <= n -> c < T.length -> k ∈ ups T c -> c = k \/ ∃ x ∈ kids T k, x ∈ ups T c := by
    intro n
    induction n with
    | zero =>
     intro c hc _ hu;exact .inl ((Nat.le_zero.1 hc).trans (Nat.le_zero.1 (le_trans (ups_le w hu) hc)).symm)
    | succ n ih =>
     intro c hc hl hu;cases e : par T c with
     | none =>
      rw [ups_root e] at hu
      left
      have : k = c := List.mem_singleton.1 hu;exact this.symm
     | some p =>
      rw [ups_step w e] at hu;rcases List.mem_cons.1 hu with h | h
      ·left; exact h.symm
      ·have hp := w.par_lt e;rcases ih p (Nat.le_of_lt_succ (lt_of_lt_of_le hp.1 hc)) (Nat.lt_trans hp.1 hl) h with rfl | ⟨x, hx, hx'⟩
       ·exact .inr ⟨c, w.up c p e, ups_self T c⟩
       ·exact .inr ⟨x, hx, by rw [ups_step w e]; exact mem_cons_of_mem _ hx'⟩
   rcases key c c (Nat.le_refl _) hc hu with rfl | ⟨x, hx, hx'⟩
   ·exact .inl rfl
   ·have hw := w.kid k x hx;exact .inr ⟨x, hx, (mem_wk w f x c hw.1 (fuel hf hw.2.1)).2 ⟨hc, hx'⟩⟩
theorem ups_linear {T : List Row} (w : Wf T) : ∀ (n c a b : Nat), c <= n -> a ∈ ups T c -> b ∈ ups T c -> a ∈ ups T b \/ b ∈ ups T a := by
 intro n
 induction n with
 | zero =>
  intro c a b hc ha hb;have : a = b := (Nat.le_zero.1 (le_trans (ups_le w ha) hc)).trans (Nat.le_zero.1 (le_trans (ups_le w hb) hc)).symm;subst this;exact .inl (ups_self T a)
 | succ n ih =>
  intro c a b hc ha hb;cases e : par T c with
  | none =>
   rw [ups_root e] at ha hb;have h1 : a = c := List.mem_singleton.1 ha;have h2 : b = c := List.mem_singleton.1 hb;subst h1; subst h2;exact .inl (ups_self T _)
  | some p =>
   have hp := (w.par_lt e).1;have ha' := ha;have hb' := hb;rw [ups_step w e] at ha hb;rcases List.mem_cons.1 ha with rfl | ha <;> rcases List.mem_cons.1 hb with rfl | hb
   ·exact .inl (ups_self T _)
   ·exact .inr hb'
   ·exact .inl ha'
   ·exact ih p a b (Nat.le_of_lt_succ (lt_of_lt_of_le hp hc)) ha hb
def Apart (T : List Row) (xs : List Nat) : Prop := ∀ a ∈ xs, ∀ b ∈ xs, a ∈ ups T b -> a = b
theorem kids_apart {T : List Row} (w : Wf T) (k : Nat) : Apart T (kids T k) := fun a ha b hb h => by
 have h1 := w.kid k a ha;have h2 := w.kid k b hb;rw [ups_step w h2.2.2] at h;rcases List.mem_cons.1 h with h | h
 ·exact h
 ·exact absurd h1.2.1 (Nat.not_lt.2 (ups_le w h))
theorem nodup_flatMap_wk {T : List Row} (w : Wf T) (f : Nat) (hf : ∀ k, k < T.length -> T.length <= k + f -> (wk T f k).Nodup) : ∀ xs : List Nat, xs.Nodup -> Apart T xs -> (∀ x ∈ xs, x < T.length /\ T.length <= x + f) -> (xs.flatMap (wk T f)).Nodup
 | [], _, _, _ => List.nodup_nil
 | x :: xs, hn, ha, hx => by
  rw [List.flatMap_cons, List.nodup_append];have hn' := List.nodup_cons.1 hn;refine ⟨hf x (hx x (mem_cons_self ..)).1 (hx x (mem_cons_self ..)).2, nodup_flatMap_wk w f hf xs hn'.2 (fun a h1 b h2 => ha a (mem_cons_of_mem _ h1) b (mem_cons_of_mem _ h2)) (fun y hy => hx y (mem_cons_of_mem _ hy)), ?_⟩;intro c hc c' hc' e;subst e;obtain ⟨y, hy, hcy⟩ := List.mem_flatMap.1 hc';have h1 := (mem_wk w f x c (hx x (mem_cons_self ..)).1 (hx x (mem_cons_self ..)).2).1 hc;have h2 := (mem_wk w f y c (hx y (mem_cons_of_mem _ hy)).1 (hx y (mem_cons_of_mem _ hy)).2).1 hcy;have : x = y := by
   rcases ups_linear w c c x y (Nat.le_refl _) h1.2 h2.2 with h | h
   ·exact ha x (mem_cons_self ..) y (mem_cons_of_mem _ hy) h
   ·exact (ha y (mem_cons_of_mem _ hy) x (mem_cons_self ..) h).symm
  subst this;exact hn'.1 hy
theorem wk_nodup {T : List Row} (w : Wf T) : ∀ (f k : Nat), k < T.length -> T.length <= k + f -> (wk T f k).Nodup
 | 0, k, h, h2 => absurd h (Nat.not_lt.2 h2)
 | f + 1, k, hk, hf => by
  show (k :: (kids T k).flatMap (wk T f)).Nodup;rw [List.nodup_cons];refine ⟨fun h => ?_, ?_⟩
  ·obtain ⟨x, hx, hc⟩ := List.mem_flatMap.1 h;have hw := w.kid k x hx;have := (mem_wk w f x k hw.1 (fuel hf hw.2.1)).1 hc;exact absurd hw.2.1 (Nat.not_lt.2 (ups_le w this.2))
  ·exact nodup_flatMap_wk w f (fun k h1 h2 => wk_nodup w f k h1 h2) _ (w.nodup k) (kids_apart w k) fun x hx => by
    have hw := w.kid k x hx;exact ⟨hw.1, fuel hf hw.2.1⟩
def Closed (T : List Row) (met : List Nat) : Prop := ∀ m ∈ met, m < T.length /\ ∀ p, par T m = some p -> p ∈ met
theorem Closed.ups {T : List Row} (w : Wf T) {met : List Nat} (h : Closed T met) : ∀ n c a, c <= n -> c ∈ met -> a ∈ ups T c -> a ∈ met := by
 intro n
 induction n with
 | zero =>
  intro c a hc hm ha;have : a = c := (Nat.le_zero.1 (le_trans (ups_le w ha) hc)).trans (Nat.le_zero.1 hc).symm;subst this; exact hm
 | succ n ih =>
  intro c a hc hm ha;cases e : par T c with
  | none =>
   rw [ups_root e] at ha;have : a = c := List.mem_singleton.1 ha;subst this; exact hm
  | some p =>
   rw [ups_step w e] at ha;rcases List.mem_cons.1 ha with rfl | ha
   ·exact hm
   ·have := (w.par_lt e).1;exact ih p a (Nat.le_of_lt_succ (lt_of_lt_of_le this hc)) ((h c hm).2 p e) ha
noncomputable def dm (T : List Row) (met : List Nat) : Nat -> Nat -> List Nat
 | 0, _ => []
 | f + 1, k => k :: ((kids T k).filter (· ∈ met)).flatMap (dm T met f)
theorem filter_flatMap {α β : Type} (p : β -> Bool) (f : α -> List β) : ∀ xs : List α, (xs.flatMap f).filter p = xs.flatMap fun x => (f x).filter p
 | [] => rfl
 | x :: xs => by rw [List.flatMap_cons, List.flatMap_cons, List.filter_append, filter_flatMap p f xs]
theorem flatMap_filter_skip {α β : Type} (p : α -> Bool) (f : α -> List β) : ∀ xs : List α, (∀ x ∈ xs, p x = false -> f x = []) -> (xs.filter p).flatMap f = xs.flatMap f
 | [], _ => rfl
 | x :: xs, h => by
  have ih := flatMap_filter_skip p f xs fun y hy => h y (mem_cons_of_mem _ hy);cases e : p x with
  | true => rw [List.filter_cons_of_pos (by exact e), List.flatMap_cons, List.flatMap_cons, ih]
  | false => rw [List.filter_cons_of_neg (by rw [e]; exact Bool.false_ne_true), List.flatMap_cons, h x (mem_cons_self ..) e, ih]; rfl
theorem dm_enough {T : List Row} (w : Wf T) (met : List Nat) : ∀ (f g k : Nat), T.length <= k + f -> T.length <= k + g -> k < T.length -> dm T met f k = dm T met g k
 | 0, _, k, h, _, hk => absurd hk (Nat.not_lt.2 h)
 | _ + 1, 0, k, _, h, hk => absurd hk (Nat.not_lt.2 h)
 | f + 1, g + 1, k, h1, h2, hk => by
  show k :: _ = k :: _;congr 1
  refine flatMap_same fun c hc => ?_;have := w.kid k c (List.mem_filter.1 hc).1;exact dm_enough w met f g c (fuel h1 this.2.1) (fuel h2 this.2.1) this.1
theorem dm_wk {T : List Row} (w : Wf T) {met : List Nat} (cl : Closed T met) {wanted : Nat -> Bool} (hw : ∀ c, c < T.length -> wanted c = true -> c ∈ met) : ∀ f k, k < T.length -> T.length <= k + f -> (dm T met f k).filter wanted = (wk T f k).filter wanted
 | 0, k, hk, h => absurd hk (Nat.not_lt.2 h)
 | f + 1, k, hk, h => by
  show (k :: ((kids T k).filter (· ∈ met)).flatMap (dm T met f)).filter wanted = (k :: (kids T k).flatMap (wk T f)).filter wanted
  rw [List.filter_cons, List.filter_cons, filter_flatMap, filter_flatMap];have e : ((kids T k).filter (· ∈ met)).flatMap (fun x => (dm T met f x).filter wanted) = (kids T k).flatMap (fun x => (wk T f x).filter wanted) := by
   have e1 : ((kids T k).filter (· ∈ met)).flatMap (fun x => (dm T met f x).filter wanted) = ((kids T k).filter (· ∈ met)).flatMap (fun x => (wk T f x).filter wanted) := flatMap_same fun c hc => by
    have := w.kid k c (List.mem_filter.1 hc).1;exact dm_wk w cl hw f c this.1 (fuel h this.2.1)
   rw [e1];refine flatMap_filter_skip _ _ _ fun c hc hn => ?_;have hn' : c ∉ met := of_decide_eq_false hn;rw [List.filter_eq_nil_iff];intro x hx hwx;have hkid := w.kid k c hc;have := (mem_wk w f c x hkid.1 (fuel h hkid.2.1)).1 hx;exact hn' (cl.ups w x x c (Nat.le_refl _) (hw x this.1 hwx) this.2)
  rw [e]
noncomputable def rootsOf (T : List Row) : List Nat := (List.range T.length).filter fun k => (par T k).isNone
noncomputable def everyOf (T : List Row) : List Nat := (rootsOf T).flatMap (wk T T.length)
theorem mem_roots {T : List Row} {k : Nat} : k ∈ rootsOf T ↔ k < T.length /\ par T k = none := by
 unfold rootsOf;rw [List.mem_filter, List.mem_range]
 simp
theorem mem_every {T : List Row} (w : Wf T) {c : Nat} : c ∈ everyOf T ↔ c < T.length := by
 unfold everyOf;rw [List.mem_flatMap];constructor
 ·rintro ⟨r, hr, hc⟩;exact ((mem_wk w _ r c (mem_roots.1 hr).1 (Nat.le_add_left _ _)).1 hc).1
 ·intro hc;have key : ∀ n c, c <= n -> c < T.length -> ∃ r ∈ rootsOf T, r ∈ ups T c := by
   intro n
   induction n with
   | zero =>
    intro c hc hl;have : c = 0 := Nat.le_zero.1 hc;subst this;cases e : par T 0 with
    | none => exact ⟨0, mem_roots.2 ⟨hl, e⟩, ups_self T 0⟩
    | some p => exact absurd (w.par_lt e).1 (Nat.not_lt_zero p)
   | succ n ih =>
    intro c hc hl;cases e : par T c with
    | none => exact ⟨c, mem_roots.2 ⟨hl, e⟩, ups_self T c⟩
    | some p =>
     have hp := w.par_lt e;obtain ⟨r, h1, h2⟩ := ih p (Nat.le_of_lt_succ (lt_of_lt_of_le hp.1 hc)) (Nat.lt_trans hp.1 hl);exact ⟨r, h1, by rw [ups_step w e]; exact mem_cons_of_mem _ h2⟩
  obtain ⟨r, h1, h2⟩ := key c c (Nat.le_refl _) hc;exact ⟨r, h1, (mem_wk w _ r c (mem_roots.1 h1).1 (Nat.le_add_left _ _)).2 ⟨hc, h2⟩⟩
theorem roots_apart {T : List Row} : Apart T (rootsOf T) := fun a ha b hb h => by
 rw [ups_root (mem_roots.1 hb).2] at h;exact List.mem_singleton.1 h
theorem every_nodup {T : List Row} (w : Wf T) : (everyOf T).Nodup :=
 nodup_flatMap_wk w _ (fun k h1 h2 => wk_nodup w _ k h1 h2) _ (List.Pairwise.filter _ List.nodup_range) roots_apart fun x hx => ⟨(mem_roots.1 hx).1, Nat.le_add_left _ _⟩
theorem every_dm {T : List Row} (w : Wf T) {met : List Nat} (cl : Closed T met) {wanted : Nat -> Bool} (hw : ∀ c, c < T.length -> wanted c = true -> c ∈ met) :
  (((rootsOf T).filter (· ∈ met)).flatMap (dm T met T.length)).filter wanted = (everyOf T).filter wanted := by
 unfold everyOf;rw [filter_flatMap, filter_flatMap];have e1 : ((rootsOf T).filter (· ∈ met)).flatMap (fun x => (dm T met T.length x).filter wanted) = ((rootsOf T).filter (· ∈ met)).flatMap (fun x => (wk T T.length x).filter wanted) := flatMap_same fun c hc =>
  dm_wk w cl hw _ c (mem_roots.1 (List.mem_filter.1 hc).1).1 (Nat.le_add_left _ _)
 rw [e1];refine flatMap_filter_skip _ _ _ fun c hc hn => ?_;have hn' : c ∉ met := of_decide_eq_false hn;rw [List.filter_eq_nil_iff];intro x hx hwx;have := (mem_wk w _ c x (mem_roots.1 hc).1 (Nat.le_add_left _ _)).1 hx;exact hn' (cl.ups w x x c (Nat.le_refl _) (hw x this.1 hwx) this.2)
theorem insI_permP (x : Int) : ∀ l : List Int, (insI x l).Perm (x :: l)
 | [] => List.Perm.refl _
 | y :: r => by
  unfold insI;split
  ·exact List.Perm.refl _
  ·exact ((insI_permP x r).cons y).trans (List.Perm.swap x y r)
theorem insI_sortedP (x : Int) : ∀ l : List Int, l.Pairwise (· <= ·) -> (insI x l).Pairwise (· <= ·)
 | [], _ => List.pairwise_singleton _ _
 | y :: r, h => by
  unfold insI;have hp := List.pairwise_cons.1 h;split
  ·next hxy =>
   refine List.pairwise_cons.2 ⟨fun z hz => ?_, h⟩;rcases List.mem_cons.1 hz with rfl | hz
   ·exact Int.le_of_lt hxy
   ·exact Int.le_trans (Int.le_of_lt hxy) (hp.1 z hz)
  ·next hxy =>
   refine List.pairwise_cons.2 ⟨fun z hz => ?_, insI_sortedP x r hp.2⟩;rcases List.mem_cons.1 ((insI_permP x r).mem_iff.1 hz) with rfl | hz
   ·exact Int.not_lt.1 hxy
   ·exact hp.1 z hz
theorem sortI_goP : ∀ (l acc : List Int), acc.Pairwise (· <= ·) -> (l.foldl (fun acc x => insI x acc) acc).Perm (l ++ acc) /\ (l.foldl (fun acc x => insI x acc) acc).Pairwise (· <= ·)
 | [], acc, h => ⟨List.Perm.refl _, h⟩
 | x :: l, acc, h => by
  have := sortI_goP l (insI x acc) (insI_sortedP x acc h);refine ⟨this.1.trans ?_, this.2⟩;refine ((insI_permP x acc).append_left l).trans ?_;exact List.perm_middle
theorem sortI_is {l t : List Int} (h : t.Pairwise (· < ·)) (p : t.Perm l) : sortI l = t := by
 have := sortI_goP l [] List.Pairwise.nil;rw [List.append_nil] at this;refine List.Perm.eq_of_pairwise (le := (· <= ·)) (fun a b _ _ h1 h2 => Int.le_antisymm h1 h2) this.2 (h.imp fun h => Int.le_of_lt h) (this.1.trans p.symm)
theorem insK_permP (x : Int × Int) : ∀ l : List (Int × Int), (insK x l).Perm (x :: l)
 | [] => List.Perm.refl _
 | y :: r => by
  unfold insK;split
  ·exact List.Perm.refl _
  ·exact ((insK_permP x r).cons y).trans (List.Perm.swap x y r)
theorem insK_sortedP (x : Int × Int) : ∀ l : List (Int × Int), l.Pairwise (·.1 <= ·.1) -> (insK x l).Pairwise (·.1 <= ·.1)
 | [], _ => List.pairwise_singleton _ _
 | y :: r, h => by
  unfold insK;have hp := List.pairwise_cons.1 h;split
  ·next hxy =>
   refine List.pairwise_cons.2 ⟨fun z hz => ?_, h⟩;rcases List.mem_cons.1 hz with rfl | hz
   ·exact Int.le_of_lt hxy
   ·exact Int.le_trans (Int.le_of_lt hxy) (hp.1 z hz)
  ·next hxy =>
   refine List.pairwise_cons.2 ⟨fun z hz => ?_, insK_sortedP x r hp.2⟩;rcases List.mem_cons.1 ((insK_permP x r).mem_iff.1 hz) with rfl | hz
   ·exact Int.not_lt.1 hxy
   ·exact hp.1 z hz
theorem sortK_goP : ∀ (l acc : List (Int × Int)), acc.Pairwise (·.1 <= ·.1) -> (l.foldl (fun acc x => insK x acc) acc).Perm (l ++ acc) /\ (l.foldl (fun acc x => insK x acc) acc).Pairwise (·.1 <= ·.1)
 | [], acc, h => ⟨List.Perm.refl _, h⟩
 | x :: l, acc, h => by
  have := sortK_goP l (insK x acc) (insK_sortedP x acc h);refine ⟨this.1.trans ?_, this.2⟩;refine ((insK_permP x acc).append_left l).trans ?_;exact List.perm_middle
theorem sortK_is {l t : List (Int × Int)} (h : t.Pairwise (·.1 < ·.1)) (p : t.Perm l) : sortK l = t.map (·.2) := by
 have := sortK_goP l [] List.Pairwise.nil;rw [List.append_nil] at this;unfold sortK;congr 1
 -- equal keys within t are equal pairs
 have inj : ∀ t : List (Int × Int), t.Pairwise (·.1 < ·.1) -> ∀ a ∈ t, ∀ b ∈ t, a.1 = b.1 -> a = b := by
  intro t
  induction t with
  | nil => intro _ a ha; cases ha
  | cons x t ih =>
   intro h a ha b hb e;have hp := List.pairwise_cons.1 h;rcases List.mem_cons.1 ha with ea | ha' <;> rcases List.mem_cons.1 hb with eb | hb'
   ·rw [ea, eb]
   ·rw [ea] at e; exact absurd e (Int.ne_of_lt (hp.1 b hb'))
   ·rw [eb] at e; exact absurd e.symm (Int.ne_of_lt (hp.1 a ha'))
   ·exact ih hp.2 a ha' b hb' e
 refine List.Perm.eq_of_pairwise (le := fun a b => a.1 <= b.1) (fun a b ha hb h1 h2 => inj t h a ?_ b hb (Int.le_antisymm h1 h2)) this.2 (h.imp fun h => Int.le_of_lt h) (this.1.trans p.symm);exact p.mem_iff.2 (this.1.mem_iff.1 ha)
theorem idx_pairwise : ∀ {ks : List Nat}, ks.Nodup -> ks.Pairwise fun a b => ks.idxOf a < ks.idxOf b
 | [], _ => List.Pairwise.nil
 | x :: ks, h => by
  have hn := List.nodup_cons.1 h;refine List.pairwise_cons.2 ⟨fun b hb => ?_, ?_⟩
  ·have : ¬ x = b := fun e => hn.1 (e ▸ hb);have h3 : (x == b) = false := by simpa using this
   rw [List.idxOf_cons_self, List.idxOf_cons, h3];exact Nat.succ_pos _
  ·refine (idx_pairwise hn.2).imp_of_mem fun {a b} ha hb hab => ?_;have h1 : ¬ x = a := fun e => hn.1 (e ▸ ha);have h2 : ¬ x = b := fun e => hn.1 (e ▸ hb);have h3 : (x == a) = false := by simpa using h1
   have h4 : (x == b) = false := by simpa using h2
   rw [List.idxOf_cons, List.idxOf_cons, h3, h4];exact Nat.succ_lt_succ hab
theorem nodup_perm {a b : List Nat} (ha : a.Nodup) (hb : b.Nodup) (h : ∀ x, x ∈ a ↔ x ∈ b) : a.Perm b := (List.perm_ext_iff_of_nodup ha hb).2 h
noncomputable def pairOf (ks : List Nat) (n : Nat) : Int × Int := ((ks.idxOf n : Nat), (n : Nat))
theorem sort_by {ks some_ : List Nat} (hk : ks.Nodup) (hs : some_.Nodup) (hsub : ∀ x ∈ some_, x ∈ ks) : sortK (some_.map (pairOf ks)) = (ks.filter (· ∈ some_)).map fun n : Nat => (n : Int) := by
 have p : (ks.filter (· ∈ some_)).Perm some_ := nodup_perm (List.Pairwise.filter _ hk) hs fun x => by
  rw [List.mem_filter];constructor
  ·intro h; simpa using h.2
  ·intro h; exact ⟨hsub x h, by simpa using h⟩
 rw [sortK_is (t := (ks.filter (· ∈ some_)).map (pairOf ks)) ?_ (p.map _), List.map_map]
 ·rfl
 ·rw [List.pairwise_map];refine ((idx_pairwise hk).filter _).imp fun h => ?_;exact Int.ofNat_lt.2 h
theorem sort_roots {T : List Row} {xs : List Nat} (hx : xs.Nodup) (h : ∀ x ∈ xs, x ∈ rootsOf T) : sortI (xs.map fun n : Nat => (n : Int)) = ((rootsOf T).filter (· ∈ xs)).map fun n : Nat => (n : Int) := by
 have hr : (rootsOf T).Pairwise (· < ·) := List.Pairwise.filter _ List.pairwise_lt_range
 have p : ((rootsOf T).filter (· ∈ xs)).Perm xs := nodup_perm (List.Pairwise.filter _ (hr.imp fun h => Nat.ne_of_lt h)) hx fun x => by
  rw [List.mem_filter];constructor
  ·intro h; simpa using h.2
  ·intro hq; exact ⟨h x hq, by simpa using hq⟩
 refine sortI_is ?_ (p.map _);rw [List.pairwise_map];refine (hr.filter _).imp fun h => ?_;exact Int.ofNat_lt.2 h
theorem dm_step {T : List Row} (w : Wf T) (met : List Nat) {h : Nat} (hk : h < T.length) (R : List Nat) : (h :: R).flatMap (dm T met T.length) = h :: ((kids T h).filter (· ∈ met) ++ R).flatMap (dm T met T.length) := by
 obtain ⟨n, hn⟩ : ∃ n, T.length = n + 1 := ⟨T.length - 1, (Nat.sub_add_cancel (lt_of_le_of_lt (Nat.zero_le _) hk)).symm⟩;rw [List.flatMap_cons, List.flatMap_append];have : dm T met T.length h = h :: ((kids T h).filter (· ∈ met)).flatMap (dm T met T.length) := by
  have e : dm T met T.length h = h :: ((kids T h).filter (· ∈ met)).flatMap (dm T met n) := by rw [hn]; rfl
  rw [e];congr 1
  refine flatMap_same fun c hc => ?_;have := w.kid h c (List.mem_filter.1 hc).1;exact dm_enough w met n T.length c (by rw [hn, Nat.add_comm]; exact Nat.add_le_add_right (lt_of_le_of_lt (Nat.zero_le _) this.2.1) n) (Nat.le_add_left _ _) this.1
 rw [this]; rfl
noncomputable def keyO : Option Nat -> Key
 | none => .none
 | some n => .int n
theorem keyV_pV (p : Option Nat) : keyV (pV p) = some (keyO p) := by cases p <;> rfl
theorem keyO_inj {p q : Option Nat} (h : keyO p = keyO q) : p = q := by
 cases p <;> cases q
 ·rfl
 ·cases h
 ·cases h
 ·injection h with h
  rw [Int.ofNat_inj.1 h]
theorem keyIs_is {k j : Key} {v : V} (h : keyV v = some j) : keyIs k v = decide (j = k) := by unfold keyIs; rw [h]
theorem inD_cons {k j : Key} {a b : V} {es : List (V × V)} (h : keyV a = some j) : inD k ((a, b) :: es) = if j = k then some b else inD k es := by
 show (match keyIs k a with | true => some b | false => inD k es) = _
 rw [keyIs_is h];by_cases e : j = k
 ·rw [decide_eq_true e, if_pos e]
 ·rw [decide_eq_false e, if_neg e]
def KeysOk (es : List (V × V)) : Prop := ∀ p ∈ es, ∃ j, keyV p.1 = some j
theorem inD_putD {k q : Key} {a b : V} (ha : keyV a = some q) : ∀ {es : List (V × V)}, KeysOk es -> inD k (putD q a b es) = if k = q then some b else inD k es
 | [], _ => by
  unfold putD;rw [inD_cons ha];by_cases e : q = k
  ·rw [if_pos e, if_pos e.symm]
  ·rw [if_neg e, if_neg (fun z => e z.symm)]
 | (x, y) :: es, h => by
  obtain ⟨j, hj⟩ := h (x, y) (mem_cons_self ..);have ih := inD_putD (k := k) (q := q) (a := a) (b := b) ha (es := es) fun p hp => h p (mem_cons_of_mem _ hp);unfold putD;dsimp only at hj ⊢;rw [keyIs_is hj];by_cases e : j = q
  ·rw [decide_eq_true e];dsimp only;rw [inD_cons hj, inD_cons hj];subst e;by_cases e2 : j = k
   ·rw [if_pos e2, if_pos e2.symm]
   ·rw [if_neg e2, if_neg (fun z => e2 z.symm), if_neg e2]
  ·rw [decide_eq_false e];dsimp only;rw [inD_cons hj, inD_cons hj, ih];by_cases e2 : j = k
   ·rw [if_pos e2, if_pos e2];rw [if_neg (fun z => e (e2.trans z))]
   ·rw [if_neg e2, if_neg e2]
theorem keysOk_put {q : Key} {a b : V} (ha : keyV a = some q) : ∀ {es : List (V × V)}, KeysOk es -> KeysOk (putD q a b es)
 | [], _ => fun p hp => by
  unfold putD at hp;rcases List.mem_cons.1 hp with rfl | hp
  ·exact ⟨q, ha⟩
  ·cases hp
 | (x, y) :: es, h => fun p hp => by
  have ih := keysOk_put (b := b) ha (es := es) fun p hp => h p (mem_cons_of_mem _ hp);unfold putD at hp;dsimp only at hp;split at hp
  ·rcases List.mem_cons.1 hp with rfl | hp
   ·exact h (x, y) (mem_cons_self ..)
   ·exact h p (mem_cons_of_mem _ hp)
  ·rcases List.mem_cons.1 hp with rfl | hp
   ·exact h (x, y) (mem_cons_self ..)
   ·exact ih p hp
theorem putD_length_le {q : Key} {a b : V} : ∀ {es : List (V × V)}, (putD q a b es).length <= es.length + 1
 | [] => Nat.le_refl _
 | (x, y) :: es => by
  unfold putD;split
  ·exact Nat.le_succ _
  ·exact Nat.succ_le_succ putD_length_le
structure Fnd (H0 H : Hp) (T : List Row) (met : List Nat) (rF iF rM iM : Nat) (es mes : List (V × V)) (fa : Option Nat -> Nat × Nat) : Prop where
 ext : Ext H0 H
 gF : H.get rF iF = some (.dict es)
 gM : H.get rM iM = some (.dict mes)
 nF : H0.get rF iF = none
 nM : H0.get rM iM = none
 ne : ¬ (rF = rM /\ iF = iM)
 kF : KeysOk es
 kM : KeysOk mes
 lF : es.length <= met.length + 1
 lM : mes.length <= met.length
 mki : ∀ m : Nat, (inD (.int m) mes).isSome = decide (m ∈ met)
 one : (inD .none es).isSome = true
 has : ∀ p v, inD (keyO p) es = some v -> v = rf (fa p) /\ H.get (fa p).1 (fa p).2 = some (.list ((met.filter fun m => par T m = p).map nV)) /\ H0.get (fa p).1 (fa p).2 = none
 hasnt : ∀ p, inD (keyO p) es = none -> (met.filter fun m => par T m = p) = []
 inj : ∀ p q, (inD (keyO p) es).isSome = true -> (inD (keyO q) es).isSome = true -> fa p = fa q -> p = q
 nodup : met.Nodup
 lt : ∀ m ∈ met, m < T.length
section
variable {H0 H : Hp} {T : List Row} {met : List Nat} {rF iF rM iM : Nat} {es mes : List (V × V)} {fa : Option Nat -> Nat × Nat}
theorem filter_snoc (p : Nat -> Bool) (xs : List Nat) (k : Nat) : (xs ++ [k]).filter p = xs.filter p ++ if p k = true then [k] else [] := by
 rw [List.filter_append];congr 1
 cases e : p k <;> simp [e]
theorem nodup_snoc {xs : List Nat} {k : Nat} (h : xs.Nodup) (hk : k ∉ xs) : (xs ++ [k]).Nodup := by
 rw [List.nodup_append];refine ⟨h, List.pairwise_singleton _ _, fun a ha b hb e => ?_⟩;have : b = k := by simpa using hb
 subst this; subst e;exact hk ha
theorem Fnd.mark_old (F : Fnd H0 H T met rF iF rM iM es mes fa) {k : Nat} (hk : k ∉ met) (hl : k < T.length) {v : V} (hp : inD (keyO (par T k)) es = some v) :
  Fnd H0 (((H.upd rM iM (.dict (putD (.int k) (nV k) (.bool true) mes))).push (.list [])).upd (fa (par T k)).1 (fa (par T k)).2 (.list ((met.filter fun m => par T m = par T k).map nV ++ [nV k]))) T (met ++ [k]) rF iF rM iM es (putD (.int k) (nV k) (.bool true) mes) fa := by
 obtain ⟨-, gp, np⟩ := F.has _ _ hp;have neM : ¬ ((fa (par T k)).1 = rM /\ (fa (par T k)).2 = iM) := fun ⟨a, b⟩ => by rw [a, b, F.gM] at gp; cases gp
 have neF : ¬ (rF = (fa (par T k)).1 /\ iF = (fa (par T k)).2) := fun ⟨a, b⟩ => by rw [<- a, <- b, F.gF] at gp; cases gp
 have neM' : ¬ (rM = (fa (par T k)).1 /\ iM = (fa (par T k)).2) := fun ⟨a, b⟩ => neM ⟨a.symm, b.symm⟩;have top : ∀ {r i o}, H.get r i = some o -> ¬ (r = (H.upd rM iM (.dict (putD (.int k) (nV k) (.bool true) mes))).reg /\ i = (H.upd rM iM (.dict (putD (.int k) (nV k) (.bool true) mes))).nxt) := fun {r i o} g => by
  rw [Hp.upd_reg, Hp.upd_nxt]; exact F.ext.ok.old g
 have e1 := F.ext.upd (.dict (putD (.int k) (nV k) (.bool true) mes)) F.nM F.gM;have e2 := e1.push (.list []);have gp2 : ((H.upd rM iM (.dict (putD (.int k) (nV k) (.bool true) mes))).push (.list [])).get (fa (par T k)).1 (fa (par T k)).2 = some (.list ((met.filter fun m => par T m = par T k).map nV)) := by
  rw [Hp.get_push, if_neg (top gp), Hp.get_upd, if_neg neM]; exact gp
 refine ⟨e2.upd _ np gp2, ?_, ?_, F.nF, F.nM, F.ne, F.kF, keysOk_put rfl F.kM, ?_, ?_, fun m => ?_, F.one, fun p u hu => ?_, fun p hu => ?_, F.inj, nodup_snoc F.nodup hk, fun m hm => ?_⟩
 ·rw [Hp.get_upd, if_neg neF, Hp.get_push, if_neg (top F.gF), Hp.get_upd, if_neg F.ne]; exact F.gF
 ·rw [Hp.get_upd, if_neg neM', Hp.get_push, if_neg (top F.gM), Hp.get_upd, if_pos ⟨rfl, rfl⟩]
 ·rw [length_append]; exact Nat.le_succ_of_le F.lF
 ·rw [length_append]; exact le_trans putD_length_le (Nat.succ_le_succ F.lM)
 ·rw [inD_putD rfl F.kM];by_cases e : m = k
  ·subst e; simp
  ·rw [if_neg (fun z => e (by injection z with z; exact Int.ofNat.inj z)), F.mki m]
   simp [e]
 ·obtain ⟨a, b, c⟩ := F.has p u hu;refine ⟨a, ?_, c⟩;rw [Hp.get_upd, filter_snoc];by_cases e : p = par T k
  ·subst e;rw [if_pos ⟨rfl, rfl⟩, if_pos (by simp), List.map_append]; rfl
  ·have ne2 : ¬ ((fa p).1 = (fa (par T k)).1 /\ (fa p).2 = (fa (par T k)).2) := fun ⟨x, y⟩ => e (F.inj p (par T k) (by rw [hu]; rfl) (by rw [hp]; rfl) (Prod.ext x y))
   have neM2 : ¬ ((fa p).1 = rM /\ (fa p).2 = iM) := fun ⟨x, y⟩ => by rw [x, y, F.gM] at b; cases b
   rw [if_neg ne2, Hp.get_push, if_neg (top b), Hp.get_upd, if_neg neM2, b, if_neg (by simpa using fun z => e z.symm), List.append_nil]
 ·rw [filter_snoc, F.hasnt p hu];have : ¬ (par T k = p) := fun z => by subst z; rw [hp] at hu; cases hu
  rw [if_neg (by simpa using this)]; rfl
 ·rcases List.mem_append.1 hm with h | h
  ·exact F.lt m h
  ·have : m = k := by simpa using h
   subst this; exact hl
noncomputable def faPut (fa : Option Nat -> Nat × Nat) (p : Option Nat) (a : Nat × Nat) : Option Nat -> Nat × Nat := fun q => if q = p then a else fa q
theorem Fnd.mark_new (F : Fnd H0 H T met rF iF rM iM es mes fa) {k : Nat} (hk : k ∉ met) (hl : k < T.length) (hp : inD (keyO (par T k)) es = none) :
  Fnd H0 ((((H.upd rM iM (.dict (putD (.int k) (nV k) (.bool true) mes))).push (.list [])).upd rF iF (.dict (putD (keyO (par T k)) (pV (par T k)) (.ref H.reg H.nxt) es))).upd H.reg H.nxt (.list [nV k])) T (met ++ [k]) rF iF rM iM
   (putD (keyO (par T k)) (pV (par T k)) (.ref H.reg H.nxt) es) (putD (.int k) (nV k) (.bool true) mes) (faPut fa (par T k) (H.reg, H.nxt)) := by
 have hf := F.hasnt _ hp;have top' : ∀ {r i o}, H.get r i = some o -> ¬ (r = H.reg /\ i = H.nxt) := fun {r i o} g => F.ext.ok.old g;have n0 : H0.get H.reg H.nxt = none := F.ext.fresh;have neF : ¬ (rF = H.reg /\ iF = H.nxt) := top' F.gF;have neM : ¬ (rM = H.reg /\ iM = H.nxt) := top' F.gM;have neFM : ¬ (rM = rF /\ iM = iF) := fun ⟨a, b⟩ => F.ne ⟨a.symm, b.symm⟩;have neT : ¬ (H.reg = rF /\ H.nxt = iF) := fun ⟨a, b⟩ => neF ⟨a.symm, b.symm⟩;have e1 := F.ext.upd (.dict (putD (.int k) (nV k) (.bool true) mes)) F.nM F.gM;have e2 := e1.push (.list []);have gF2 : ((H.upd rM iM (.dict (putD (.int k) (nV k) (.bool true) mes))).push (.list [])).get rF iF = some (.dict es) := by
  rw [Hp.get_push, Hp.upd_reg, Hp.upd_nxt, if_neg neF, Hp.get_upd, if_neg F.ne]; exact F.gF
 have e3 := e2.upd (.dict (putD (keyO (par T k)) (pV (par T k)) (.ref H.reg H.nxt) es)) F.nF gF2;have gT : (((H.upd rM iM (.dict (putD (.int k) (nV k) (.bool true) mes))).push (.list [])).upd rF iF (.dict (putD (keyO (par T k)) (pV (par T k)) (.ref H.reg H.nxt) es))).get H.reg H.nxt = some (.list []) := by
  rw [Hp.get_upd, if_neg neT, Hp.get_push, Hp.upd_reg, Hp.upd_nxt, if_pos ⟨rfl, rfl⟩]
 have lk : ∀ p, inD (keyO p) (putD (keyO (par T k)) (pV (par T k)) (.ref H.reg H.nxt) es) = if p = par T k then some (.ref H.reg H.nxt) else inD (keyO p) es := fun p => by
  rw [inD_putD (keyV_pV _) F.kF];by_cases e : p = par T k
  ·rw [if_pos (by rw [e]), if_pos e]
  ·rw [if_neg (fun z => e (keyO_inj z)), if_neg e]
 refine ⟨e3.upd _ n0 gT, ?_, ?_, F.nF, F.nM, F.ne, keysOk_put (keyV_pV _) F.kF, keysOk_put rfl F.kM, ?_, ?_, fun m => ?_, ?_, fun p u hu => ?_, fun p hu => ?_, fun p q h1 h2 e => ?_, nodup_snoc F.nodup hk, fun m hm => ?_⟩
 ·rw [Hp.get_upd, if_neg neF, Hp.get_upd, if_pos ⟨rfl, rfl⟩]
 ·rw [Hp.get_upd, if_neg neM, Hp.get_upd, if_neg neFM, Hp.get_push, Hp.upd_reg, Hp.upd_nxt, if_neg neM, Hp.get_upd, if_pos ⟨rfl, rfl⟩]
 ·rw [length_append]; exact le_trans putD_length_le (Nat.succ_le_succ F.lF)
 ·rw [length_append]; exact le_trans putD_length_le (Nat.succ_le_succ F.lM)
 ·rw [inD_putD rfl F.kM];by_cases e : m = k
  ·subst e; simp
  ·rw [if_neg (fun z => e (by injection z with z; exact Int.ofNat.inj z)), F.mki m]
   simp [e]
 ·have := lk none;rw [show keyO none = Key.none from rfl] at this
  rw [this];split
  ·rfl
  ·exact F.one
 ·rw [lk p] at hu;by_cases e : p = par T k
  ·rw [if_pos e] at hu;cases hu;have e4 : faPut fa (par T k) (H.reg, H.nxt) p = (H.reg, H.nxt) := if_pos e;rw [e4];refine ⟨rfl, ?_, n0⟩;rw [Hp.get_upd, if_pos ⟨rfl, rfl⟩, filter_snoc, e, hf, if_pos (by simp)]
   rfl
  ·rw [if_neg e] at hu;have e4 : faPut fa (par T k) (H.reg, H.nxt) p = fa p := if_neg e;rw [e4];obtain ⟨a, b, c⟩ := F.has p u hu;refine ⟨a, ?_, c⟩;have neM2 : ¬ ((fa p).1 = rM /\ (fa p).2 = iM) := fun ⟨x, y⟩ => by rw [x, y, F.gM] at b; cases b
   have neF2 : ¬ ((fa p).1 = rF /\ (fa p).2 = iF) := fun ⟨x, y⟩ => by rw [x, y, F.gF] at b; cases b
   rw [Hp.get_upd, if_neg (top' b), Hp.get_upd, if_neg neF2, Hp.get_push, Hp.upd_reg, Hp.upd_nxt, if_neg (top' b), Hp.get_upd, if_neg neM2, b, filter_snoc, if_neg (by simpa using fun z => e z.symm), List.append_nil]
 ·rw [lk p] at hu;by_cases e : p = par T k
  ·rw [if_pos e] at hu; cases hu
  ·rw [if_neg e] at hu;rw [filter_snoc, F.hasnt p hu, if_neg (by simpa using fun z => e z.symm)]; rfl
 ·rw [lk] at h1 h2;by_cases a : p = par T k <;> by_cases b : q = par T k
  ·rw [a, b]
  ·exfalso;rw [if_neg b] at h2;obtain ⟨u, hu⟩ := Option.isSome_iff_exists.1 h2;have x1 : faPut fa (par T k) (H.reg, H.nxt) p = (H.reg, H.nxt) := if_pos a;have x2 : faPut fa (par T k) (H.reg, H.nxt) q = fa q := if_neg b;rw [x1, x2] at e;refine top' (F.has q u hu).2.1 ⟨?_, ?_⟩ <;> rw [<- e]
  ·exfalso;rw [if_neg a] at h1;obtain ⟨u, hu⟩ := Option.isSome_iff_exists.1 h1;have x1 : faPut fa (par T k) (H.reg, H.nxt) q = (H.reg, H.nxt) := if_pos b;have x2 : faPut fa (par T k) (H.reg, H.nxt) p = fa p := if_neg a;rw [x1, x2] at e;refine top' (F.has p u hu).2.1 ⟨?_, ?_⟩ <;> rw [e]
  ·rw [if_neg a] at h1;rw [if_neg b] at h2;have x1 : faPut fa (par T k) (H.reg, H.nxt) p = fa p := if_neg a;have x2 : faPut fa (par T k) (H.reg, H.nxt) q = fa q := if_neg b;rw [x1, x2] at e;exact F.inj p q h1 h2 e
 ·rcases List.mem_append.1 hm with h | h
  ·exact F.lt m h
  ·have : m = k := by simpa using h
   subst this; exact hl
theorem Fnd.start (hk : Hok H) (T : List Row) : Fnd H ((((H.push (.list [])).push (.dict [(.none, .ref H.reg H.nxt)])).push (.dict [])).push (.tup [.ref H.reg (H.nxt + 1), .ref H.reg (H.nxt + 2)])) T [] H.reg (H.nxt + 1) H.reg (H.nxt + 2) [(.none, .ref H.reg H.nxt)] [] (fun _ => (H.reg, H.nxt)) where
 ext := ((((Ext.refl hk).push _).push _).push _).push _
 gF := by simp [Hp.get_push, Hp.push_reg, Hp.push_nxt, Nat.add_assoc]
 gM := by simp [Hp.get_push, Hp.push_reg, Hp.push_nxt, Nat.add_assoc]
 nF := hk.fresh _ (Nat.le_succ _)
 nM := hk.fresh _ (Nat.le_add_right _ 2)
 ne := fun z => absurd z.2 (Nat.ne_of_lt (Nat.lt_succ_self _))
 kF := fun p hp => by
  have : p = (V.none, V.ref H.reg H.nxt) := by simpa using hp
  subst this; exact ⟨_, rfl⟩
 kM := fun p hp => by cases hp
 lF := by simp
 lM := by simp
 mki := fun m => by simp [inD]
 one := rfl
 has := fun p v hv => by
  have e := inD_cons (k := keyO p) (j := .none) (a := .none) (b := .ref H.reg H.nxt) (es := []) rfl;rw [e] at hv;by_cases z : Key.none = keyO p
  ·rw [if_pos z] at hv;cases hv;refine ⟨rfl, ?_, hk.new⟩;simp [Hp.get_push, Hp.push_reg, Hp.push_nxt, Nat.add_assoc]
  ·rw [if_neg z] at hv; cases hv
 hasnt := fun p _ => rfl
 inj := fun p q h1 h2 _ => by
  have key : ∀ p, (inD (keyO p) [(V.none, V.ref H.reg H.nxt)]).isSome = true -> p = none := fun p h => by
   have e := inD_cons (k := keyO p) (j := .none) (a := .none) (b := .ref H.reg H.nxt) (es := []) rfl;rw [e] at h;by_cases z : Key.none = keyO p
   ·exact (keyO_inj (p := none) z).symm
   ·rw [if_neg z] at h; cases h
  rw [key p h1, key q h2]
 nodup := List.nodup_nil
 lt := fun m hm => by cases hm
end
def ClosedBut (T : List Row) (met : List Nat) (h : Option Nat) : Prop := ∀ m ∈ met, m < T.length /\ ∀ p, par T m = some p -> p ∈ met \/ h = some p
theorem nodup_len : ∀ (n : Nat) (xs : List Nat), xs.Nodup -> (∀ x ∈ xs, x < n) -> xs.length <= n
 | 0, [], _, _ => Nat.le_refl _
 | 0, x :: xs, _, h => absurd (h x (mem_cons_self ..)) (Nat.not_lt_zero x)
 | n + 1, xs, hn, h => by
  have h1 := nodup_len n (xs.filter (· ≠ n)) (List.Pairwise.filter _ hn) fun x hx => by
   have := List.mem_filter.1 hx;have h2 := h x this.1;exact Nat.lt_of_le_of_ne (Nat.le_of_lt_succ h2) (of_decide_eq_true this.2)
  have key : ∀ xs : List Nat, xs.Nodup -> xs.length <= (xs.filter (· ≠ n)).length + 1 := by
   intro xs
   induction xs with
   | nil => intro _; simp
   | cons x xs ih =>
    intro hn;have hp := List.nodup_cons.1 hn;by_cases e : x = n
    ·subst e;have : xs.filter (· ≠ x) = xs := List.filter_eq_self.2 fun y hy => by
      have : y ≠ x := fun z => hp.1 (z ▸ hy);simpa using this
     rw [List.filter_cons_of_neg (by simp), this, List.length_cons]; exact Nat.le_refl _
    ·have := ih hp.2;rw [List.filter_cons_of_pos (by simpa using e), List.length_cons, List.length_cons]; exact Nat.succ_le_succ this
  exact le_trans (key xs hn) (Nat.succ_le_succ h1)
noncomputable def mOf : Option Nat -> Nat
 | none => 0
 | some k => k + 1

theorem isSome_ex {α : Type} {o : Option α} (h : o.isSome = true) : ∃ v, o = some v := Option.isSome_iff_exists.1 h
theorem isSome_no {α : Type} {o : Option α} (h : o.isSome = false) : o = none := Option.isNone_iff_eq_none.1 (by cases o <;> first | rfl | cases h)
theorem ClosedBut.up {T : List Row} {met : List Nat} {j : Nat} (cl : ClosedBut T met (some j)) (hj : j < T.length) : ClosedBut T (met ++ [j]) (par T j) := fun m hm => by
 rcases List.mem_append.1 hm with h | h
 ·refine ⟨(cl m h).1, fun p hp => ?_⟩;rcases (cl m h).2 p hp with h2 | h2
  ·exact .inl (List.mem_append_left _ h2)
  ·cases h2; exact .inl (List.mem_append_right _ (List.mem_singleton.2 rfl))
 ·cases List.mem_singleton.1 h;exact ⟨hj, fun p hp => .inr hp⟩
theorem ClosedBut.done {T : List Row} {met : List Nat} {h : Option Nat} (cl : ClosedBut T met h) (hm : ∀ k, h = some k -> k ∈ met) : Closed T met := fun m hm2 => ⟨(cl m hm2).1, fun p hp => ((cl m hm2).2 p hp).elim id fun z => hm p z⟩
section
variable {B : Bs} (K : BOk B) {H : Hp} {ad : Role -> Nat × Nat} {T : List Row} {d : Nat}
section
variable (H ad) (r i : Nat)
noncomputable def mE0 : En := loE 180 [(sO "tree", rf (ad .tree)), (sO "nodes", .ref r i), (sO "met", .ref H.reg (H.nxt + 2)), (sO "found", .ref H.reg (H.nxt + 1))]
noncomputable def mE1 (k : Nat) (h : Option Nat) : En := loE 180 [(sO "tree", rf (ad .tree)), (sO "nodes", .ref r i), (sO "met", .ref H.reg (H.nxt + 2)), (sO "found", .ref H.reg (H.nxt + 1)), (sO "node", nV k), (sO "here", pV h)]
end
def MJ (H : Hp) (ad : Role -> Nat × Nat) (T : List Row) (r i : Nat) (met : List Nat) (k n : Nat) (e : En) (H' : Hp) : Prop := ∃ (met' : List Nat) (es mes : List (V × V)) (fa : Option Nat -> Nat × Nat) (h : Option Nat), Fnd H H' T met' H.reg (H.nxt + 1) H.reg (H.nxt + 2) es mes fa /\ ClosedBut T met' h /\ n = mOf h /\ (∀ k, h = some k -> k < T.length) /\ (∀ m ∈ met, m ∈ met') /\ (k ∈ met' \/ h = some k) /\ e = mE1 H ad r i k h
def MQ (H : Hp) (ad : Role -> Nat × Nat) (T : List Row) (r i : Nat) (met : List Nat) (k : Nat) (e : En) (H' : Hp) : Prop := ∃ (met' : List Nat) (es mes : List (V × V)) (fa : Option Nat -> Nat × Nat) (h : Option Nat), Fnd H H' T met' H.reg (H.nxt + 1) H.reg (H.nxt + 2) es mes fa /\ Closed T met' /\ (∀ m ∈ met, m ∈ met') /\ k ∈ met' /\ e = mE1 H ad r i k h
theorem MJ.next {met met' : List Nat} {r i k j : Nat} {H4 : Hp} {es' mes' : List (V × V)} {fa' : Option Nat -> Nat × Nat} (w : Wf T) (hj : j < T.length) (cl : ClosedBut T met' (some j)) (sub : ∀ m ∈ met, m ∈ met') (kin : k ∈ met' \/ some j = some k) (F : Fnd H H4 T (met' ++ [j]) H.reg (H.nxt + 1) H.reg (H.nxt + 2) es' mes' fa') :
  ∃ n', n' < mOf (some j) /\ MJ H ad T r i met k n' (mE1 H ad r i k (par T j)) H4 := by
 refine ⟨mOf (par T j), ?_, met' ++ [j], es', mes', fa', par T j, F, cl.up hj, rfl, fun p hp => ?_, fun m hm => List.mem_append_left _ (sub m hm), ?_, rfl⟩
 ·cases e : par T j with
  | none => exact Nat.succ_pos _
  | some p => exact Nat.succ_lt_succ (w.par_lt e).1
 ·exact Nat.lt_trans (w.par_lt hp).1 hj
 ·rcases kin with h | h
  ·exact .inl (List.mem_append_left _ h)
  ·cases h; exact .inl (List.mem_append_right _ (List.mem_singleton.2 rfl))
noncomputable def mNs : List Str := [sO "tree", sO "nodes", sO "met", sO "found", sO "node", sO "here"]
noncomputable abbrev mFor : Stmt := stAt (bodyOf 180) 1
noncomputable abbrev mWh : Stmt := stAt (forB mFor) 1
include K
theorem m_turn (hk : Hok H) (t : TreeL H ad T) (w : Wf T) {r i k : Nat} {met : List Nat} (n : Nat) (e : En) (H' : Hp) (hJ : MJ H ad T r i met k n e H') :
  (∃ e' H2, WTurnJ B (d + 3) e H' (whT mWh) (whB mWh) (false, .next, e', H2) /\ MQ H ad T r i met k e' H2) \/ ∃ f e' H2, WTurnJ B (d + 3) e H' (whT mWh) (whB mWh) (true, f, e', H2) /\ (f = .next \/ f = .cont) /\ ∃ n', n' < n /\ MJ H ad T r i met k n' e' H2 := by
 obtain ⟨met', es, mes, fa, h, F, cl, rfl, hl, sub, kin, rfl⟩ := hJ;have gM := F.gM;have gF := F.gF;cases h with
 | none =>
  refine .inl ⟨_, H', ?_, met', es, mes, fa, none, F, cl.done nofun, sub, kin.resolve_right nofun, rfl⟩
  exact wTurnJ_of K mNs [] (by kernel_rfl)
 | some j =>
  have hj := hl j rfl;by_cases hjm : j ∈ met'
  ·obtain ⟨v, ev⟩ := isSome_ex ((F.mki j).trans (decide_eq_true hjm));refine .inl ⟨_, H', ?_, met', es, mes, fa, some j, F, cl.done fun k z => by cases z; exact hjm, sub, kin.elim id fun z => by cases z; exact hjm, rfl⟩
   exact wTurnJ_of K mNs [.o gM, .c, .ov ev] (by kernel_rfl)
  ·have e1 := isSome_no ((F.mki j).trans (decide_eq_false hjm));have hlen := nodup_len _ _ F.nodup F.lt;have few := t.few;have hm1 : mes.length < limN := lt_of_le_of_lt (le_trans F.lM (le_trans hlen few)) (by decide)
   have hm2 : es.length < limN := lt_of_le_of_lt (le_trans F.lF (Nat.succ_le_succ (le_trans hlen few))) (by decide)
   have hm3 : ((met'.filter fun m => par T m = par T j).map nV).length < limN := by rw [length_map]; exact lt_of_le_of_lt (le_trans (List.length_filter_le ..) (le_trans hlen few)) (by decide)
   have r0 := hk.pos;obtain ⟨row, hrow⟩ : ∃ r, T[j]? = some r := ⟨_, List.getElem?_eq_getElem hj⟩;have hpar : par T j = row.parent := by unfold par; rw [hrow]; rfl
   have eA := F.ext.upd (.dict (putD (.int j) (nV j) (.bool true) mes)) F.nM gM;have gA : (H'.upd H.reg (H.nxt + 2) (.dict (putD (.int j) (nV j) (.bool true) mes))).get H.reg (H.nxt + 1) = some (.dict es) := by rw [Hp.get_upd, if_neg fun z => absurd (Nat.add_left_cancel z.2) (by decide)]; exact gF
   have gN : ∀ {r i o}, H'.get r i = some o -> ¬ (r = H.reg /\ i = H.nxt + 2) -> (H'.upd H.reg (H.nxt + 2) (.dict (putD (.int j) (nV j) (.bool true) mes))).get r i = some o := fun g n => by rw [Hp.get_upd, if_neg n]; exact g
   have MO := fun v => F.mark_old (v := v) hjm hj;have MN := F.mark_new hjm hj;obtain ⟨b1, t1, eH⟩ := upd_mk H' H.reg (H.nxt + 2) (.dict (putD (.int j) (nV j) (.bool true) mes));rw [eH] at eA gA gN MO MN;have sp := t_parent K (t.ext eA) hrow (d := d + 1);rw [<- hpar] at sp;have gt := (t.ext eA).get .tree _ rfl;have gB := get_push_old eA.ok (.list []) gA;have kv := keyV_pV (par T j);cases e : inD (keyO (par T j)) es with
   | some v =>
    have M := MO v e;obtain ⟨ev, gp, np⟩ := F.has _ _ e;subst ev;have gpB := get_push_old eA.ok (.list []) (gN gp fun ⟨a, b⟩ => by rw [a, b, gM] at gp; cases gp)
    have rp := (eA.push (.list [])).own np gpB;refine .inr ⟨.next, _, _, ?_, .inl rfl, MJ.next w hj cl sub kin M⟩;exact wTurnJ_of K mNs [.o gM, .c, .ov e1, .o gM, .y hm1, .c, .y r0, .h eH, .o gt, .vh sp, .o gA, .c, .c, .o gB, .y hm2, .k kv, .ov e, .o gpB, .o gpB, .y hm3, .y rp, .c] (by kernel_rfl)
   | none =>
    have M := MN e;have gT : (((⟨b1, H'.reg, t1, H'.nxt⟩ : Hp).push (.list [])).upd H.reg (H.nxt + 1) (.dict (putD (keyO (par T j)) (pV (par T j)) (.ref H'.reg H'.nxt) es))).get H'.reg H'.nxt = some (.list []) := by
     rw [Hp.get_upd, if_neg (fun ⟨a, b⟩ => F.ext.ok.old gF ⟨a.symm, b.symm⟩)]; exact get_push_new _ _
    have r1 := F.ext.ok.pos;refine .inr ⟨.next, _, _, ?_, .inl rfl, MJ.next w hj cl sub kin M⟩;exact wTurnJ_of K mNs [.o gM, .c, .ov e1, .o gM, .y hm1, .c, .y r0, .h eH, .o gt, .vh sp, .o gA, .c, .c, .o gB, .y hm2, .k kv, .ov e, .y r0, .c, .o gT, .o gT, .c, .y r1, .c] (by kernel_rfl)
theorem l_marked (hk : Hok H) (t : TreeL H ad T) (w : Wf T) {r i : Nat} {ws : List (V × V)} {nodes : List Nat} (g : H.get r i = some (.dict ws)) (hw : ws.map (·.1) = nodes.map nV) (hn : ∀ m ∈ nodes, m < T.length) :
  ∃ H' met es mes fa, FnJ B (d + 4) 180 [rf (ad .tree), .ref r i] H (.ref H.reg (H.nxt + 1), H') /\ Fnd H H' T met H.reg (H.nxt + 1) H.reg (H.nxt + 2) es mes fa /\ Closed T met /\ ∀ m ∈ nodes, m ∈ met := by
 refine Classical.byContradiction fun nogo => ?_;have F0 := Fnd.start hk T;have o4 := F0.ext.keep _ _ _ g;have hT := get_push_new (((H.push (.list [])).push (.dict [(.none, .ref H.reg H.nxt)])).push (.dict [])) (.tup [.ref H.reg (H.nxt + 1), .ref H.reg (H.nxt + 2)]);obtain ⟨e', H', s, he, met, es, mes, fa, vn, F, cl, hv, hn1, -⟩ := fo_keys K (d := d + 3) (t := forT mFor) (b := forB mFor) (r := r) (i := i) (es := ws)
  (J := fun vs e H' => e = mE0 H ad r i /\ ∃ (met : List Nat) (es mes : List (V × V)) (fa : Option Nat -> Nat × Nat) (vn : List Nat), Fnd H H' T met H.reg (H.nxt + 1) H.reg (H.nxt + 2) es mes fa /\ Closed T met /\ vs = vn.map nV /\ (∀ m ∈ nodes, m ∈ met \/ m ∈ vn) /\ (∀ m ∈ vn, m < T.length))
  (fun vs e H' h => by obtain ⟨-, met, es, mes, fa, vn, F, -⟩ := h; exact F.ext.keep _ _ _ g)
  (fun e H' v vs h => by
   obtain ⟨rfl, met, es, mes, fa, vn, F, cl, hv, hn1, hn2⟩ := h;cases vn with
   | nil => cases hv
   | cons k vn =>
    injection hv with hv1 hv2
    subst hv1 hv2;obtain ⟨e2, H2, s, met', es', mes', fa', h, F', cl', sub, kin, rfl⟩ := wh_inv (m_turn K hk t w (d := d)) (k + 1) (mE1 H ad r i k (some k)) H' ⟨met, es, mes, fa, some k, F, fun m hm => ⟨(cl m hm).1, fun p hp => .inl ((cl m hm).2 p hp)⟩, rfl, fun j hj => by cases hj; exact hn2 k (mem_cons_self ..), fun m hm => hm, .inr rfl, rfl⟩
    refine ⟨.next, _, H2, ?_, .inl rfl, rfl, met', es', mes', fa', vn, F', cl', rfl, fun m hm => ?_, fun m hm => hn2 m (mem_cons_of_mem _ hm)⟩
    ·exact turnJ_of K [sO "tree", sO "nodes", sO "met", sO "found"] [.wh s] (by kernel_rfl)
    ·rcases hn1 m hm with h | h
     ·exact .inl (sub m h)
     ·rcases List.mem_cons.1 h with rfl | h
      ·exact .inl kin
      ·exact .inr h)
  ⟨rfl, [], _, _, _, nodes, F0, nofun, hw, fun m hm => .inr hm, hn⟩
 subst he;cases vn with
 | cons k vn => cases hv
 | nil =>
  refine nogo ⟨H', met, es, mes, fa, ?_, F, cl, fun m hm => (hn1 m hm).resolve_right nofun⟩
  exact fnJ_of K rfl [.c, .c, .c, .c, .c, .c, .o hT, .o o4, .fo s] (by kernel_rfl)
end
theorem short_sub {ks ns : List Nat} (hk : ks.Nodup) (hn : ns.Nodup) (hs : ∀ x ∈ ns, x ∈ ks) (hl : ns.length < 2) : ks.filter (· ∈ ns) = ns := by
 have p : (ks.filter (· ∈ ns)).Perm ns := nodup_perm (List.Pairwise.filter _ hk) hn fun x => by
  rw [List.mem_filter];constructor
  ·intro h; simpa using h.2
  ·intro h; exact ⟨hs x h, by simpa using h⟩
 match ns, hl with
 | [], _ => exact List.perm_nil.1 p
 | [x], _ => exact List.perm_singleton.1 p
theorem nodup_sub {ns ks : List Nat} (hn : ns.Nodup) (hs : ∀ x ∈ ns, x ∈ ks) : ns.length <= ks.length := by
 induction ns generalizing ks with
 | nil => exact Nat.zero_le _
 | cons x ns ih =>
  have hp := List.nodup_cons.1 hn;have hx := hs x (mem_cons_self ..);have := ih hp.2 (ks := ks.erase x) fun y hy => by
   have hne : y ≠ x := fun e => hp.1 (e ▸ hy);exact (List.mem_erase_of_ne hne).2 (hs y (mem_cons_of_mem _ hy))
  rw [List.length_erase_of_mem hx] at this;exact (Nat.le_sub_iff_add_le (List.length_pos_of_mem hx)).1 this
theorem ints_map : ∀ ns : List Nat, intsOf (ns.map nV) = some (ns.map fun n : Nat => (n : Int))
 | [] => rfl
 | n :: ns => by
  show (intsOf (ns.map nV)).map _ = _;rw [ints_map ns]; rfl
theorem keys_map {es : List (V × V)} {f : Nat -> Nat} : ∀ {ns : List Nat}, (∀ m ∈ ns, inD (.int m) es = some (nV (f m))) -> keysIn es (ns.map fun n : Nat => (n : Int)) = some (ns.map fun n => (f n : Int))
 | [], _ => rfl
 | n :: ns, h => by
  have h1 := h n (mem_cons_self ..);have h2 := keys_map (ns := ns) fun m hm => h m (mem_cons_of_mem _ hm);show (match inD (.int (n : Int)) es with | some (.int k) => (keysIn es (ns.map fun n : Nat => (n : Int))).map (k :: ·) | _ => none) = _
  rw [h1, h2]; rfl
theorem nodup_keys {ks ns : List Nat} (hk : ks.Nodup) (hn : ns.Nodup) (hs : ∀ x ∈ ns, x ∈ ks) : (ns.map fun n => (ks.idxOf n : Int)).Nodup := by
 have key : ∀ ns : List Nat, ns.Nodup -> (∀ x ∈ ns, x ∈ ks) -> (ns.map fun n => (ks.idxOf n : Int)).Nodup := by
  intro ns
  induction ns with
  | nil => intro _ _; exact List.nodup_nil
  | cons x ns ih =>
   intro hn hs;have hp := List.nodup_cons.1 hn;rw [List.map_cons, List.nodup_cons];refine ⟨fun h => ?_, ih hp.2 fun y hy => hs y (mem_cons_of_mem _ hy)⟩;obtain ⟨y, hy, e⟩ := List.mem_map.1 h;have e2 : ks.idxOf y = ks.idxOf x := Int.ofNat.inj e;have h1 := List.getElem_idxOf (List.idxOf_lt_length_iff.2 (hs y (mem_cons_of_mem _ hy)));have h2 := List.getElem_idxOf (List.idxOf_lt_length_iff.2 (hs x (mem_cons_self ..)));have : y = x := h1.symm.trans (by simp only [e2]; exact h2)
   exact hp.1 (this ▸ hy)
 exact key ns hn hs

theorem Made.setn {H H' : Hp} {os : List O} (m : Made H H' os) (k : Nat) (o : O) (hk : k < os.length) : ∃ b t n, H'.upd H.reg (H.nxt + k) o = ⟨b, H.reg, t, n⟩ /\ Made H ⟨b, H.reg, t, n⟩ (os.set k o) :=
 let ⟨b, t, h⟩ := m.set k o hk
 ⟨b, t, _, h⟩
noncomputable def compS : Expr -> Scope
 | .ListComp _ _ s _ => s
 | .DictComp _ _ _ s _ => s
 | _ => ⟨.function, [], false, false, []⟩
noncomputable def coE (a : Nat) (x : Expr) : En := ⟨[], [], compNames (loE a []) (compS x), (fnOf a).qual ++ ".<locals>."⟩
noncomputable def keyL : Stmt -> Expr
 | .Return (some (.Call _ _ (k :: _) _)) _ => k.value
 | _ => .Constant .none 0 ⟨0, 0, 0, 0⟩
noncomputable def lamC (a : Nat) (cl : List (Str × Nat × Nat)) : Expr -> Clo
 | .Lambda args b scope _ => ⟨"<lambda>", (fnOf a).qual ++ ".<locals>." ++ "<lambda>", args.args.map (·.arg), args, .expr b, scope, cl⟩
 | _ => ⟨"", "", [], (match (fnOf a).body with | _ => ⟨[], [], none, [], [], none, []⟩), .stmts [], ⟨.function, [], false, false, []⟩, []⟩
section
variable {B : Bs} {d : Nat} {e : En} {elt : Expr ⊕ (Expr × Expr)} {g : Comprehension} {ra ia : Nat} {J : Nat -> Hp -> Prop}
theorem co_enm (hg : ∃ ts n pos, g.target = .Tuple ts n pos) {r i : Nat} {xs : List V} (hS : ∀ k H, J k H -> H.get r i = some (.list xs)) (st : ∀ H k v, xs[k]? = some v -> J k H -> ∃ H', CTurnJ B d e (H.push (.tup [.int k, v])) elt g (.ref H.reg H.nxt) ra ia (e, H') /\ J (k + 1) H') :
  ∀ m k H, k + m = xs.length -> J k H -> ∃ H', CoJ B d e H elt g (.enm r i k) ra ia (e, H') /\ J xs.length H'
 | 0, k, H, hm, hj => ⟨H, coJ_end (next_enm0 (hS k H hj) (List.getElem?_eq_none (le_of_eq hm.symm))), by rw [<- hm]; exact hj⟩
 | m + 1, k, H, hm, hj => by
  have hk : k < xs.length := by rw [<- hm]; exact Nat.lt_add_of_pos_right (Nat.zero_lt_succ m)
  obtain ⟨H1, k1, k2⟩ := st H k _ (List.getElem?_eq_getElem hk) hj;obtain ⟨H2, k3, k4⟩ := co_enm hg hS st m (k + 1) H1 (by rw [<- hm, Nat.add_assoc, Nat.add_comm 1 m]) k2
  obtain ⟨ts, n, pos, h⟩ := hg;exact ⟨H2, coJ_step (by rw [h]; exact next_enm1 (hS k H hj) (List.getElem?_eq_getElem hk)) k1 k3, k4⟩
end
noncomputable abbrev bX : Expr := asV (stAt (bodyOf 185) 2)
section
variable {B : Bs} (K : BOk B) {H : Hp} {ad : Role -> Nat × Nat} {T : List Row} {d : Nat}
include K
theorem l_beneath (hk : Hok H) (t : TreeL H ad T) (w : Wf T) {p : Nat} {r : Row} (hr : T[p]? = some r) (hc : (kids T p).length <= 50) {rs is_ : Nat} {ns : List Nat} (g : H.get rs is_ = some (.list (ns.map nV))) (hn : ns.Nodup) (hs : ∀ x ∈ ns, x ∈ kids T p) :
  ∃ r' i' H', FnJ B (d + 4) 185 [rf (ad .tree), nV p, .ref rs is_] H (.ref r' i', H') /\ Ext H H' /\ H'.get r' i' = some (.list (((kids T p).filter (· ∈ ns)).map nV)) := by
 have hlen : ns.length <= 50 := le_trans (nodup_sub hn hs) hc;have hl1 : (ns.map nV).length <= limN := by rw [length_map]; exact le_trans hlen (by decide)
 have m1 : Made H _ [.cell none] := (Made.start hk).push (.cell none);have gs1 := m1.ext.keep _ _ _ g;by_cases h : ns.length < 2
 ·have h2 : ((ns.map nV).length : Int) < 2 := by rw [length_map]; exact Int.ofNat_lt.2 h
  refine ⟨rs, is_, H.push (.cell none), ?_, m1.ext, ?_⟩
  ·exact fnJ_of K rfl [.c, .o gs1, .y hl1, .y h2] (by kernel_rfl)
  ·rw [gs1, short_sub (w.nodup p) hn hs h]
 ·have h2 : ¬ ((ns.map nV).length : Int) < 2 := by rw [length_map]; exact fun z => h (Int.ofNat_lt.1 z)
  have hkids : kids T p = r.nss ++ r.ats ++ r.ch := by unfold kids; rw [hr]
  have hKV : (kids T p).map nV = r.nss.map nV ++ r.ats.map nV ++ r.ch.map nV := by rw [hkids, List.map_append, List.map_append]
  have hk1 : r.nss.length + r.ats.length + r.ch.length <= 50 := by rw [hkids, length_append, length_append] at hc; exact hc
  have hs1 : r.nss.length + r.ats.length <= 50 := le_trans (Nat.le_add_right _ _) hk1;have s1 := t_namespaces K (t.ext m1.ext) hr (le_trans (le_trans (Nat.le_add_right _ _) hs1) (by decide)) (d := d + 1)
  have g1 := (t.ext m1.ext).get .tree _ rfl;have m2 := m1.push (.list (r.nss.map nV));have s2 := t_attributes K (t.ext m2.ext) hr (le_trans (le_trans (Nat.le_add_left _ _) hs1) (by decide)) (d := d + 1)
  have g2 := (t.ext m2.ext).get .tree _ rfl;have m3 := m2.push (.list (r.ats.map nV));have q1 := m3.got 1 _ rfl;have q2 := m3.got 2 _ rfl;have l1 : (r.nss.map nV ++ r.ats.map nV).length <= limN := by rw [length_append, length_map, length_map]; exact le_trans hs1 (by decide)
  have m4 := m3.push (.list (r.nss.map nV ++ r.ats.map nV));have s3 := t_children K (t.ext m4.ext) hr (le_trans (le_trans (Nat.le_add_left _ _) hk1) (by decide)) (d := d + 1)
  have g3 := (t.ext m4.ext).get .tree _ rfl;have m5 := m4.push (.list (r.ch.map nV));have q3 := m5.got 3 _ rfl;have q4 := m5.got 4 _ rfl;have l2 : (r.nss.map nV ++ r.ats.map nV ++ r.ch.map nV).length <= limN := by rw [<- hKV, length_map]; exact le_trans hc (by decide)
  have m6 := m5.push (.list (r.nss.map nV ++ r.ats.map nV ++ r.ch.map nV));have q5 := m6.got 5 _ rfl;have m7 := m6.push (.dict []);have hx : ((kids T p).map nV).length = (kids T p).length := length_map ..;obtain ⟨H', s4, os, es, M, x6, x7, x8⟩ := co_enm (B := B) ⟨_, _, _, rfl⟩ (d := d + 3) (e := coE 185 bX) (elt := compElt bX) (ra := H.reg) (ia := H.nxt + 6) (r := H.reg) (i := H.nxt + 5) (xs := (kids T p).map nV) (g := compG bX)
   (J := fun k H' => ∃ os es, Made H H' ([.cell none, .list (r.nss.map nV), .list (r.ats.map nV), .list (r.nss.map nV ++ r.ats.map nV), .list (r.ch.map nV), .list ((kids T p).map nV), .dict es] ++ os) /\ KeysOk es /\ es.length <= k /\ ∀ m ∈ (kids T p).take k, inD (.int m) es = some (nV ((kids T p).idxOf m)))
   (fun k H' h => by obtain ⟨os, es, M, -⟩ := h; exact M.got 5 _ rfl) (fun H' k v hv h => by
    obtain ⟨os, es, M, x6, x7, x8⟩ := h;rw [List.getElem?_map] at hv;obtain ⟨kk, hkk, rfl⟩ := mpd hv;have hkl : k < (kids T p).length := (List.getElem?_eq_some_iff.1 hkk).1;have M2 := M.push (.tup [.int k, nV kk]);rw [List.append_assoc] at M2;have f1 := get_push_new H' (.tup [.int k, nV kk]);have f2 := M2.got 6 _ rfl;have r0 := hk.pos;have hl5 : es.length < limN := lt_of_le_of_lt (le_trans x7 (le_trans (Nat.le_of_lt hkl) hc)) (by decide)
    obtain ⟨b1, t1, e1, M3⟩ := M2.set 6 (.dict (putD (.int kk) (nV kk) (.int k) es)) (lt_of_lt_of_le (show 6 < 7 by decide) (by rw [length_append]; exact Nat.le_add_right 7 _))
    refine ⟨_, ?_, _, _, M3, keysOk_put rfl x6, ?_, ?_⟩
    ·exact cTurnJ_of K [.o f1, .o f2, .y hl5, .c, .y r0, .h e1] (by kernel_rfl)
    ·exact le_trans (putD_length_le (q := .int kk) (a := nV kk) (b := .int k) (es := es)) (Nat.succ_le_succ x7)
    ·intro m hm;rw [inD_putD rfl x6];by_cases e : m = kk
     ·rw [e, if_pos rfl];obtain ⟨h1, h2⟩ := List.getElem?_eq_some_iff.1 hkk;rw [<- h2, (w.nodup p).idxOf_getElem k h1]
     ·rw [if_neg (fun z => e (by injection z with z; exact Int.ofNat.inj z))]
      refine x8 m ?_;rw [List.take_add_one, hkk] at hm;rcases List.mem_append.1 hm with h | h
      ·exact h
      ·exact absurd (List.mem_singleton.1 h) e) (kids T p).length 0 _ (by rw [hx, Nat.zero_add]) ⟨[], [], by rw [hKV]; exact m7, fun _ h => absurd h List.not_mem_nil, Nat.le_refl _, fun _ h => absurd h List.not_mem_nil⟩
  rw [hx, List.take_of_length_le (Nat.le_refl _)] at x8;have x8' : ∀ m ∈ ns, inD (.int m) es = some (nV ((kids T p).idxOf m)) := fun m hm => x8 m (hs m hm);have c0 := M.got 0 _ rfl;have r0 := hk.pos;obtain ⟨b2, t2, n2, e2, M4⟩ := M.setn 0 (.cell (some (.ref H.reg (H.nxt + 6)))) (lt_of_lt_of_le (show 0 < 7 by decide) (by rw [length_append]; exact Nat.le_add_right 7 _))
  have M5 := M4.push (.clo (lamC 185 [(sO "known", H.reg, H.nxt)] (keyL (stAt (bodyOf 185) 3))));have y0 := M5.got 0 _ rfl;have y6 := M5.got 6 _ rfl;have yg := M5.ext.keep _ _ _ g;have i1 := ints_map ns;have i2 := keys_map x8';have i3 : (ns.map fun n => ((kids T p).idxOf n : Int)).Nodup /\ (ns.map nV).length < 64 := ⟨nodup_keys (w.nodup p) hn hs, by rw [length_map]; exact lt_of_le_of_lt hlen (by decide)⟩
  have i4 : sortK ((ns.map fun n => ((kids T p).idxOf n : Int)).zip (ns.map fun n : Nat => (n : Int))) = ((kids T p).filter (· ∈ ns)).map fun n : Nat => (n : Int) := by
   rw [List.zip_map']; exact sort_by (w.nodup p) hn hs
  have w : FnJ B (d + 4) 185 [rf (ad .tree), nV p, .ref rs is_] H (.ref H.reg (n2 + 1), (Hp.push ⟨b2, H.reg, t2, n2⟩ (.clo (lamC 185 [(sO "known", H.reg, H.nxt)] (keyL (stAt (bodyOf 185) 3))))).push (.list ((sortK ((ns.map fun n => ((kids T p).idxOf n : Int)).zip (ns.map fun n : Nat => (n : Int)))).map .int))) := by
   exact fnJ_of K rfl [.c, .o gs1, .y hl1, .n h2, .o g1, .vh s1, .o g2, .vh s2, .o q1, .o q2, .y l1, .c, .o g3, .vh s3, .o q3, .o q4, .y l2, .c, .o q5, .c, .co s4, .o c0, .y r0, .h e2, .c, .o y0, .o y6, .o yg, .is i1, .is i2, .y i3, .c] (by kernel_rfl)
  refine ⟨_, _, _, w, M5.ext.push _, ?_⟩;rw [i4, List.map_map];exact get_push_new _ _
end
theorem keys_put {k : Nat} {b : V} : ∀ {es : List (V × V)} {kn : List Nat}, es.map (·.1) = kn.map nV -> (putD (.int k) (nV k) b es).map (·.1) = (if k ∈ kn then kn else kn ++ [k]).map nV
 | [], kn, h => by
  have : kn = [] := List.map_eq_nil_iff.1 h.symm;subst this
  rfl
 | (x, y) :: es, kn, h => by
  cases kn with
  | nil => cases h
  | cons j kn =>
   injection h with h1 h2
   dsimp only at h1;subst h1;have ih := keys_put (k := k) (b := b) h2;unfold putD;have e : keyIs (.int k) (nV j) = decide (j = k) := by
    rw [keyIs_is (j := .int j) rfl];by_cases e : j = k
    ·subst e; simp
    ·rw [decide_eq_false e, decide_eq_false (fun z => e (by injection z with z; exact Int.ofNat.inj z))]
   dsimp only;rw [e];by_cases e : j = k
   ·subst e;rw [decide_eq_true rfl, if_pos (mem_cons_self ..)];dsimp only;rw [List.map_cons, List.map_cons, h2]
   ·rw [decide_eq_false e];dsimp only;rw [List.map_cons, ih];by_cases m : k ∈ kn
    ·rw [if_pos m, if_pos (mem_cons_of_mem _ m)]; rfl
    ·rw [if_neg m, if_neg (fun z => (List.mem_cons.1 z).elim (fun z => e z.symm) m)]; rfl
theorem dm_in {T : List Row} {met : List Nat} : ∀ (f k : Nat), k ∈ met -> ∀ x ∈ dm T met f k, x ∈ met
 | 0, _, _, _, h => by cases h
 | f + 1, k, hk, x, h => by
  rcases List.mem_cons.1 h with rfl | h
  ·exact hk
  ·obtain ⟨c, hc, hx⟩ := List.mem_flatMap.1 h;exact dm_in f c (by simpa using (List.mem_filter.1 hc).2) x hx
theorem flat_len {T : List Row} {met : List Nat} {n : Nat} : ∀ P : List Nat, P.length <= (P.flatMap (dm T met (n + 1))).length
 | [] => Nat.le_refl _
 | p :: P => by
  rw [List.flatMap_cons, length_append, List.length_cons];have := flat_len (T := T) (met := met) (n := n) P;have h1 : 1 <= (dm T met (n + 1) p).length := Nat.succ_le_succ (Nat.zero_le _);exact le_trans (le_of_eq (Nat.add_comm _ _)) (Nat.add_le_add h1 this)
theorem start_len {T : List Row} (w : Wf T) {met : List Nat} (cl : Closed T met) : (((rootsOf T).filter (· ∈ met)).flatMap (dm T met T.length)).length <= T.length := by
 have h := every_dm w cl (wanted := fun c => decide (c ∈ met)) fun c _ hc => of_decide_eq_true hc;have e : (((rootsOf T).filter (· ∈ met)).flatMap (dm T met T.length)).filter (fun c => decide (c ∈ met)) = ((rootsOf T).filter (· ∈ met)).flatMap (dm T met T.length) := List.filter_eq_self.2 fun x hx => by
  obtain ⟨c, hc, hx'⟩ := List.mem_flatMap.1 hx;exact decide_eq_true (dm_in _ c (by simpa using (List.mem_filter.1 hc).2) x hx')
 rw [e] at h;rw [h];refine le_trans (List.length_filter_le _ _) (nodup_len _ _ (every_nodup w) fun x hx => (mem_every w).1 hx)

noncomputable abbrev iX : Expr := asV (stAt (bodyOf 190) 0)
noncomputable abbrev iW : Stmt := stAt (bodyOf 190) 3
structure WD (nodes : List Nat) (es : List (V × V)) (kn : List Nat) : Prop where
 ks : KeysOk es
 names : es.map (·.1) = kn.map nV
 mem : ∀ m, m ∈ kn ↔ m ∈ nodes
 has : ∀ m : Nat, (inD (.int m) es).isSome = decide (m ∈ nodes)
section
variable {B : Bs} (K : BOk B) {H : Hp} {ad : Role -> Nat × Nat} {T : List Row} {d : Nat}
include K
theorem i_wanted (hk : Hok H) {r i : Nat} {nodes : List Nat} (g : H.get r i = some (.list (nodes.map nV))) (hl : nodes.length <= 1000) :
  ∃ H' es kn, CoJ B (d + 1) (coE 190 iX) (H.push (.dict [])) (compElt iX) (compG iX) (.lst r i 0) H.reg H.nxt (coE 190 iX, H') /\ Ext H H' /\ H'.get H.reg H.nxt = some (.dict es) /\ WD nodes es kn := by
 have m1 := (Ext.refl hk).push (.dict []);obtain ⟨H', s, x1, pre, vn, es, kn, x2, x3, x4, x6, x5⟩ := co_list (B := B) (d := d + 1) (e := coE 190 iX) (elt := compElt iX) (g := compG iX) (ra := H.reg) (ia := H.nxt) (r := r) (i := i) (xs := nodes.map nV)
  (J := fun vs H' => Ext H H' /\ ∃ (pre vn : List Nat) (es : List (V × V)) (kn : List Nat), nodes = pre ++ vn /\ vs = vn.map nV /\ H'.get H.reg H.nxt = some (.dict es) /\ es.length <= pre.length /\ WD pre es kn)
  (fun vs H' h => h.1.keep _ _ _ g) (fun H' v vs h => by
   obtain ⟨x1, pre, vn, es, kn, x2, x3, x4, x6, x5⟩ := h;cases vn with
   | nil => cases x3
   | cons k vn =>
    injection x3 with x31 x32
    subst x31 x32;have r0 := x1.own hk.new x4;have hlen : es.length < limN := by
     have : nodes.length = pre.length + (vn.length + 1) := by rw [x2, length_append]; rfl
     exact lt_of_lt_of_le (Nat.lt_succ_of_le (le_trans x6 (le_trans (by rw [this]; exact Nat.le_add_right _ _) hl))) (by decide)
    refine ⟨_, ?_, x1.upd (.dict (putD (.int k) (nV k) (.bool true) es)) hk.new x4, pre ++ [k], vn, _, if k ∈ kn then kn else kn ++ [k], by rw [x2, List.append_assoc]; rfl, rfl, by rw [Hp.get_upd, if_pos ⟨rfl, rfl⟩], ?_, keysOk_put rfl x5.ks, keys_put x5.names, fun m => ?_, fun m => ?_⟩
    ·exact cTurnJ_of K [.o x4, .y hlen, .c, .y r0, .c] (by kernel_rfl)
    ·rw [length_append];exact le_trans (putD_length_le (q := .int k) (a := nV k) (b := .bool true) (es := es)) (Nat.succ_le_succ x6)
    ·rw [List.mem_append, List.mem_singleton];by_cases h : k ∈ kn
     ·rw [if_pos h, x5.mem];exact ⟨.inl, fun z => z.elim id fun z => z ▸ (x5.mem k).1 h⟩
     ·rw [if_neg h, List.mem_append, x5.mem, List.mem_singleton]
    ·rw [inD_putD rfl x5.ks];by_cases e : m = k
     ·subst e; rw [if_pos rfl]; exact (decide_eq_true (List.mem_append_right _ (List.mem_singleton.2 rfl))).symm
     ·rw [if_neg (fun z => e (by injection z with z; exact Int.ofNat.inj z)), x5.has m]
      exact decide_eq_decide.2 ⟨fun z => List.mem_append_left _ z, fun z => (List.mem_append.1 z).elim id fun z => absurd (List.mem_singleton.1 z) e⟩)
  ⟨m1, [], nodes, [], [], rfl, rfl, get_push_new _ _, Nat.le_refl _, fun _ h => absurd h List.not_mem_nil, rfl, fun m => Iff.rfl, fun m => rfl⟩
 cases vn with
 | cons k vn => cases x3
 | nil =>
  rw [List.append_nil] at x2;subst x2;exact ⟨H', es, kn, s, x1, x4, x5⟩
structure IC (H : Hp) (T : List Row) (nodes met : List Nat) (ws es : List (V × V)) (fa : Option Nat -> Nat × Nat) (H5 : Hp) (rw iw rF iF r3 i3 rl il : Nat) : Prop where
 w5 : H5.get rw iw = some (.dict ws)
 f5 : H5.get rF iF = some (.dict es)
 g3 : H5.get r3 i3 = some (.list [])
 nl : H5.get rl il = none
 n3 : H.get r3 i3 = none
 nl0 : H.get rl il = none
 has : ∀ p v, inD (keyO p) es = some v -> v = rf (fa p) /\ H5.get (fa p).1 (fa p).2 = some (.list ((met.filter fun m => par T m = p).map nV)) /\ ¬ ((fa p).1 = r3 /\ (fa p).2 = i3)
 hasnt : ∀ p, inD (keyO p) es = none -> (met.filter fun m => par T m = p) = []
 nd : met.Nodup
 wd : ∀ m : Nat, (inD (.int m) ws).isSome = decide (m ∈ nodes)
section
variable (ad : Role -> Nat × Nat) (r i rw iw rF iF r3 i3 rl il : Nat)
noncomputable def iE : En := loE 190 [(sO "tree", rf (ad .tree)), (sO "nodes", .ref r i), (sO "wanted", .ref rw iw), (sO "found", .ref r3 i3), (sO "lines", .ref rF iF), (sO "left", .ref rl il)]
end
def IJ (H : Hp) (T : List Row) (nodes met : List Nat) (H5 : Hp) (r3 i3 rl il : Nat) (E : En) (n : Nat) (e : En) (H' : Hp) : Prop := e = E /\ ∃ P done : List Nat, Ext H H' /\ (∀ r' i' o, ¬ (r' = r3 /\ i' = i3) -> H5.get r' i' = some o -> H'.get r' i' = some o) /\ H'.get rl il = some (.list (P.map nV).reverse) /\ H'.get r3 i3 = some (.list (done.map nV)) /\
    n = (P.flatMap (dm T met T.length)).length /\ done ++ (P.flatMap (dm T met T.length)).filter (· ∈ nodes) = (everyOf T).filter (· ∈ nodes) /\ (∀ m ∈ P, m < T.length /\ m ∈ met) /\ n <= 50
def IQ (H : Hp) (T : List Row) (nodes : List Nat) (r3 i3 : Nat) (E : En) (e : En) (H' : Hp) : Prop := e = E /\ Ext H H' /\ H'.get r3 i3 = some (.list (((everyOf T).filter (· ∈ nodes)).map nV))
noncomputable def iNs : List Str := [sO "tree", sO "nodes", sO "wanted", sO "found", sO "lines", sO "left"]
theorem i_turn (t : TreeL H ad T) (w : Wf T) (hc : ∀ p, (kids T p).length <= 50) (hT : T.length <= 50) {r i : Nat} {nodes met : List Nat} {ws es : List (V × V)} {fa : Option Nat -> Nat × Nat} {H5 : Hp} {rw_ iw rF iF r3 i3 rl il : Nat} (C : IC H T nodes met ws es fa H5 rw_ iw rF iF r3 i3 rl il)
  (n : Nat) (e : En) (H' : Hp) (hJ : IJ H T nodes met H5 r3 i3 rl il (iE ad r i rw_ iw rF iF r3 i3 rl il) n e H') :
  (∃ e' H2, WTurnJ B (d + 5) e H' (whT iW) (whB iW) (false, .next, e', H2) /\ IQ H T nodes r3 i3 (iE ad r i rw_ iw rF iF r3 i3 rl il) e' H2) \/ ∃ f e' H2, WTurnJ B (d + 5) e H' (whT iW) (whB iW) (true, f, e', H2) /\ (f = .next \/ f = .cont) /\ ∃ n', n' < n /\ IJ H T nodes met H5 r3 i3 rl il (iE ad r i rw_ iw rF iF r3 i3 rl il) n' e' H2 := by
 obtain ⟨rfl, P, done, j1, j2, j3, j4, rfl, j6, j7, j8⟩ := hJ;have xA := j1.push (.list []);have gA := get_push_old j1.ok (.list []) j3;have gA4 := get_push_old j1.ok (.list []) j4;have gE := get_push_new H' (.list []);have hA : ∀ r' i' o, ¬ (r' = r3 /\ i' = i3) -> H5.get r' i' = some o -> (H'.push (.list [])).get r' i' = some o := fun r' i' o a b => get_push_old j1.ok _ (j2 r' i' o a b);cases P with
 | nil =>
  have c1 : eqL ([].map nV).reverse [] = some true := rfl;refine .inl ⟨_, H'.push (.list []), ?_, rfl, xA, ?_⟩
  ·exact wTurnJ_of K iNs [.c, .c, .o gA, .o gE, .c, .bo c1] (by kernel_rfl)
  ·rw [gA4, <- j6]; exact congrArg (fun x => some (O.list (List.map nV x))) (List.append_nil _).symm
 | cons h P =>
  have hh := j7 h (mem_cons_self ..);rw [List.map_cons, List.reverse_cons] at gA;have c1 : ((P.map nV).reverse ++ [nV h]).length ≠ ([] : List V).length := by rw [length_append]; exact Nat.succ_ne_zero _
  have hPl : P.length + 1 <= 50 := by
   obtain ⟨n1, hn1⟩ : ∃ n, T.length = n + 1 := ⟨T.length - 1, (Nat.sub_add_cancel (lt_of_le_of_lt (Nat.zero_le _) hh.1)).symm⟩;have := flat_len (T := T) (met := met) (n := n1) (h :: P);rw [<- hn1] at this;exact le_trans this j8
  have c2 : ((P.map nV).reverse ++ [nV h]).length <= limN := by rw [length_append, List.length_reverse, length_map]; exact le_trans hPl (by decide)
  have c3 : ((P.map nV).reverse ++ [nV h]).getLast? = some (nV h) := List.getLast?_concat;have xB := xA.upd (.list ((P.map nV).reverse ++ [nV h]).dropLast) C.nl0 gA;have r0 := xA.own C.nl0 gA;have kB : ∀ r' i' o, ¬ (r' = r3 /\ i' = i3) -> H5.get r' i' = some o -> ((H'.push (.list [])).upd rl il (.list ((P.map nV).reverse ++ [nV h]).dropLast)).get r' i' = some o := fun r' i' o a b => by
   rw [Hp.get_upd, if_neg (Ext.ne (H' := H) b C.nl)]; exact hA r' i' o a b
  have gB : ((H'.push (.list [])).upd rl il (.list ((P.map nV).reverse ++ [nV h]).dropLast)).get rl il = some (.list (P.map nV).reverse) := by rw [Hp.get_upd, if_pos ⟨rfl, rfl⟩, List.dropLast_concat]
  have gB3 : ((H'.push (.list [])).upd rl il (.list ((P.map nV).reverse ++ [nV h]).dropLast)).get r3 i3 = some (.list (done.map nV)) := by
   rw [Hp.get_upd, if_neg (Ext.ne (H' := H) C.g3 C.nl)]; exact gA4
  obtain ⟨bB, tB, eB⟩ := upd_mk (H'.push (.list [])) rl il (.list ((P.map nV).reverse ++ [nV h]).dropLast);rw [eB] at xB kB gB gB3;have wB := kB _ _ _ (fun ⟨a, b⟩ => by have z := C.w5; rw [a, b, C.g3] at z; cases z) C.w5
  have hdl : (done.map nV).length < limN := by
   rw [length_map];have e1 : done.length <= ((everyOf T).filter (· ∈ nodes)).length := by rw [<- j6, length_append]; exact Nat.le_add_right _ _
   have e2 := List.length_filter_le (fun x => decide (x ∈ nodes)) (everyOf T);have e3 := nodup_len _ _ (every_nodup w) fun x hx => (mem_every w).1 hx;exact lt_of_le_of_lt (le_trans e1 (le_trans e2 (le_trans e3 hT))) (by decide)
  rw [List.flatMap_cons, <- List.flatMap_cons (f := dm T met T.length), dm_step w met hh.1] at j6;have r03 := xB.own C.n3 gB3;obtain ⟨bC, tC, done', hin, xC, kC, gC, gC3, hC6⟩ : ∃ (bC : Nat -> Nat -> Option O) (tC : Mine.T) (done' : List Nat), ((h ∈ nodes /\ Hp.upd ⟨bB, H'.reg, tB, H'.nxt + 1⟩ r3 i3 (.list (done.map nV ++ [nV h])) = ⟨bC, H'.reg, tC, H'.nxt + 1⟩) \/ (h ∉ nodes /\ bB = bC /\ tB = tC)) /\ Ext H ⟨bC, H'.reg, tC, H'.nxt + 1⟩ /\
    (∀ r' i' o, ¬ (r' = r3 /\ i' = i3) -> H5.get r' i' = some o -> Hp.get ⟨bC, H'.reg, tC, H'.nxt + 1⟩ r' i' = some o) /\ Hp.get ⟨bC, H'.reg, tC, H'.nxt + 1⟩ rl il = some (.list (P.map nV).reverse) /\ Hp.get ⟨bC, H'.reg, tC, H'.nxt + 1⟩ r3 i3 = some (.list (done'.map nV)) /\
    done' ++ ((((kids T h).filter (· ∈ met)) ++ P).flatMap (dm T met T.length)).filter (· ∈ nodes) = (everyOf T).filter (· ∈ nodes) := by
   by_cases hw : h ∈ nodes
   ·obtain ⟨bC, tC, eC⟩ := upd_mk ⟨bB, H'.reg, tB, H'.nxt + 1⟩ r3 i3 (.list (done.map nV ++ [nV h]));rw [List.filter_cons_of_pos (p := fun x => decide (x ∈ nodes)) (decide_eq_true hw)] at j6;refine ⟨bC, tC, done ++ [h], .inl ⟨hw, eC⟩, ?_, fun r' i' o a b => ?_, ?_, ?_, ?_⟩
    ·exact eC ▸ xB.upd _ C.n3 gB3
    ·refine Eq.trans (congrArg (fun H => Hp.get H r' i') eC.symm) ?_;rw [Hp.get_upd, if_neg a]; exact kB r' i' o a b
    ·refine Eq.trans (congrArg (fun H => Hp.get H rl il) eC.symm) ?_;rw [Hp.get_upd, if_neg (fun ⟨a, b⟩ => by have z := C.nl; rw [a, b, C.g3] at z; cases z)]; exact gB
    ·refine Eq.trans (congrArg (fun H => Hp.get H r3 i3) eC.symm) ?_;rw [Hp.get_upd, if_pos ⟨rfl, rfl⟩, List.map_append]; rfl
    ·rw [<- j6, List.append_assoc]; rfl
   ·rw [List.filter_cons_of_neg (p := fun x => decide (x ∈ nodes)) (by rw [decide_eq_false hw]; exact Bool.false_ne_true)] at j6
    exact ⟨bB, tB, done, .inr ⟨hw, rfl, rfl⟩, xB, kB, gB, gB3, j6⟩
  have ne3 : ∀ {r' i' : Nat} {es : List (V × V)}, H5.get r' i' = some (.dict es) -> ¬ (r' = r3 /\ i' = i3) := fun q => fun ⟨a, b⟩ => by rw [a, b, C.g3] at q; cases q
  have gCF := kC _ _ _ (ne3 C.f5) C.f5;have gDF := get_push_old xC.ok (.list []) gCF;have gD := get_push_old xC.ok (.list []) gC;have gD3 := get_push_old xC.ok (.list []) gC3;have xD := xC.push (.list []);obtain ⟨rs, is_, hrs, gN⟩ : ∃ rs is_, ((inD (.int h) es = none /\ H'.reg = rs /\ H'.nxt + 1 = is_) \/ inD (.int h) es = some (.ref rs is_)) /\ (Hp.push ⟨bC, H'.reg, tC, H'.nxt + 1⟩ (.list [])).get rs is_ = some (.list ((met.filter fun m => par T m = some h).map nV)) := by
   cases e : inD (.int h) es with
   | none =>
    refine ⟨H'.reg, H'.nxt + 1, .inl ⟨rfl, rfl, rfl⟩, ?_⟩;rw [C.hasnt (some h) e];exact get_push_new _ _
   | some v =>
    obtain ⟨ev, gv, nv⟩ := C.has (some h) v e;subst ev;exact ⟨_, _, .inr rfl, get_push_old xC.ok _ (kC _ _ _ nv gv)⟩
  obtain ⟨row, hrow⟩ : ∃ r, T[h]? = some r := ⟨_, List.getElem?_eq_getElem hh.1⟩;obtain ⟨rk, ik, HE, s3, xE, gk⟩ := l_beneath K xD.ok (t.ext xD) w hrow (hc h) gN (List.Pairwise.filter _ C.nd) (fun x hx => w.up x h (of_decide_eq_true (List.mem_filter.1 hx).2)) (d := d + 1);have gt := (t.ext xD).get .tree _ rfl;have efk : (kids T h).filter (· ∈ met.filter (fun m => par T m = some h)) = (kids T h).filter (· ∈ met) := List.filter_congr fun x hx => by
   have := (w.kid h x hx).2.2;simp [List.mem_filter, this]
  rw [efk] at gk;have hkl : ((kids T h).filter (· ∈ met)).length <= 50 := le_trans (List.length_filter_le _ _) (hc h)
  have hk1 : (((kids T h).filter (· ∈ met)).map nV).length <= limN := by rw [length_map]; exact le_trans hkl (by decide)
  have hk2 : (((kids T h).filter (· ∈ met)).map nV).reverse.length <= limN := by rw [List.length_reverse]; exact hk1
  have hk3 : (P.map nV).reverse.length + (((kids T h).filter (· ∈ met)).map nV).reverse.length <= limN := by
   rw [List.length_reverse, List.length_reverse, length_map, length_map]; exact le_trans (Nat.add_le_add (Nat.le_of_succ_le hPl) hkl) (by decide)
  have gE1 := xE.keep _ _ _ gD;have gE3 := xE.keep _ _ _ gD3;have yF := xE.push (.list (((kids T h).filter (· ∈ met)).map nV).reverse)
  have gF1 := get_push_old xE.ok (.list (((kids T h).filter (· ∈ met)).map nV).reverse) gE1
  have gF3' := get_push_old xE.ok (.list (((kids T h).filter (· ∈ met)).map nV).reverse) gE3
  have gFn := get_push_new HE (.list (((kids T h).filter (· ∈ met)).map nV).reverse)
  have xF := xD.trans yF;have xG := xF.upd (.list ((P.map nV).reverse ++ (((kids T h).filter (· ∈ met)).map nV).reverse)) C.nl0 gF1
  have w9 := C.wd h;refine .inr ⟨.next, _, _, ?_, .inl rfl, ((((kids T h).filter (· ∈ met)) ++ P).flatMap (dm T met T.length)).length, ?_, rfl, ((kids T h).filter (· ∈ met)) ++ P, done', xG, fun r' i' o a b => ?_, ?_, ?_, rfl, hC6, ?_, ?_⟩
  ·rcases hin with ⟨hw, eC⟩ | ⟨hw, rfl, rfl⟩
   ·obtain ⟨vw, hvw⟩ := isSome_ex (w9.trans (decide_eq_true hw));rcases hrs with ⟨hv, rfl, rfl⟩ | hv
    ·exact wTurnJ_of K iNs [.c, .c, .o gA, .o gE, .n c1, .o gA, .o gA, .y c2, .v c3, .y r0, .h eB, .o wB, .c, .ov hvw, .o gB3, .o gB3, .y hdl, .y r03, .h eC, .o gC, .o gCF, .c, .c, .o gDF, .c, .ov hv, .vh s3, .o gk, .y hk1, .y hk2, .c, .o gF1, .o gFn, .y hk3, .y r0, .c] (by kernel_rfl)
    ·exact wTurnJ_of K iNs [.c, .c, .o gA, .o gE, .n c1, .o gA, .o gA, .y c2, .v c3, .y r0, .h eB, .o wB, .c, .ov hvw, .o gB3, .o gB3, .y hdl, .y r03, .h eC, .o gC, .o gCF, .c, .c, .o gDF, .c, .ov hv, .vh s3, .o gk, .y hk1, .y hk2, .c, .o gF1, .o gFn, .y hk3, .y r0, .c] (by kernel_rfl)
   ·have hvw := isSome_no (w9.trans (decide_eq_false hw));rcases hrs with ⟨hv, rfl, rfl⟩ | hv
    ·exact wTurnJ_of K iNs [.c, .c, .o gA, .o gE, .n c1, .o gA, .o gA, .y c2, .v c3, .y r0, .h eB, .o wB, .c, .ov hvw, .o gC, .o gCF, .c, .c, .o gDF, .c, .ov hv, .vh s3, .o gk, .y hk1, .y hk2, .c, .o gF1, .o gFn, .y hk3, .y r0, .c] (by kernel_rfl)
    ·exact wTurnJ_of K iNs [.c, .c, .o gA, .o gE, .n c1, .o gA, .o gA, .y c2, .v c3, .y r0, .h eB, .o wB, .c, .ov hvw, .o gC, .o gCF, .c, .c, .o gDF, .c, .ov hv, .vh s3, .o gk, .y hk1, .y hk2, .c, .o gF1, .o gFn, .y hk3, .y r0, .c] (by kernel_rfl)
  ·rw [List.flatMap_cons, <- List.flatMap_cons (f := dm T met T.length), dm_step w met hh.1]; exact Nat.lt_succ_self _
  ·rw [Hp.get_upd, if_neg (Ext.ne (H' := H) b C.nl)];exact yF.keep _ _ _ (get_push_old xC.ok _ (kC _ _ _ a b))
  ·rw [Hp.get_upd, if_pos ⟨rfl, rfl⟩, List.map_append, List.reverse_append]
  ·rw [Hp.get_upd, if_neg (Ext.ne (H' := H) C.g3 C.nl)]; exact gF3'
  ·intro m hm;rcases List.mem_append.1 hm with h1 | h1
   ·exact ⟨(w.kid h m (List.mem_filter.1 h1).1).1, of_decide_eq_true (List.mem_filter.1 h1).2⟩
   ·exact j7 m (mem_cons_of_mem _ h1)
  ·rw [List.flatMap_cons, <- List.flatMap_cons (f := dm T met T.length), dm_step w met hh.1] at j8;exact Nat.le_of_succ_le j8
theorem l_inorder (hk : Hok H) (t : TreeL H ad T) (w : Wf T) (hc : ∀ p, (kids T p).length <= 50) (hT : T.length <= 50) {r i : Nat} {nodes : List Nat} (g : H.get r i = some (.list (nodes.map nV))) (hn : ∀ m ∈ nodes, m < T.length) (hl : nodes.length <= 1000) :
  ∃ r' i' H', FnJ B (d + 6) 190 [rf (ad .tree), .ref r i] H (.ref r' i', H') /\ Ext H H' /\ H'.get r' i' = some (.list (((everyOf T).filter (· ∈ nodes)).map nV)) /\ H.get r' i' = none := by
 obtain ⟨H2, ws, kn, s1, x1, x4, W⟩ := i_wanted K hk g hl (d := d + 4);obtain ⟨H3, met, es, mes, fa, s2, F, cl, hmet⟩ := l_marked K x1.ok (t.ext x1) w x4 W.names (fun m hm => hn m ((W.mem m).1 hm)) (d := d + 1);have gF := F.gF;have f1 := F.ext.push (.list []);have f2 := f1.push (.tup [.ref H2.reg (H2.nxt + 1), .ref H3.reg H3.nxt]);have gt := get_push_new (H3.push (.list [])) (.tup [.ref H2.reg (H2.nxt + 1), .ref H3.reg H3.nxt]);have k5 : ∀ {r i o}, H3.get r i = some o -> ((H3.push (.list [])).push (.tup [.ref H2.reg (H2.nxt + 1), .ref H3.reg H3.nxt])).get r i = some o := fun g => get_push_old f1.ok _ (get_push_old F.ext.ok _ g);have gF3 := k5 gF;have gf2 := get_push_old f1.ok (.tup [.ref H2.reg (H2.nxt + 1), .ref H3.reg H3.nxt]) (get_push_new H3 (.list []));obtain ⟨vR, hvR⟩ := isSome_ex F.one;obtain ⟨eR, gR, nR⟩ := F.has none vR hvR;subst eR;have gR4 := k5 gR;have hmT := nodup_len _ _ F.nodup F.lt;have hsr := sort_roots (List.Pairwise.filter (fun m => decide (par T m = none)) F.nodup) fun x hx => mem_roots.2 ⟨F.lt x (List.mem_filter.1 hx).1, of_decide_eq_true (List.mem_filter.1 hx).2⟩;have hlr : ((met.filter fun m => par T m = none).map nV).length < 64 := by
  rw [length_map];exact lt_of_le_of_lt (le_trans (List.length_filter_le (fun m => decide (par T m = none)) met) (le_trans hmT hT)) (by decide)
 have ir := ints_map (met.filter fun m => par T m = none);have efil : (rootsOf T).filter (· ∈ met.filter (fun m => par T m = none)) = (rootsOf T).filter (· ∈ met) := List.filter_congr fun x hx => by
  have := (mem_roots.1 hx).2;simp [List.mem_filter, this]
 rw [efil] at hsr;have en : (sortI ((met.filter fun m => par T m = none).map fun n : Nat => (n : Int))).map V.int = ((rootsOf T).filter (· ∈ met)).map nV := by rw [hsr, List.map_map]; rfl
 have hrl : ((sortI ((met.filter fun m => par T m = none).map fun n : Nat => (n : Int))).map V.int).length <= limN := by
  rw [en, length_map];have h2 := List.length_filter_le (fun k => (par T k).isNone) (List.range T.length);rw [List.length_range] at h2;exact le_trans (List.length_filter_le (fun x => decide (x ∈ met)) (rootsOf T)) (le_trans h2 (le_trans hT (by decide)))
 have hrl2 : ((sortI ((met.filter fun m => par T m = none).map fun n : Nat => (n : Int))).map V.int).reverse.length <= limN := by rw [List.length_reverse]; exact hrl
 have f3 := f2.push (.list ((sortI ((met.filter fun m => par T m = none).map fun n : Nat => (n : Int))).map V.int));have gs := get_push_new ((H3.push (.list [])).push (.tup [.ref H2.reg (H2.nxt + 1), .ref H3.reg H3.nxt])) (.list ((sortI ((met.filter fun m => par T m = none).map fun n : Nat => (n : Int))).map V.int));have f4 := f3.push (.list ((sortI ((met.filter fun m => par T m = none).map fun n : Nat => (n : Int))).map V.int).reverse);have k3 := ((Ext.refl f2.ok).push (.list ((sortI ((met.filter fun m => par T m = none).map fun n : Nat => (n : Int))).map V.int)));have k4 := k3.push (.list ((sortI ((met.filter fun m => par T m = none).map fun n : Nat => (n : Int))).map V.int).reverse);have C : IC H T nodes met ws es fa _ H.reg H.nxt H2.reg (H2.nxt + 1) H3.reg H3.nxt H3.reg (H3.nxt + 3) := ⟨k5 (F.ext.keep _ _ _ x4), gF3, gf2, k3.fresh, x1.before F.ext.fresh, (x1.trans f2).before k3.fresh, fun p v hv => let ⟨a, b, _⟩ := F.has p v hv; ⟨a, k5 b, F.ext.ok.old b⟩, F.hasnt, F.nodup, W.has⟩;have st := i_turn K t w hc hT C (r := r) (i := i) (d := d);obtain ⟨e', H', s3, rfl, q1, q2⟩ := wh_inv st _ _ ((((H3.push (.list [])).push (.tup [.ref H2.reg (H2.nxt + 1), .ref H3.reg H3.nxt])).push (.list ((sortI ((met.filter fun m => par T m = none).map fun n : Nat => (n : Int))).map V.int))).push (.list ((sortI ((met.filter fun m => par T m = none).map fun n : Nat => (n : Int))).map V.int).reverse))
  ⟨rfl, (rootsOf T).filter (· ∈ met), [], x1.trans f4, fun r' i' o a b => k4.keep _ _ _ b, by rw [<- en]; exact get_push_new _ _, k4.keep _ _ _ gf2, rfl, every_dm w cl (wanted := fun c => decide (c ∈ nodes)) fun c _ hcw => hmet c ((W.mem c).2 (of_decide_eq_true hcw)), fun m hm => ⟨(mem_roots.1 (List.mem_filter.1 hm).1).1, of_decide_eq_true (List.mem_filter.1 hm).2⟩, le_trans (start_len w cl) hT⟩
 have w : FnJ B (d + 6) 190 [rf (ad .tree), .ref r i] H (.ref H3.reg H3.nxt, H') := by
  exact fnJ_of K rfl [.o g, .c, .co s1, .vh s2, .c, .c, .c, .c, .o gt, .o gF3, .c, .v hvR, .o gR4, .y hlr, .is ir, .c, .o gs, .y hrl, .y hrl2, .c, .wh s3] (by kernel_rfl)
 exact ⟨_, _, _, w, q1, q2, x1.before F.ext.fresh⟩
end
def Leafy (T : List Row) : Prop := ∀ (k : Nat) (r : Row), T[k]? = some r -> ∀ a ∈ r.nss ++ r.ats, kids T a = []
theorem wk_leaf {T : List Row} {f a : Nat} (h : kids T a = []) : wk T (f + 1) a = [a] := by unfold wk; rw [h]; rfl
theorem flat_leaf {T : List Row} {f : Nat} : ∀ {xs : List Nat}, (∀ a ∈ xs, kids T a = []) -> xs.flatMap (wk T (f + 1)) = xs
 | [], _ => rfl
 | x :: xs, h => by rw [List.flatMap_cons, wk_leaf (h x (mem_cons_self ..)), flat_leaf fun a ha => h a (mem_cons_of_mem _ ha)]; rfl
theorem wk_law {T : List Row} (w : Wf T) (lf : Leafy T) {k : Nat} {r : Row} (hr : T[k]? = some r) : wk T T.length k = k :: r.nss ++ r.ats ++ r.ch.flatMap (wk T T.length) := by
 have hk : k < T.length := (List.getElem?_eq_some_iff.1 hr).1;obtain ⟨n, hn⟩ : ∃ n, T.length = n + 1 := ⟨T.length - 1, (Nat.sub_add_cancel (lt_of_le_of_lt (Nat.zero_le _) hk)).symm⟩;have e : wk T T.length k = k :: (kids T k).flatMap (wk T T.length) := by
  have e1 : wk T T.length k = k :: (kids T k).flatMap (wk T n) := by rw [hn]; rfl
  rw [e1];congr 1
  refine flatMap_same fun c hc => ?_;have := w.kid k c hc;exact wk_enough w n T.length c (by rw [hn, Nat.add_comm]; exact Nat.add_le_add_right (lt_of_le_of_lt (Nat.zero_le _) this.2.1) n) (Nat.le_add_left _ _) this.1
 rw [e];have hk2 : kids T k = r.nss ++ r.ats ++ r.ch := by unfold kids; rw [hr]
 rw [hk2, List.flatMap_append];have : (r.nss ++ r.ats).flatMap (wk T T.length) = r.nss ++ r.ats := by
  rw [hn];exact flat_leaf fun a ha => lf k r hr a ha
 rw [this]
 simp
theorem wk_len {T : List Row} (w : Wf T) {k : Nat} (hk : k < T.length) : (wk T T.length k).length <= T.length :=
 nodup_len _ _ (wk_nodup w _ k hk (Nat.le_add_left _ _)) fun x hx => ((mem_wk w _ k x hk (Nat.le_add_left _ _)).1 hx).1

section
variable {B : Bs} (K : BOk B) {ad : Role -> Nat × Nat} {T : List Row}
noncomputable abbrev wFor : Stmt := stAt (bodyOf 1707) 1
noncomputable def wE (ad : Role -> Nat × Nat) (k rF iF : Nat) : En := loE 1707 [(sO "tree", rf (ad .tree)), (sO "node", nV k), (sO "found", .ref rF iF)]
include K
theorem l_walk (w : Wf T) (lf : Leafy T) (hc : ∀ p, (kids T p).length <= 50) (hT : T.length <= 50) : ∀ (m k : Nat) (H : Hp), T.length <= k + m -> k < T.length -> Hok H -> TreeL H ad T ->
  ∃ r' i' H', FnJ B (m + 3) 1707 [rf (ad .tree), nV k] H (.ref r' i', H') /\ Ext H H' /\ H'.get r' i' = some (.list ((wk T T.length k).map nV))
 | 0, k, H, h1, h2, _, _ => absurd (le_trans h1 (le_of_eq (Nat.add_zero k))) (Nat.not_le_of_lt h2)
 | m + 1, k, H, h1, hk, hok, t => by
  obtain ⟨r, hr⟩ : ∃ r, T[k]? = some r := ⟨_, List.getElem?_eq_getElem hk⟩;have hkids : kids T k = r.nss ++ r.ats ++ r.ch := by unfold kids; rw [hr]
  have hck := hc k;rw [hkids, length_append, length_append] at hck;have l1 : r.nss.length <= 50 := le_trans (le_trans (Nat.le_add_right ..) (Nat.le_add_right ..)) hck;have l2 : r.ats.length <= 50 := le_trans (le_trans (Nat.le_add_left ..) (Nat.le_add_right ..)) hck;have l3 : r.ch.length <= 50 := le_trans (Nat.le_add_left ..) hck;have up : ∀ {n}, n <= 50 -> n <= 1000 := fun h => le_trans h (by decide)
  have m1 : Made H _ [_] := (Made.start hok).push (.list [nV k]);have g0 := t.get .tree _ rfl;have gt1 := (t.ext m1.ext).get .tree _ rfl;have s1 := t_namespaces K (t.ext m1.ext) hr (up l1) (d := m + 1);have m2 : Made H _ [_, _] := m1.push (.list (r.nss.map nV));have q1 := m2.got 0 _ rfl;have q2 := m2.got 1 _ rfl;have l4 : ([nV k] ++ r.nss.map nV).length <= limN := by rw [length_append, length_map]; exact le_trans (Nat.add_le_add_left l1 1) (by decide)
  have m3 : Made H _ [_, _, _] := m2.push (.list ([nV k] ++ r.nss.map nV));have gt3 := (t.ext m3.ext).get .tree _ rfl;have s2 := t_attributes K (t.ext m3.ext) hr (up l2) (d := m + 1);have m4 : Made H _ [_, _, _, _] := m3.push (.list (r.ats.map nV));have q3 := m4.got 2 _ rfl;have q4 := m4.got 3 _ rfl;have l5 : ([nV k] ++ r.nss.map nV ++ r.ats.map nV).length <= limN := by rw [length_append, length_append, length_map, length_map]; exact le_trans (Nat.add_le_add (Nat.add_le_add_left l1 1) l2) (by decide)
  have m5 : Made H _ [_, _, _, _, _] := m4.push (.list ([nV k] ++ r.nss.map nV ++ r.ats.map nV));have gt5 := (t.ext m5.ext).get .tree _ rfl;have s3 := t_children K (t.ext m5.ext) hr (up l3) (d := m + 1);have m6 : Made H _ [_, _, _, _, _, _] := m5.push (.list (r.ch.map nV));have g6 := m6.got 5 _ rfl;have g5 := m6.got 4 _ rfl;obtain ⟨e', H', s4, x1, done, rest, rF, iF, x2, x3, rfl, x4⟩ := fo_list (B := B) (d := m + 3) (t := forT wFor) (b := forB wFor) (r := H.reg) (i := H.nxt + 5) (xs := r.ch.map nV)
   (J := fun vs e H' => Ext H H' /\ ∃ (done rest : List Nat) (rF iF : Nat), r.ch = done ++ rest /\ vs = rest.map nV /\ e = wE ad k rF iF /\ H'.get rF iF = some (.list ((k :: r.nss ++ r.ats ++ done.flatMap (wk T T.length)).map nV)) /\ H'.get H.reg (H.nxt + 5) = some (.list (r.ch.map nV)))
   (fun vs e H' h => by obtain ⟨x, _, _, _, _, _, _, _, _, h⟩ := h; exact h) (fun e H' v vs h => by
    obtain ⟨x1, done, rest, rF, iF, x2, x3, rfl, x4, x6⟩ := h;cases rest with
    | nil => cases x3
    | cons c rest =>
     injection x3 with x31 x32
     subst x31 x32;have hck2 := w.kid k c (by rw [hkids, x2]; exact List.mem_append_right _ (List.mem_append_right _ (mem_cons_self ..)))
     obtain ⟨rk, ik, H'', s5, xk, gk⟩ := l_walk w lf hc hT m c H' (fuel h1 hck2.2.1) hck2.1 x1.ok (t.ext x1);have x5 := xk.keep _ _ _ x4;have hlen : ((k :: r.nss ++ r.ats ++ done.flatMap (wk T T.length)).map nV ++ (wk T T.length c).map nV).length <= limN := by
      have h1 := wk_len w hk;rw [wk_law w lf hr, x2, List.flatMap_append, List.flatMap_cons, <- List.append_assoc, <- List.append_assoc, length_append] at h1;rw [<- List.map_append, length_map];exact le_trans (le_trans (Nat.le_add_right _ _) (le_trans h1 hT)) (show 50 <= limN by decide)
     refine ⟨.next, _, _, ?_, .inl rfl, (x1.trans xk).push _, done ++ [c], rest, H''.reg, H''.nxt, by rw [x2, List.append_assoc]; rfl, rfl, rfl, (get_push_new _ (.list ((k :: r.nss ++ r.ats ++ done.flatMap (wk T T.length)).map nV ++ (wk T T.length c).map nV))).trans ?_, get_push_old xk.ok _ (xk.keep _ _ _ x6)⟩
     ·exact turnJ_of K [sO "tree", sO "node", sO "found"] [.vh s5, .o x5, .o gk, .y hlen, .c] (by kernel_rfl)
     ·rw [<- List.map_append, List.flatMap_append, List.flatMap_cons, List.flatMap_nil, List.append_nil, List.append_assoc])
   ⟨m6.ext, [], r.ch, H.reg, H.nxt + 4, rfl, rfl, rfl, g5.trans (by rw [List.flatMap_nil, List.append_nil, List.map_append]; rfl), g6⟩
  cases rest with
  | cons c rest => cases x3
  | nil =>
   rw [List.append_nil] at x2;rw [<- x2, <- wk_law w lf hr] at x4;have w : FnJ B (m + 1 + 3) 1707 [rf (ad .tree), nV k] H (.ref rF iF, H') := by
    exact fnJ_of K rfl [.c, .c, .o gt1, .vh s1, .o q1, .o q2, .y l4, .c, .o gt3, .vh s2, .o q3, .o q4, .y l5, .c, .o gt5, .vh s3, .o g6, .fo s4] (by kernel_rfl)
   exact ⟨_, _, _, w, x1, x4.1⟩
end
theorem inL_nat (k : Nat) : ∀ xs : List Nat, inL (nV k) (xs.map nV) = some (decide (k ∈ xs))
 | [] => rfl
 | x :: xs => by
  show ((eqS (nV x) (nV k)).bind fun b => (inL (nV k) (xs.map nV)).map (b || ·)) = _
  rw [inL_nat k xs];show some (decide ((x : Int) = k) || decide (k ∈ xs)) = _
  rw [<- Bool.decide_or];exact congrArg some (decide_eq_decide.2 ⟨fun z => z.elim (fun z => Int.ofNat.inj z ▸ mem_cons_self ..) (mem_cons_of_mem _), fun z => (List.mem_cons.1 z).elim (fun z => .inl (congrArg Int.ofNat z.symm)) .inr⟩)
theorem inL_yes {k : Nat} {xs : List Nat} (h : k ∈ xs) : inL (nV k) (xs.map nV) = some true := (inL_nat k xs).trans (congrArg some (decide_eq_true h))
theorem inL_no {k : Nat} {xs : List Nat} (h : k ∉ xs) : inL (nV k) (xs.map nV) = some false := (inL_nat k xs).trans (congrArg some (decide_eq_false h))
noncomputable abbrev uX : Expr := match asV (stAt (bodyOf 1000) 0) with
 | .Call _ (_ :: .BinOp _ _ x _ :: _) _ _ => x
 | x => x
noncomputable def coEC (a : Nat) (x : Expr) (cl : List (Str × Nat × Nat)) : En := ⟨[], cl, compNames (loE a []) (compS x), (fnOf a).qual ++ ".<locals>."⟩
section
variable {B : Bs} (K : BOk B) {H : Hp} {ad : Role -> Nat × Nat} {T : List Row} {d : Nat}
include K
theorem l_united (hk : Hok H) (t : TreeL H ad T) (w : Wf T) (hc : ∀ p, (kids T p).length <= 50) (hT : T.length <= 50) {r i r' i' : Nat} {xs ys : List Nat} (g : H.get r i = some (.list (xs.map nV))) (g' : H.get r' i' = some (.list (ys.map nV)))
  (hx : ∀ m ∈ xs, m < T.length) (hy : ∀ m ∈ ys, m < T.length) (lx : xs.length <= 400) (ly : ys.length <= 400) :
  ∃ r2 i2 H', FnJ B (d + 7) 1000 [rf (ad .tree), .ref r i, .ref r' i'] H (.ref r2 i2, H') /\ Ext H H' /\ H'.get r2 i2 = some (.list (((everyOf T).filter fun m => m ∈ xs \/ m ∈ ys).map nV)) /\ H.get r2 i2 = none := by
 have m0 : Made H _ [_] := (Made.start hk).push (.cell none);have c0 := m0.got 0 _ rfl;have r0 := hk.pos;obtain ⟨b1, t1, e1, m1⟩ : ∃ b t, _ = (⟨b, H.reg, t, H.nxt + 1⟩ : Hp) /\ Made H ⟨b, H.reg, t, H.nxt + 1⟩ [_] := m0.set 0 (.cell (some (.ref r i))) (Nat.zero_lt_succ _);have gx := m1.ext.keep _ _ _ g;have gy := m1.ext.keep _ _ _ g';have gc := m1.got 0 _ rfl;have m2 : Made H _ [_, _] := m1.push (.list []);obtain ⟨H2, s1, pre, vn, x2, x3, M⟩ := co_list (B := B) (d := d + 6) (e := coEC 1000 uX [(sO "left", H.reg, H.nxt)]) (elt := compElt uX) (g := compG uX) (ra := H.reg) (ia := H.nxt + 1) (r := r') (i := i') (xs := ys.map nV)
  (J := fun vs H' => ∃ (pre vn : List Nat), ys = pre ++ vn /\ vs = vn.map nV /\ Made H H' [.cell (some (.ref r i)), .list ((pre.filter (· ∉ xs)).map nV)])
  (fun vs H' h => by obtain ⟨_, _, _, _, M⟩ := h; exact M.ext.keep _ _ _ g') (fun H' v vs h => by
   obtain ⟨pre, vn, x2, x3, M⟩ := h;cases vn with
   | nil => cases x3
   | cons k vn =>
    injection x3 with x31 x32
    subst x31 x32;have hlen : ((pre.filter (· ∉ xs)).map nV).length < limN := by
     have h1 : ys.length = pre.length + (vn.length + 1) := by rw [x2, length_append]; rfl
     rw [length_map];exact lt_of_le_of_lt (le_trans (List.length_filter_le (fun x => decide (x ∉ xs)) pre) (le_trans (Nat.le_add_right _ _) (le_trans (le_of_eq h1.symm) ly))) (by decide)
    have gx' := M.ext.keep _ _ _ g;have y0 := M.got 0 _ rfl;have y1 := M.got 1 _ rfl;by_cases hm : k ∈ xs
    ·have il := inL_yes hm;refine ⟨H', ?_, pre ++ [k], vn, by rw [x2, List.append_assoc]; rfl, rfl, ?_⟩
     ·exact cTurnJ_of K [.o y0, .o gx', .bo il] (by kernel_rfl)
     ·rw [List.filter_append, List.filter_cons_of_neg (p := fun x => decide (x ∉ xs)) (by rw [decide_eq_false (fun z => z hm)]; exact Bool.false_ne_true), List.filter_nil, List.append_nil]; exact M
    ·have il := inL_no hm;obtain ⟨b2, t2, n2, e2, M2⟩ := M.setn 1 (.list ((pre.filter (· ∉ xs)).map nV ++ [nV k])) (Nat.succ_lt_succ (Nat.zero_lt_succ _))
     refine ⟨⟨b2, H.reg, t2, n2⟩, ?_, pre ++ [k], vn, by rw [x2, List.append_assoc]; rfl, rfl, ?_⟩
     ·exact cTurnJ_of K [.o y0, .o gx', .bo il, .o y1, .y hlen, .y r0, .h e2] (by kernel_rfl)
     ·rw [List.filter_append, List.filter_cons_of_pos (p := fun x => decide (x ∉ xs)) (decide_eq_true hm), List.filter_nil, List.map_append]; exact M2)
  ⟨[], ys, rfl, rfl, m2⟩
 cases vn with
 | cons k vn => cases x3
 | nil =>
  rw [List.append_nil] at x2;subst x2;have gx2 := M.ext.keep _ _ _ g;have gl := M.got 1 _ rfl;have hlf : (ys.filter (· ∉ xs)).length <= 400 := le_trans (List.length_filter_le (fun x => decide (x ∉ xs)) ys) ly
  have hl2 : (xs.map nV ++ (ys.filter (· ∉ xs)).map nV).length <= limN := by rw [length_append, length_map, length_map]; exact le_trans (Nat.add_le_add lx hlf) (by decide)
  have y1 := M.ext.push (.list (xs.map nV ++ (ys.filter (· ∉ xs)).map nV))
  obtain ⟨r3, i3, H4, s3, x6, g6, n6⟩ := l_inorder K y1.ok (t.ext y1) w hc hT (nodes := xs ++ ys.filter (· ∉ xs)) (by rw [List.map_append]; exact get_push_new _ _)
   (fun m hm => (List.mem_append.1 hm).elim (hx m) fun h => hy m (List.mem_filter.1 h).1) (by rw [length_append]; exact le_trans (Nat.add_le_add lx hlf) (by decide)) (d := d)
  have w : FnJ B (d + 7) 1000 [rf (ad .tree), .ref r i, .ref r' i'] H (.ref r3 i3, H4) := by
   exact fnJ_of K rfl [.c, .o c0, .y r0, .h e1, .o gc, .o gy, .c, .co s1, .o gx2, .o gl, .y hl2, .c, .vh s3] (by kernel_rfl)
  refine ⟨_, _, _, w, y1.trans x6, g6.trans ?_, y1.before n6⟩;refine congrArg (fun x => some (O.list (List.map nV x))) (List.filter_congr fun x _ => decide_eq_decide.2 ?_);rw [List.mem_append, List.mem_filter];exact ⟨fun z => z.imp id (fun z => z.1), fun z => z.elim .inl fun z => (Decidable.em (x ∈ xs)).imp id fun n => ⟨z, decide_eq_true n⟩⟩
end
theorem big (n : Nat) (h : n <= 1000) : ¬ (((10 : Int) ^ 400) * 1 <= ((n : Int).natAbs : Int)) := fun z => by
 have : (1000 : Int) < 10 ^ 400 * 1 := by decide +kernel
 exact absurd (Int.lt_of_lt_of_le this z) (Int.not_lt.2 (Int.ofNat_le.2 h))
section
variable {B : Bs} (K : BOk B) {H : Hp} {d : Nat}
include K
theorem l_number (hk : Hok H) (n : Nat) (hn : n <= 1000) : ∃ r i H', FnJ B (d + 3) 46 [nV n] H (.ref r i, H') /\ Ext H H' /\ H'.get r i = some (.tup [nV n, .int 1]) := by
 have hb := big n hn;have hm : ¬ (0 < (Int.fmod ((n : Int).natAbs : Nat) 1)) := by rw [Int.fmod_one]; decide
 have m1 : Made H _ [_] := (Made.start hk).push (.tup [.int ((n : Int).natAbs : Nat), .int 1]);have m2 : Made H _ [_, _] := m1.push (.tup [.int 1, .int (Int.fmod ((n : Int).natAbs : Nat) 1)]);have m3 : Made H _ [_, _, _] := m2.push (.tup [.int (Int.fdiv n 1), .int (Int.fdiv 1 1)]);have g1 := m1.got 0 _ rfl;have g2 := m2.got 1 _ rfl;have g3 := m3.got 2 _ rfl;have m4 : Made H _ [_, _, _, _] := m3.push (.tup [.int (Int.fdiv n 1), .int (Int.fdiv 1 1)]);have w : FnJ B (d + 3) 46 [nV n] H (.ref H.reg (H.nxt + 3), (((H.push (.tup [.int ((n : Int).natAbs : Nat), .int 1])).push (.tup [.int 1, .int (Int.fmod ((n : Int).natAbs : Nat) 1)])).push (.tup [.int (Int.fdiv n 1), .int (Int.fdiv 1 1)])).push (.tup [.int (Int.fdiv n 1), .int (Int.fdiv 1 1)])) := by
  exact fnJ_of K rfl [.c, .c, .c, .n hb, .c, .c, .c, .o g1, .c, .c, .c, .c, .c, .o g2, .c, .n hm, .c, .c, .c, .c, .o g3, .c, .c, .c] (by kernel_rfl)
 refine ⟨_, _, _, w, m4.ext, (m4.got 3 _ rfl).trans ?_⟩;rw [Int.fdiv_one]; rfl
end
structure Cx where
 tr : Nat × Nat
 nd : Nat
 pos : Nat
 sz : Nat
 vs : Nat × Nat
 nm : Nat × Nat
 ca : Nat × Nat
 cur : Nat
 ids : Nat × Nat
noncomputable def cxF (c : Cx) : List (Str × V) := [(sO "tree", rf c.tr), (sO "node", nV c.nd), (sO "position", nV c.pos), (sO "size", nV c.sz), (sO "variables", rf c.vs), (sO "names", rf c.nm), (sO "calls", rf c.ca), (sO "current", nV c.cur), (sO "ids", rf c.ids)]
theorem Ext.updN {H H' : Hp} (a : Ext H H') {r i : Nat} {o0 : O} (n : H.get r i = none) (g : H'.get r i = some o0) (o : O) : Ext H (H'.upd r i o) /\ (H'.upd r i o).get r i = some o := ⟨a.upd o n g, by rw [Hp.get_upd, if_pos ⟨rfl, rfl⟩]⟩
section
variable {B : Bs} (K : BOk B) {H : Hp} {d : Nat}
include K
theorem l_ctxnew (hk : Hok H) (c : Cx) : ∃ H', FnJ B (d + 1) 1055 [.ref H.reg H.nxt, rf c.tr, nV c.nd, nV c.pos, nV c.sz, rf c.vs, rf c.nm, rf c.ca, nV c.cur, rf c.ids] (H.push (.inst 1079 [])) (.none, H') /\ Ext H H' /\ H'.get H.reg H.nxt = some (.inst 1079 (cxF c)) := by
 have r0 := hk.pos;have g0 := get_push_new H (.inst 1079 []);have p0 := ((Ext.refl hk).push (.inst 1079 [])).updN hk.new g0 (.inst 1079 [(sO "tree", rf c.tr)]);have p1 := p0.1.updN hk.new p0.2 (.inst 1079 [(sO "tree", rf c.tr), (sO "node", nV c.nd)]);have p2 := p1.1.updN hk.new p1.2 (.inst 1079 [(sO "tree", rf c.tr), (sO "node", nV c.nd), (sO "position", nV c.pos)]);have p3 := p2.1.updN hk.new p2.2 (.inst 1079 [(sO "tree", rf c.tr), (sO "node", nV c.nd), (sO "position", nV c.pos), (sO "size", nV c.sz)]);have p4 := p3.1.updN hk.new p3.2 (.inst 1079 [(sO "tree", rf c.tr), (sO "node", nV c.nd), (sO "position", nV c.pos), (sO "size", nV c.sz), (sO "variables", rf c.vs)]);have p5 := p4.1.updN hk.new p4.2 (.inst 1079 [(sO "tree", rf c.tr), (sO "node", nV c.nd), (sO "position", nV c.pos), (sO "size", nV c.sz), (sO "variables", rf c.vs), (sO "names", rf c.nm)]);have p6 := p5.1.updN hk.new p5.2 (.inst 1079 [(sO "tree", rf c.tr), (sO "node", nV c.nd), (sO "position", nV c.pos), (sO "size", nV c.sz), (sO "variables", rf c.vs), (sO "names", rf c.nm), (sO "calls", rf c.ca)]);have p7 := p6.1.updN hk.new p6.2 (.inst 1079 [(sO "tree", rf c.tr), (sO "node", nV c.nd), (sO "position", nV c.pos), (sO "size", nV c.sz), (sO "variables", rf c.vs), (sO "names", rf c.nm), (sO "calls", rf c.ca), (sO "current", nV c.cur)]);have p8 := p7.1.updN hk.new p7.2 (.inst 1079 [(sO "tree", rf c.tr), (sO "node", nV c.nd), (sO "position", nV c.pos), (sO "size", nV c.sz), (sO "variables", rf c.vs), (sO "names", rf c.nm), (sO "calls", rf c.ca), (sO "current", nV c.cur), (sO "ids", rf c.ids)]);have w : FnJ B (d + 1) 1055 [.ref H.reg H.nxt, rf c.tr, nV c.nd, nV c.pos, nV c.sz, rf c.vs, rf c.nm, rf c.ca, nV c.cur, rf c.ids] (H.push (.inst 1079 [])) (.none, (((((((((H.push (.inst 1079 [])).upd H.reg H.nxt (.inst 1079 [(sO "tree", rf c.tr)])).upd H.reg H.nxt (.inst 1079 [(sO "tree", rf c.tr), (sO "node", nV c.nd)])).upd H.reg H.nxt (.inst 1079 [(sO "tree", rf c.tr), (sO "node", nV c.nd), (sO "position", nV c.pos)])).upd H.reg H.nxt (.inst 1079 [(sO "tree", rf c.tr), (sO "node", nV c.nd), (sO "position", nV c.pos), (sO "size", nV c.sz)])).upd H.reg H.nxt (.inst 1079 [(sO "tree", rf c.tr), (sO "node", nV c.nd), (sO "position", nV c.pos), (sO "size", nV c.sz), (sO "variables", rf c.vs)])).upd H.reg H.nxt (.inst 1079 [(sO "tree", rf c.tr), (sO "node", nV c.nd), (sO "position", nV c.pos), (sO "size", nV c.sz), (sO "variables", rf c.vs), (sO "names", rf c.nm)])).upd H.reg H.nxt (.inst 1079 [(sO "tree", rf c.tr), (sO "node", nV c.nd), (sO "position", nV c.pos), (sO "size", nV c.sz), (sO "variables", rf c.vs), (sO "names", rf c.nm), (sO "calls", rf c.ca)])).upd H.reg H.nxt (.inst 1079 [(sO "tree", rf c.tr), (sO "node", nV c.nd), (sO "position", nV c.pos), (sO "size", nV c.sz), (sO "variables", rf c.vs), (sO "names", rf c.nm), (sO "calls", rf c.ca), (sO "current", nV c.cur)])).upd H.reg H.nxt (.inst 1079 [(sO "tree", rf c.tr), (sO "node", nV c.nd), (sO "position", nV c.pos), (sO "size", nV c.sz), (sO "variables", rf c.vs), (sO "names", rf c.nm), (sO "calls", rf c.ca), (sO "current", nV c.cur), (sO "ids", rf c.ids)])) := by
  exact fnJ_of K rfl [.o g0, .y r0, .c, .o p0.2, .y r0, .c, .o p1.2, .y r0, .c, .o p2.2, .y r0, .c, .o p3.2, .y r0, .c, .o p4.2, .y r0, .c, .o p5.2, .y r0, .c, .o p6.2, .y r0, .c, .o p7.2, .y r0, .c] (by kernel_rfl)
 exact ⟨_, w, p8⟩
theorem l_at (hk : Hok H) (c : Cx) {rc ic : Nat} (g : H.get rc ic = some (.inst 1079 (cxF c))) (n p s : Nat) :
  ∃ r i H', FnJ B (d + 3) 1062 [.ref rc ic, nV n, nV p, nV s] H (.ref r i, H') /\ Ext H H' /\ H'.get r i = some (.inst 1079 (cxF { c with nd := n, pos := p, sz := s })) := by
 obtain ⟨H', s1, x, g1⟩ := l_ctxnew K hk { c with nd := n, pos := p, sz := s } (d := d)
 have w : FnJ B (d + 3) 1062 [.ref rc ic, nV n, nV p, nV s] H (.ref H.reg H.nxt, H') := by
  exact fnJ_of K rfl [.o g, .c, .o g, .c, .o g, .c, .o g, .c, .o g, .c, .o g, .c, .c, .vh s1] (by kernel_rfl)
 exact ⟨_, _, _, w, x, g1⟩
end
def abc (x : String) : Prop := x = "a" \/ x = "b" \/ x = "c"
inductive NE where
 | var (x : String)
 | un (l r : NE)
inductive PE where
 | num (n : Nat)
 | last
 | gt (n : Nat)
noncomputable def IsNE (H : Hp) : NE -> V -> Prop
 | .var x, v => ∃ r i, v = .ref r i /\ H.get r i = some (.inst 808 [(ofString "name", .str (ofString x))])
 | .un a b, v => ∃ r i r1 i1 r2 i2, v = .ref r i /\ H.get r i = some (.inst 864 [(ofString "op", .str (ofString "|")), (ofString "left", .ref r1 i1), (ofString "right", .ref r2 i2)]) /\ IsNE H a (.ref r1 i1) /\ IsNE H b (.ref r2 i2)
theorem IsNE.ext {H H' : Hp} (x : Ext H H') : ∀ {e : NE} {v : V}, IsNE H e v -> IsNE H' e v
 | .var _, _, h => by obtain ⟨r, i, e1, g⟩ := h; exact ⟨r, i, e1, x.keep _ _ _ g⟩
 | .un _ _, _, h => by obtain ⟨r, i, r1, i1, r2, i2, e1, g, h1, h2⟩ := h; exact ⟨r, i, r1, i1, r2, i2, e1, x.keep _ _ _ g, IsNE.ext x h1, IsNE.ext x h2⟩
noncomputable def NE.sem (S : String -> List Nat) (T : List Row) : NE -> List Nat
 | .var x => S x
 | .un a b => (everyOf T).filter fun m => m ∈ a.sem S T \/ m ∈ b.sem S T
noncomputable def NE.isUn : NE -> Prop
 | .var _ => False
 | .un _ _ => True
noncomputable def NE.vars : NE -> List String
 | .var x => [x]
 | .un a b => a.vars ++ b.vars
noncomputable def NE.need : NE -> Nat
 | .var _ => 8
 | .un a b => max a.need b.need + 2
def VarsAt (H : Hp) (vs : Nat × Nat) (S : String -> List Nat) (xs : List String) : Prop := ∃ es, H.get vs.1 vs.2 = some (.dict es) /\ ∀ x ∈ xs, abc x /\ ∃ r i, inD (.str (ofString x)) es = some (.ref r i) /\ H.get r i = some (.list ((S x).map nV))
theorem VarsAt.ext {H H' : Hp} {vs S xs} (x : Ext H H') (h : VarsAt H vs S xs) : VarsAt H' vs S xs := by
 obtain ⟨es, g, h⟩ := h;refine ⟨es, x.keep _ _ _ g, fun y hy => ?_⟩;obtain ⟨a, r, i, e, g⟩ := h y hy;exact ⟨a, r, i, e, x.keep _ _ _ g⟩
def SOk (S : String -> List Nat) (T : List Row) (xs : List String) : Prop := ∀ x ∈ xs, (∀ m ∈ S x, m < T.length) /\ (S x).length <= 400
theorem sem_ok {S : String -> List Nat} {T : List Row} {xs : List String} (w : Wf T) (hT : T.length <= 50) (s : SOk S T xs) : ∀ e : NE, (∀ x ∈ e.vars, x ∈ xs) -> (∀ m ∈ e.sem S T, m < T.length) /\ (e.sem S T).length <= 400
 | .var x, h => s x (h x (mem_cons_self ..))
 | .un a b, h => ⟨fun m hm => (mem_every w).1 (List.mem_filter.1 hm).1, by
   have h1 := List.length_filter_le (fun m => decide (m ∈ a.sem S T \/ m ∈ b.sem S T)) (everyOf T);have h2 := nodup_len _ _ (every_nodup w) fun x hx => (mem_every w).1 hx;exact le_trans h1 (le_trans h2 (le_trans hT (by decide)))⟩
section
variable {B : Bs} (K : BOk B) {H : Hp} {d : Nat}
include K
theorem l_evalVar (hk : Hok H) {c : Cx} {rc ic : Nat} (gc : H.get rc ic = some (.inst 1079 (cxF c))) {S : String -> List Nat} {xs : List String} (hv : VarsAt H c.vs S xs) {x : String} (hx : x ∈ xs) {v : V} (h : IsNE H (.var x) v) :
  ∃ r i H', FnJ B (d + 2) 1040 [v, .ref rc ic] H (.ref r i, H') /\ Ext H H' /\ H'.get r i = some (.list ((S x).map nV)) := by
 obtain ⟨r, i, rfl, g⟩ := h;obtain ⟨es, ge, hes⟩ := hv;obtain ⟨ha, rx, ix, hin, gx⟩ := hes x hx;have e1 := (Ext.refl hk).push (.tup [.ref 0 752, .ref 0 780]);have g1 := e1.keep _ _ _ g;have g2 := get_push_new H (.tup [.ref 0 752, .ref 0 780]);have gc1 := e1.keep _ _ _ gc;have e2 := e1.push (.tup [.str (sO ""), .str (sO ""), .str (ofString x)]);have t1 := get_push_new (H.push (.tup [.ref 0 752, .ref 0 780])) (.tup [.str (sO ""), .str (sO ""), .str (ofString x)]);have gc2 := e2.keep _ _ _ gc;have ge2 := e2.keep _ _ _ ge;have z1 : H.get 0 948 = none := hk.zero 948 rfl;have z2 : (H.push (.tup [.ref 0 752, .ref 0 780])).get 0 864 = none := e1.ok.zero 864 rfl;have z3 : (H.push (.tup [.ref 0 752, .ref 0 780])).get 0 836 = none := e1.ok.zero 836 rfl;have z4 : (H.push (.tup [.ref 0 752, .ref 0 780])).get 0 892 = none := e1.ok.zero 892 rfl;have z5 : (H.push (.tup [.ref 0 752, .ref 0 780])).get 0 808 = none := e1.ok.zero 808 rfl;have z6 : (H.push (.tup [.ref 0 752, .ref 0 780])).get 0 920 = none := e1.ok.zero 920 rfl;have w : FnJ B (d + 2) 1040 [.ref r i, .ref rc ic] H (.ref rx ix, (H.push (.tup [.ref 0 752, .ref 0 780])).push (.tup [.str (sO ""), .str (sO ""), .str (ofString x)])) := by
  rcases ha with rfl | rfl | rfl
  ·exact fnJ_of K rfl [.o g, .oo z1, .c, .c, .o g1, .o g2, .o g1, .oo z2, .o g1, .oo z3, .o g1, .oo z4, .o g1, .oo z5, .o gc1, .o g1, .c, .c, .c, .o t1, .c, .o gc2, .c, .o ge2, .c, .ov hin, .o gc2, .c, .o ge2, .c, .v hin] (by kernel_rfl)
  ·exact fnJ_of K rfl [.o g, .oo z1, .c, .c, .o g1, .o g2, .o g1, .oo z2, .o g1, .oo z3, .o g1, .oo z4, .o g1, .oo z5, .o gc1, .o g1, .c, .c, .c, .o t1, .c, .o gc2, .c, .o ge2, .c, .ov hin, .o gc2, .c, .o ge2, .c, .v hin] (by kernel_rfl)
  ·exact fnJ_of K rfl [.o g, .oo z1, .c, .c, .o g1, .o g2, .o g1, .oo z2, .o g1, .oo z3, .o g1, .oo z4, .o g1, .oo z5, .o gc1, .o g1, .c, .c, .c, .o t1, .c, .o gc2, .c, .o ge2, .c, .ov hin, .o gc2, .c, .o ge2, .c, .v hin] (by kernel_rfl)
 exact ⟨_, _, _, w, e2, e2.keep _ _ _ gx⟩
end
theorem NE.need_le : ∀ e : NE, 8 <= e.need
 | .var _ => Nat.le_refl _
 | .un a b => le_trans (a.need_le) (le_trans (Nat.le_max_left ..) (Nat.le_add_right _ 2))
section
variable {B : Bs} (K : BOk B)
include K
theorem l_evalNE {ad : Role -> Nat × Nat} {T : List Row} (w : Wf T) (hc : ∀ p, (kids T p).length <= 50) (hT : T.length <= 50) {S : String -> List Nat} {xs : List String} (so : SOk S T xs) {rc ic : Nat} : ∀ (e : NE), (∀ x ∈ e.vars, x ∈ xs) -> ∀ (H : Hp) (c : Cx) (v : V), Hok H -> TreeL H ad T -> c.tr = ad .tree ->
  H.get rc ic = some (.inst 1079 (cxF c)) -> VarsAt H c.vs S xs -> IsNE H e v ->
  ∃ r i H', FnJ B e.need 1040 [v, .ref rc ic] H (.ref r i, H') /\ Ext H H' /\ H'.get r i = some (.list ((e.sem S T).map nV)) /\ (e.isUn -> H.get r i = none)
 | .var x, hx, H, c, v, hk, t, htr, gc, hv, h =>
  let ⟨r, i, H', s, x, g⟩ := l_evalVar K hk gc hv (hx x (mem_cons_self ..)) h (d := 6)
  ⟨r, i, H', s, x, g, False.elim⟩
 | .un a b, hx, H, c, v, hk, t, htr, gc, hv, h => by
  have hxa : ∀ x ∈ a.vars, x ∈ xs := fun x h => hx x (List.mem_append_left _ h);have hxb : ∀ x ∈ b.vars, x ∈ xs := fun x h => hx x (List.mem_append_right _ h);have sa := sem_ok w hT so a hxa;have sb := sem_ok w hT so b hxb;obtain ⟨r, i, r1, i1, r2, i2, rfl, g, ha, hb⟩ := h;have e1 := (Ext.refl hk).push (.tup [.ref 0 752, .ref 0 780]);have g1 := e1.keep _ _ _ g;have t1 := get_push_new H (.tup [.ref 0 752, .ref 0 780]);have gc1 := e1.keep _ _ _ gc;have z1 : H.get 0 948 = none := hk.zero 948 rfl;have z2 : (H.push (.tup [.ref 0 752, .ref 0 780])).get 0 864 = none := e1.ok.zero 864 rfl;have e2 := e1.push (.tup [.str (sO "|"), rf c.tr])
  have g2 := e2.keep _ _ _ g;have t2 := get_push_new (H.push (.tup [.ref 0 752, .ref 0 780])) (.tup [.str (sO "|"), rf c.tr])
  obtain ⟨ra, ia, H3, s3, x3, g3, -⟩ := l_evalNE w hc hT so a hxa _ c (.ref r1 i1) e2.ok (t.ext e2) htr (e2.keep _ _ _ gc) (hv.ext e2) (ha.ext e2);have y3 := e2.trans x3;have gd := y3.keep _ _ _ g;obtain ⟨rb, ib, H4, s4, x4, g4, -⟩ := l_evalNE w hc hT so b hxb _ c (.ref r2 i2) y3.ok (t.ext y3) htr (y3.keep _ _ _ gc) (hv.ext y3) (hb.ext y3);have y4 := y3.trans x4;have g34 := x4.keep _ _ _ g3;obtain ⟨r5, i5, H5, s5, x5, g5, n5⟩ := l_united K y4.ok (t.ext y4) w hc hT g34 g4 sa.1 sb.1 sa.2 sb.2 (d := 0);rw [<- htr] at s5;obtain ⟨D, hD⟩ : ∃ D, max a.need b.need = D + 8 := ⟨max a.need b.need - 8, (Nat.sub_add_cancel (le_trans a.need_le (Nat.le_max_left ..))).symm⟩;have s3 := s3.up (hD ▸ Nat.le_max_left ..);have s4 := s4.up (hD ▸ Nat.le_max_right ..);have s5 := s5.up (d' := D + 8) (le_trans (by decide) (Nat.le_add_left 8 D))
  have w : FnJ B (D + 10) 1040 [.ref r i, .ref rc ic] H (.ref r5 i5, H5) := by
   exact fnJ_of K rfl [.o g, .oo z1, .c, .c, .o g1, .o t1, .o g1, .oo z2, .c, .o g1, .c, .o gc1, .c, .c, .c, .o t2, .c, .c, .o g2, .c, .vh s3, .o gd, .c, .vh s4, .c, .c, .o g34, .c, .o g4, .vh s5] (by kernel_rfl)
  exact ⟨r5, i5, H5, (by show FnJ B (max a.need b.need + 2) _ _ _ _; rw [hD]; exact w), y4.trans x5, g5, fun _ => y4.before n5⟩
end
noncomputable def IsPE (H : Hp) : PE -> V -> Prop
 | .num n, v => ∃ r i r1 i1, v = .ref r i /\ H.get r i = some (.inst 780 [(ofString "value", .ref r1 i1)]) /\ H.get r1 i1 = some (.tup [nV n, .int 1])
 | .last, v => ∃ r i r1 i1, v = .ref r i /\ H.get r i = some (.inst 836 [(ofString "name", .str (ofString "last")), (ofString "arguments", .ref r1 i1)]) /\ H.get r1 i1 = some (.tup [])
 | .gt n, v => ∃ r i r1 i1 r2 i2 r3 i3 r4 i4, v = .ref r i /\ H.get r i = some (.inst 864 [(ofString "op", .str (ofString ">")), (ofString "left", .ref r1 i1), (ofString "right", .ref r2 i2)]) /\
   H.get r1 i1 = some (.inst 836 [(ofString "name", .str (ofString "position")), (ofString "arguments", .ref r3 i3)]) /\ H.get r3 i3 = some (.tup []) /\ H.get r2 i2 = some (.inst 780 [(ofString "value", .ref r4 i4)]) /\ H.get r4 i4 = some (.tup [nV n, .int 1])
theorem IsPE.ext {H H' : Hp} (x : Ext H H') : ∀ {e : PE} {v : V}, IsPE H e v -> IsPE H' e v
 | .num _, _, h => by obtain ⟨r, i, r1, i1, e1, g, g1⟩ := h; exact ⟨r, i, r1, i1, e1, x.keep _ _ _ g, x.keep _ _ _ g1⟩
 | .last, _, h => by obtain ⟨r, i, r1, i1, e1, g, g1⟩ := h; exact ⟨r, i, r1, i1, e1, x.keep _ _ _ g, x.keep _ _ _ g1⟩
 | .gt _, _, h => by obtain ⟨r, i, r1, i1, r2, i2, r3, i3, r4, i4, e1, g, g1, g2, g3, g4⟩ := h; exact ⟨r, i, r1, i1, r2, i2, r3, i3, r4, i4, e1, x.keep _ _ _ g, x.keep _ _ _ g1, x.keep _ _ _ g2, x.keep _ _ _ g3, x.keep _ _ _ g4⟩
noncomputable def PE.val (pos sz : Nat) : PE -> Bool
 | .num n => decide (n = pos)
 | .last => decide (sz = pos)
 | .gt n => decide (n < pos)
section
variable {B : Bs} (K : BOk B) {H : Hp} {d : Nat}
include K
theorem l_evalNum (hk : Hok H) {v : V} {r i rb ib : Nat} (g : H.get r i = some (.inst 780 [(sO "value", .ref rb ib)])) : FnJ B (d + 1) 1040 [.ref r i, v] H (.ref rb ib, H.push (.tup [.ref 0 752, .ref 0 780])) := by
 have e1 := (Ext.refl hk).push (.tup [.ref 0 752, .ref 0 780]);have g1 := e1.keep _ _ _ g;have t1 := get_push_new H (.tup [.ref 0 752, .ref 0 780]);have z1 : H.get 0 948 = none := hk.zero 948 rfl;exact fnJ_of K rfl [.o g, .oo z1, .c, .c, .o g1, .o t1, .o g1, .c] (by kernel_rfl)
theorem l_call0 (hk : Hok H) {x : String} (hx : x = "last" \/ x = "position") {rc ic : Nat} {c : Cx} (gc : H.get rc ic = some (.inst 1079 (cxF c))) {n : Nat} (hn : n <= 1000) (he : (if x = "last" then c.sz else c.pos) = n) {r i r1 i1 : Nat}
  (g : H.get r i = some (.inst 836 [(sO "name", .str (ofString x)), (sO "arguments", .ref r1 i1)])) (g1 : H.get r1 i1 = some (.tup [])) :
  ∃ r2 i2 H', FnJ B (d + 12) 1040 [.ref r i, .ref rc ic] H (.ref r2 i2, H') /\ Ext H H' /\ H'.get r2 i2 = some (.tup [nV n, .int 1]) := by
 have m1 : Made H _ [_] := (Made.start hk).push (.tup [.ref 0 752, .ref 0 780]);have t1 := m1.got 0 _ rfl;have g2 := m1.ext.keep _ _ _ g;have z1 : H.get 0 948 = none := hk.zero 948 rfl;have z2 : (H.push (.tup [.ref 0 752, .ref 0 780])).get 0 864 = none := m1.ext.ok.zero 864 rfl;have z3 : (H.push (.tup [.ref 0 752, .ref 0 780])).get 0 836 = none := m1.ext.ok.zero 836 rfl;have m2 : Made H _ [_, _] := m1.push (.cell none);have c2 := m2.got 1 _ rfl;have r0 := hk.pos;obtain ⟨b3, t3, e3, m3⟩ : ∃ b t, _ = (⟨b, H.reg, t, H.nxt + 2⟩ : Hp) /\ Made H ⟨b, H.reg, t, H.nxt + 2⟩ [_, _] := m2.set 1 (.cell (some (.ref rc ic))) (Nat.succ_lt_succ (Nat.zero_lt_succ _));have c3 := m3.got 1 _ rfl;have g3 := m3.ext.keep _ _ _ g;have g13 := m3.ext.keep _ _ _ g1;have m4 : Made H _ [_, _, _] := m3.push (.list []);have g14 := m4.ext.keep _ _ _ g1;have g4 := m4.ext.keep _ _ _ g;have t4 := m4.got 2 _ rfl;have c4 := m4.got 1 _ rfl;have z4 := m4.ext.ok.zero 546 rfl;have z5 := m4.ext.ok.zero 550 rfl;have m5 : Made H _ [_, _, _, _] := m4.push (.tup [nV 0, nV 0]);have t5 := m5.got 3 _ rfl;have t6 := m5.got 2 _ rfl;have z6 := m5.ext.ok.zero 546 rfl;have gc5 := m5.ext.keep _ _ _ gc;obtain ⟨r7, i7, H7, s7, x7, g7⟩ := l_number K m5.ext.ok n hn (d := d + 5);have w : FnJ B (d + 12) 1040 [.ref r i, .ref rc ic] H (.ref r7 i7, H7) := by
  rcases hx with rfl | rfl
  ·obtain rfl : c.sz = n := he;exact fnJ_of K rfl [.o g, .oo z1, .c, .c, .o g2, .o t1, .o g2, .oo z2, .o g2, .oo z3, .c, .c, .o c2, .y r0, .h e3, .o g3, .c, .o g13, .c, .c, .o g14, .c, .o g4, .c, .c, .oo z4, .c, .o g4, .c, .o c4, .c, .c, .oo z4, .c, .c, .c, .oo z5, .c, .c, .c, .o t5, .o t6, .c, .c, .c, .oo z6, .c, .c, .c, .o gc5, .c, .vh s7] (by kernel_rfl)
  ·obtain rfl : c.pos = n := he;exact fnJ_of K rfl [.o g, .oo z1, .c, .c, .o g2, .o t1, .o g2, .oo z2, .o g2, .oo z3, .c, .c, .o c2, .y r0, .h e3, .o g3, .c, .o g13, .c, .c, .o g14, .c, .o g4, .c, .c, .oo z4, .c, .o g4, .c, .o c4, .c, .c, .oo z4, .c, .c, .c, .oo z5, .c, .c, .c, .o t5, .o t6, .c, .c, .c, .oo z6, .c, .c, .c, .c, .o gc5, .c, .vh s7] (by kernel_rfl)
 exact ⟨_, _, _, w, m5.ext.trans x7, g7⟩
theorem l_holds_num (hk : Hok H) {r i n p : Nat} (g : H.get r i = some (.tup [nV n, .int 1])) : FnJ B (d + 1) 690 [.ref r i, nV p] H (.bool (decide (n = p)), H.push (.tup [nV p, .int 1])) := by
 have g1 := get_push_old hk (.tup [nV p, .int 1]) g;have g2 := get_push_new H (.tup [nV p, .int 1]);have e : eqL [nV n, .int 1] [nV p, .int 1] = some (decide (n = p)) := by
  show some (decide ((n : Int) = p) && true) = _;rw [Bool.and_true];exact congrArg some (decide_eq_decide.2 ⟨Int.ofNat.inj, congrArg _⟩)
 cases q : decide (n = p) with
 | true =>
  rw [q] at e;exact fnJ_of K rfl [.o g, .c, .c, .o g1, .o g2, .c, .bo e] (by kernel_rfl)
 | false =>
  rw [q] at e;exact fnJ_of K rfl [.o g, .c, .c, .o g1, .o g2, .c, .bo e] (by kernel_rfl)
theorem l_holds_bool {b : Bool} {p : Nat} : FnJ B (d + 1) 690 [.bool b, nV p] H (.bool b, H) := by
 exact fnJ_of K rfl [] (by kernel_rfl)
theorem l_evalPE (hk : Hok H) {rc ic : Nat} {c : Cx} (gc : H.get rc ic = some (.inst 1079 (cxF c))) (hs : c.sz <= 1000) (hp : c.pos <= 1000) (e : PE) {v : V} (h : IsPE H e v) :
  ∃ v5 H5 H6, FnJ B (d + 14) 1040 [v, .ref rc ic] H (v5, H5) /\ FnJ B (d + 14) 690 [v5, nV c.pos] H5 (.bool (e.val c.pos c.sz), H6) /\ Ext H H6 := by
 cases e with
 | num n =>
  obtain ⟨r, i, r1, i1, rfl, g, g1⟩ := h;have e1 := (Ext.refl hk).push (.tup [.ref 0 752, .ref 0 780]);exact ⟨_, _, _, l_evalNum K hk g, l_holds_num K e1.ok (e1.keep _ _ _ g1), e1.push _⟩
 | last =>
  obtain ⟨r, i, r1, i1, rfl, g, g1⟩ := h;obtain ⟨r2, i2, H', s, x, g2⟩ := l_call0 K hk (.inl rfl) gc hs rfl g g1 (d := d + 2);exact ⟨_, _, _, s, l_holds_num K x.ok g2, x.push _⟩
 | gt n =>
  obtain ⟨r, i, r1, i1, r2, i2, r3, i3, r4, i4, rfl, g, ga, gb, gd, ge⟩ := h;have m1 : Made H _ [_] := (Made.start hk).push (.tup [.ref 0 752, .ref 0 780]);have t1 := m1.got 0 _ rfl;have g1 := m1.ext.keep _ _ _ g;have gc1 := m1.ext.keep _ _ _ gc;have z1 : H.get 0 948 = none := hk.zero 948 rfl;have z2 : (H.push (.tup [.ref 0 752, .ref 0 780])).get 0 864 = none := m1.ext.ok.zero 864 rfl;have m2 : Made H _ [_, _] := m1.push (.tup [.str (sO ">"), rf c.tr]);have t2 := m2.got 1 _ rfl;have g2 := m2.ext.keep _ _ _ g;obtain ⟨ra, ia, H3, s3, x3, g3⟩ := l_call0 K m2.ext.ok (.inr rfl) (m2.ext.keep _ _ _ gc) hp rfl (m2.ext.keep _ _ _ ga) (m2.ext.keep _ _ _ gb) (d := d);have y3 := m2.ext.trans x3;have g4 := y3.keep _ _ _ g;have s4 := l_evalNum K y3.ok (y3.keep _ _ _ gd) (v := .ref rc ic) (d := d + 11);have y4 := y3.push (.tup [.ref 0 752, .ref 0 780]);have g34 := get_push_old y3.ok (.tup [.ref 0 752, .ref 0 780]) g3;have g44 := y4.keep _ _ _ ge;have z4 : (H3.push (.tup [.ref 0 752, .ref 0 780])).get 0 981 = some (.tup [.str (sO "="), .str (sO "!="), .str (sO "<"), .str (sO "<="), .str (sO ">"), .str (sO ">=")]) := y4.ok.zero 981 rfl;have w : FnJ B (d + 14) 1040 [.ref r i, .ref rc ic] H (.bool (decide (n < c.pos)), H3.push (.tup [.ref 0 752, .ref 0 780])) := by
   cases q : decide (n < c.pos) with
   | true =>
    have q1 : 0 < (c.pos : Int) * 1 - n * 1 := by rw [Int.mul_one, Int.mul_one]; exact Int.sub_pos.2 (Int.ofNat_lt.2 (of_decide_eq_true q))
    exact fnJ_of K rfl [.o g, .oo z1, .c, .c, .o g1, .o t1, .o g1, .oo z2, .c, .o g1, .c, .o gc1, .c, .c, .c, .o t2, .c, .c, .o g2, .c, .vh s3, .o g4, .c, .vh s4, .c, .o z4, .c, .c, .o g34, .o g44, .c, .c, .c, .c, .c, .o g34, .c, .o g44, .c, .c, .o g34, .c, .c, .c, .o g44, .c, .c, .c, .o g34, .c, .c, .o g44, .c, .c, .o g34, .c, .o g44, .c, .c, .o g44, .c, .o g34, .c, .c, .c, .y q1, .c, .c, .c, .c, .c, .c] (by kernel_rfl)
   | false =>
    have q1 : ¬ 0 < (c.pos : Int) * 1 - n * 1 := by rw [Int.mul_one, Int.mul_one]; exact fun z => of_decide_eq_false q (Int.ofNat_lt.1 (Int.sub_pos.1 z))
    by_cases q2 : (c.pos : Int) * 1 - n * 1 < 0
    ·exact fnJ_of K rfl [.o g, .oo z1, .c, .c, .o g1, .o t1, .o g1, .oo z2, .c, .o g1, .c, .o gc1, .c, .c, .c, .o t2, .c, .c, .o g2, .c, .vh s3, .o g4, .c, .vh s4, .c, .o z4, .c, .c, .o g34, .o g44, .c, .c, .c, .c, .c, .o g34, .c, .o g44, .c, .c, .o g34, .c, .c, .c, .o g44, .c, .c, .c, .o g34, .c, .c, .o g44, .c, .c, .o g34, .c, .o g44, .c, .c, .o g44, .c, .o g34, .c, .c, .c, .n q1, .y q2, .c, .c, .c, .c, .c, .c] (by kernel_rfl)
    ·exact fnJ_of K rfl [.o g, .oo z1, .c, .c, .o g1, .o t1, .o g1, .oo z2, .c, .o g1, .c, .o gc1, .c, .c, .c, .o t2, .c, .c, .o g2, .c, .vh s3, .o g4, .c, .vh s4, .c, .o z4, .c, .c, .o g34, .o g44, .c, .c, .c, .c, .c, .o g34, .c, .o g44, .c, .c, .o g34, .c, .c, .c, .o g44, .c, .c, .c, .o g34, .c, .c, .o g44, .c, .c, .o g34, .c, .o g44, .c, .c, .o g44, .c, .o g34, .c, .c, .c, .n q1, .n q2, .c, .c, .c, .c, .c, .c] (by kernel_rfl)
  exact ⟨_, _, _, w, l_holds_bool K, y4⟩
end
noncomputable def keepK (p : PE) (xs : List Nat) : Nat -> List Nat
 | 0 => []
 | k + 1 => keepK p xs k ++ if p.val (k + 1) xs.length = true then (xs[k]?).toList else []
theorem keepK_succ (p : PE) (xs : List Nat) (k : Nat) : keepK p xs (k + 1) = keepK p xs k ++ if p.val (k + 1) xs.length = true then (xs[k]?).toList else [] := rfl
noncomputable def keptBy (xs : List Nat) (p : PE) : List Nat := keepK p xs xs.length
theorem keepK_len (p : PE) (xs : List Nat) : ∀ k, (keepK p xs k).length <= k
 | 0 => Nat.le_refl _
 | k + 1 => by
  unfold keepK;rw [length_append];refine Nat.add_le_add (keepK_len p xs k) ?_;split
  ·cases xs[k]? with
   | none => exact Nat.zero_le _
   | some => exact Nat.le_refl _
  ·exact Nat.zero_le _
theorem keptBy_len (xs : List Nat) (p : PE) : (keptBy xs p).length <= xs.length := keepK_len p xs _
theorem keepK_num (j : Nat) (xs : List Nat) : ∀ k, keepK (.num j) xs k = if 1 <= j /\ j <= k then (xs[j - 1]?).toList else []
 | 0 => by rw [if_neg fun z => absurd (le_trans z.1 z.2) (by decide)]; rfl
 | k + 1 => by
  rw [keepK_succ, keepK_num j xs k];show _ ++ (if decide (j = k + 1) = true then _ else _) = _
  by_cases e : j = k + 1
  ·rw [if_neg fun z => absurd z.2 (Nat.not_le.2 (Nat.lt_of_lt_of_eq (Nat.lt_succ_self k) e.symm)), if_pos (decide_eq_true e), if_pos ⟨Nat.lt_of_lt_of_eq (Nat.succ_pos k) e.symm, le_of_eq e⟩, e]; rfl
  ·rw [if_neg (show ¬ (decide (j = k + 1) = true) from fun z => e (of_decide_eq_true z)), List.append_nil]
   by_cases q : 1 <= j /\ j <= k
   ·rw [if_pos q, if_pos ⟨q.1, Nat.le_succ_of_le q.2⟩]
   ·rw [if_neg q, if_neg fun z => q ⟨z.1, Nat.le_of_lt_succ (Nat.lt_of_le_of_ne z.2 e)⟩]
theorem keepK_last (xs : List Nat) : ∀ k, k <= xs.length -> keepK .last xs k = if 1 <= k /\ k = xs.length then (xs[k - 1]?).toList else []
 | 0, _ => by rw [if_neg fun z => absurd z.1 (by decide)]; rfl
 | k + 1, h => by
  rw [keepK_succ, keepK_last xs k (Nat.le_of_succ_le h), if_neg fun z => absurd z.2 (Nat.ne_of_lt h), List.nil_append];show (if decide (xs.length = k + 1) = true then _ else _) = _
  by_cases e : xs.length = k + 1
  ·rw [if_pos (decide_eq_true e), if_pos ⟨Nat.succ_pos k, e.symm⟩]; rfl
  ·rw [if_neg (show ¬ (decide (xs.length = k + 1) = true) from fun z => e (of_decide_eq_true z)), if_neg fun z => e z.2.symm]
theorem keepK_gt (n : Nat) (xs : List Nat) : ∀ k, k <= xs.length -> keepK (.gt n) xs k = (xs.take k).drop n
 | 0, _ => by rw [List.take_zero, List.drop_nil]; rfl
 | k + 1, h => by
  rw [keepK_succ, keepK_gt n xs k (Nat.le_of_succ_le h)];show _ ++ (if decide (n < k + 1) = true then _ else _) = _
  have hk : k < xs.length := h;rw [List.take_add_one, List.getElem?_eq_getElem hk];by_cases e : n < k + 1
  ·rw [if_pos (decide_eq_true e), List.drop_append_of_le_length (by rw [List.length_take, Nat.min_eq_left (Nat.le_of_succ_le h)]; exact Nat.le_of_lt_succ e)]
  ·rw [if_neg (show ¬ (decide (n < k + 1) = true) from fun z => e (of_decide_eq_true z)), List.append_nil, List.drop_of_length_le (le_trans (List.length_take_le _ _) (Nat.le_of_succ_le (Nat.not_lt.1 e))), List.drop_of_length_le (by rw [length_append]; exact le_trans (Nat.succ_le_succ (List.length_take_le _ _)) (Nat.not_lt.1 e))]
theorem kept_num (j : Nat) (xs : List Nat) (h : 1 <= j) : keptBy xs (.num j) = (xs.drop (j - 1)).take 1 := by
 unfold keptBy;rw [keepK_num];have e : (xs.drop (j - 1)).take 1 = (xs[j - 1]?).toList := by
  by_cases q : j - 1 < xs.length
  ·rw [List.drop_eq_getElem_cons q, List.getElem?_eq_getElem q]; rfl
  ·rw [List.drop_of_length_le (Nat.not_lt.1 q), List.getElem?_eq_none (Nat.not_lt.1 q)]; rfl
 rw [e];by_cases q : j <= xs.length
 ·rw [if_pos ⟨h, q⟩]
 ·rw [if_neg (fun z => q z.2), List.getElem?_eq_none (Nat.le_sub_one_of_lt (Nat.not_le.1 q))]; rfl
theorem kept_last (xs : List Nat) : keptBy xs .last = xs.drop (xs.length - 1) := by
 unfold keptBy;rw [keepK_last xs _ (Nat.le_refl _)];cases xs with
 | nil => rfl
 | cons x xs =>
  have q : (x :: xs).length - 1 < (x :: xs).length := by simp
  rw [if_pos ⟨by simp, rfl⟩, List.drop_eq_getElem_cons q, List.getElem?_eq_getElem q, List.drop_of_length_le (by simp)]; rfl
theorem kept_gt (n : Nat) (xs : List Nat) : keptBy xs (.gt n) = xs.drop n := by
 unfold keptBy;rw [keepK_gt n xs _ (Nat.le_refl _), List.take_of_length_le (Nat.le_refl _)]
noncomputable def AllPE (H : Hp) : List PE -> List V -> Prop
 | [], [] => True
 | p :: ps, v :: vs => IsPE H p v /\ AllPE H ps vs
 | _, _ => False
theorem AllPE.ext {H H' : Hp} (x : Ext H H') : ∀ {ps : List PE} {vs : List V}, AllPE H ps vs -> AllPE H' ps vs
 | [], [], _ => trivial
 | _ :: _, _ :: _, h => ⟨h.1.ext x, AllPE.ext x h.2⟩

noncomputable def defC (cl : List (Str × Nat × Nat)) (q : Str) : Stmt -> Clo
 | .FunctionDef name args body _ _ _ scope _ _ _ => ⟨name, q ++ ".<locals>." ++ name, args.args.map (·.arg), args, .stmts body, scope, cl⟩
 | _ => ⟨"", "", [], ⟨[], [], none, [], [], none, []⟩, .stmts [], ⟨.function, [], false, false, []⟩, []⟩
noncomputable def askC (cr ci : Nat) : Clo := defC [(sO "context", cr, ci)] (fnOf 1007).qual (stAt (bodyOf 1007) 0)
def IsAsk (H : Hp) (rc ic : Nat) (u : V) : Prop := ∃ r a cr ci, u = .ref (r + 1) a /\ H.get (r + 1) a = some (.clo (askC cr ci)) /\ H.get cr ci = some (.cell (some (.ref rc ic)))
theorem IsAsk.ext {H H' : Hp} (x : Ext H H') {rc ic : Nat} {u : V} : IsAsk H rc ic u -> IsAsk H' rc ic u :=
 fun h => by obtain ⟨r, a, cr, ci, e, h2, h3⟩ := h; exact ⟨r, a, cr, ci, e, x.keep _ _ _ h2, x.keep _ _ _ h3⟩
section
variable {B : Bs} {d : Nat} {t : Expr} {b : List Stmt} {e : En} {J : Nat -> Hp -> Prop}
theorem fo_enm (ht : ∃ ts n pos, t = .Tuple ts n pos) {r i : Nat} {xs : List V} (hS : ∀ k H, J k H -> H.get r i = some (.list xs)) (st : ∀ H k v, xs[k]? = some v -> J k H -> ∃ f H', TurnJ B d e (H.push (.tup [.int k, v])) t (.ref H.reg H.nxt) b (f, e, H') /\ (f = .next \/ f = .cont) /\ J (k + 1) H') :
  ∀ m k H, k + m = xs.length -> J k H -> ∃ H', FoJ B d e H t (.enm r i k) b (.next, e, H') /\ J xs.length H'
 | 0, k, H, hm, hj => ⟨H, foJ_end (next_enm0 (hS k H hj) (List.getElem?_eq_none (le_of_eq hm.symm))), by rw [<- hm]; exact hj⟩
 | m + 1, k, H, hm, hj => by
  have hk : k < xs.length := by rw [<- hm]; exact Nat.lt_add_of_pos_right (Nat.zero_lt_succ m)
  obtain ⟨f, H1, k1, kf, k2⟩ := st H k _ (List.getElem?_eq_getElem hk) hj;obtain ⟨H2, k3, k4⟩ := fo_enm ht hS st m (k + 1) H1 (by rw [<- hm, Nat.add_assoc, Nat.add_comm 1 m]) k2
  obtain ⟨ts, n, pos, h⟩ := ht;exact ⟨H2, foJ_step (by rw [h]; exact next_enm1 (hS k H hj) (List.getElem?_eq_getElem hk)) k1 (by rcases kf with rfl | rfl <;> exact k3) kf, k4⟩
end
section
variable {B : Bs} (K : BOk B) {H : Hp} {d : Nat}
include K
theorem l_asker (hk : Hok H) {rc ic : Nat} : ∃ u H', FnJ B (d + 1) 1007 [.ref rc ic] H (u, H') /\ IsAsk H' rc ic u /\ Ext H H' := by
 obtain ⟨bs, r, tr, n⟩ := H;cases r with
 | zero => exact absurd rfl hk.pos
 | succ r =>
  have m0 : Made ⟨bs, r + 1, tr, n⟩ _ [_] := (Made.start hk).push (.cell none);have c0 := m0.got 0 _ rfl;have r0 := hk.pos;obtain ⟨b1, t1, e1, m1⟩ : ∃ b t, _ = (⟨b, r + 1, t, n + 1⟩ : Hp) /\ Made ⟨bs, r + 1, tr, n⟩ ⟨b, r + 1, t, n + 1⟩ [_] := m0.set 0 (.cell (some (.ref rc ic))) (Nat.zero_lt_succ _);have m2 : Made ⟨bs, r + 1, tr, n⟩ _ [_, _] := m1.push (.clo (askC (r + 1) n));have w : FnJ B (d + 1) 1007 [.ref rc ic] ⟨bs, r + 1, tr, n⟩ (.ref (r + 1) (n + 1), Hp.push ⟨b1, r + 1, t1, n + 1⟩ (.clo (askC (r + 1) n))) := by
   exact fnJ_of K rfl [.c, .o c0, .y r0, .h e1, .c] (by kernel_rfl)
  exact ⟨_, _, w, ⟨r, n + 1, r + 1, n, rfl, m2.got 1 _ rfl, m2.got 0 _ rfl⟩, m2.ext⟩
end
noncomputable abbrev kFor : Stmt := stAt (bodyOf 697) 0
noncomputable abbrev kIn : Stmt := stAt (forB kFor) 2
noncomputable def kE0 (rN iN r1 i1 : Nat) (u : V) : En := loE 697 [(sO "nodes", .ref rN iN), (sO "predicates", .ref r1 i1), (sO "value_of", u)]
noncomputable def kE1 (rN iN r1 i1 : Nat) (u v : V) (n rF iF : Nat) : En := loE 697 [(sO "nodes", .ref rN iN), (sO "predicates", .ref r1 i1), (sO "value_of", u), (sO "predicate", v), (sO "size", nV n), (sO "found", .ref rF iF)]
section
variable {B : Bs} (K : BOk B) {H : Hp} {d : Nat}
include K
theorem k_in {H1 : Hp} (x1 : Ext H H1) {rc ic : Nat} {c : Cx} (gc : H.get rc ic = some (.inst 1079 (cxF c))) {u : V} (hu : IsAsk H rc ic u) {rN iN r1 i1 : Nat} {cur : List Nat} (gN : H1.get rN iN = some (.list (cur.map nV))) (hl : cur.length <= 400) {p : PE} {v : V} (hpe : IsPE H p v) :
  ∃ H', FoJ B (d + 15) (kE1 rN iN r1 i1 u v cur.length H1.reg H1.nxt) (H1.push (.list [])) (forT kIn) (.enm rN iN 0) (forB kIn) (.next, kE1 rN iN r1 i1 u v cur.length H1.reg H1.nxt, H') /\ Ext H H' /\ H'.get rN iN = some (.list (cur.map nV)) /\ H'.get H1.reg H1.nxt = some (.list ((keptBy cur p).map nV)) := by
 have hz : (cur.map nV).length = cur.length := length_map ..;have n2 := x1.fresh;have hne := x1.ok.old gN;obtain ⟨H', s, x, y, z⟩ := fo_enm (B := B) (d := d + 15) (e := kE1 rN iN r1 i1 u v cur.length H1.reg H1.nxt) (t := forT kIn) (b := forB kIn) ⟨_, _, _, rfl⟩ (r := rN) (i := iN) (xs := cur.map nV)
  (J := fun k H' => Ext H H' /\ H'.get rN iN = some (.list (cur.map nV)) /\ H'.get H1.reg H1.nxt = some (.list ((keepK p cur k).map nV))) (fun k H' h => h.2.1) (fun H3 k w hw h => by
   obtain ⟨x3, gN3, gF3⟩ := h;rw [List.getElem?_map] at hw;obtain ⟨m, hm, rfl⟩ := mpd hw;have hkl : k < cur.length := (List.getElem?_eq_some_iff.1 hm).1;have f1 := get_push_new H3 (.tup [.int k, nV m]);have x4 := x3.push (.tup [.int k, nV m]);have gc4 := x4.keep _ _ _ gc;obtain ⟨ra, aa, cr, ci, rfl, hg, hcell⟩ := hu.ext x4;obtain ⟨r5, i5, H5, s5, x5, g5⟩ := l_at K x4.ok c (x4.keep _ _ _ gc) m (k + 1) cur.length (d := d + 11);obtain ⟨v6, H6, H7, s6, s7, x7⟩ := l_evalPE K x5.ok g5 (le_trans hl (by decide)) (le_trans hkl (le_trans hl (by decide))) p (hpe.ext (x4.trans x5)) (d := d)
   have s7 := s7.up (Nat.le_succ _);have y7 := (x4.trans x5).trans x7;have x47 := x5.trans x7;have gN7 := x47.keep _ _ _ (get_push_old x3.ok (.tup [.int k, nV m]) gN3);have gF7 := x47.keep _ _ _ (get_push_old x3.ok (.tup [.int k, nV m]) gF3);have r0 := y7.own n2 gF7;have hl5 : ((keepK p cur k).map nV).length < limN := by rw [length_map]; exact lt_of_le_of_lt (le_trans (keepK_len p cur k) (le_trans (Nat.le_of_lt hkl) hl)) (by decide)
   cases hb : p.val (k + 1) cur.length with
   | true =>
    rw [show p.val _ _ = true from hb] at s7
    refine ⟨.next, _, ?_, .inl rfl, y7.upd (.list ((keepK p cur k).map nV ++ [nV m])) n2 gF7, ?_, ?_⟩
    ·exact turnJ_of K [sO "nodes", sO "predicates", sO "value_of", sO "predicate", sO "size", sO "found"] [.o f1, .o hg, .o hcell, .o gc4, .vh s5, .vh s6, .vh s7, .o gF7, .o gF7, .y hl5, .y r0, .c] (by kernel_rfl)
    ·rw [Hp.get_upd, if_neg hne]; exact gN7
    ·rw [Hp.get_upd, if_pos ⟨rfl, rfl⟩, keepK_succ, hb, if_pos rfl, hm, List.map_append]; rfl
   | false =>
    rw [show p.val _ _ = false from hb] at s7
    refine ⟨.next, _, ?_, .inl rfl, y7, gN7, ?_⟩
    ·exact turnJ_of K [sO "nodes", sO "predicates", sO "value_of", sO "predicate", sO "size", sO "found"] [.o f1, .o hg, .o hcell, .o gc4, .vh s5, .vh s6, .vh s7] (by kernel_rfl)
    ·rw [keepK_succ, hb, if_neg Bool.false_ne_true, List.append_nil]; exact gF7)
  cur.length 0 _ (by rw [hz, Nat.zero_add]) ⟨x1.push _, get_push_old x1.ok _ gN, get_push_new _ _⟩
 rw [hz] at z;exact ⟨H', s, x, y, z⟩
theorem l_kept (hk : Hok H) {rc ic : Nat} {c : Cx} (gc : H.get rc ic = some (.inst 1079 (cxF c))) {u : V} (hu : IsAsk H rc ic u) {r i : Nat} {xs : List Nat} (g : H.get r i = some (.list (xs.map nV))) (hl : xs.length <= 400)
  {r1 i1 : Nat} {vs : List V} {ps : List PE} (g1 : H.get r1 i1 = some (.tup vs)) (hp : AllPE H ps vs) :
  ∃ r2 i2 H', FnJ B (d + 16) 697 [.ref r i, .ref r1 i1, u] H (.ref r2 i2, H') /\ Ext H H' /\ H'.get r2 i2 = some (.list ((ps.foldl keptBy xs).map nV)) := by
 obtain ⟨e', H', s, x1, rest, rN, iN, cur, h1, h2, h3, rfl, gN⟩ := fo_tup (B := B) (d := d + 15) (t := forT kFor) (b := forB kFor) (r := r1) (i := i1) (xs := vs)
  (J := fun vs e H' => Ext H H' /\ ∃ rest rN iN cur, AllPE H rest vs /\ rest.foldl keptBy cur = ps.foldl keptBy xs /\ cur.length <= 400 /\ e = kE0 rN iN r1 i1 u /\ H'.get rN iN = some (.list (cur.map nV))) (fun vs e H' h => h.1.keep _ _ _ g1) (fun e H1 v vs h => by
   obtain ⟨x1, rest, rN, iN, cur, h1, h2, h3, rfl, gN⟩ := h;cases rest with
   | nil => exact h1.elim
   | cons p rest =>
    obtain ⟨H', s, x, y, z⟩ := k_in K x1 gc hu gN h3 h1.1 (r1 := r1) (i1 := i1) (d := d);have gN2 := get_push_old x1.ok (.list []) gN;have h4 : (cur.map nV).length <= limN := by rw [length_map]; exact le_trans h3 (by decide)
    have h5 : (cur.map nV).length = cur.length := length_map ..;refine ⟨.next, _, H', ?_, .inl rfl, x, rest, H1.reg, H1.nxt, keptBy cur p, h1.2, h2, le_trans (keptBy_len cur p) h3, rfl, z⟩;rw [<- h5] at s;exact turnJ_of K [sO "nodes", sO "predicates", sO "value_of"] [.o gN, .y h4, .c, .c, .o gN2, .fo s] (by kernel_rfl)
    )
  ⟨Ext.refl hk, ps, r, i, xs, hp, rfl, hl, rfl, g⟩
 cases rest with
 | cons p rest => exact h1.elim
 | nil =>
  rw [<- show cur = _ from h2]
  have w : FnJ B (d + 16) 697 [.ref r i, .ref r1 i1, u] H (.ref rN iN, H') := by
   exact fnJ_of K rfl [.o g1, .fo s] (by kernel_rfl)
  exact ⟨_, _, _, w, x1, gN⟩
end
section
variable {B : Bs} (K : BOk B) {H : Hp} {d : Nat}
include K
theorem l_evalFil {ad : Role -> Nat × Nat} {T : List Row} (w : Wf T) (hc : ∀ p, (kids T p).length <= 50) (hT : T.length <= 50) {S : String -> List Nat} {xs : List String} (so : SOk S T xs) (hk : Hok H) (t : TreeL H ad T) {c : Cx} (htr : c.tr = ad .tree) {rc ic : Nat}
  (gc : H.get rc ic = some (.inst 1079 (cxF c))) (hv : VarsAt H c.vs S xs) {e : NE} (he : ∀ x ∈ e.vars, x ∈ xs) {ps : List PE} {r i r1 i1 r2 i2 : Nat} {vs : List V} (g : H.get r i = some (.inst 920 [(sO "base", .ref r1 i1), (sO "predicates", .ref r2 i2)]))
  (hb : IsNE H e (.ref r1 i1)) (g2 : H.get r2 i2 = some (.tup vs)) (hp : AllPE H ps vs) (hn : e.need <= d + 16) :
  ∃ r3 i3 H', FnJ B (d + 18) 1040 [.ref r i, .ref rc ic] H (.ref r3 i3, H') /\ Ext H H' /\ H'.get r3 i3 = some (.list ((ps.foldl keptBy (e.sem S T)).map nV)) := by
 have e1 := (Ext.refl hk).push (.tup [.ref 0 752, .ref 0 780]);have t1 := get_push_new H (.tup [.ref 0 752, .ref 0 780]);have g1 := e1.keep _ _ _ g;have gc1 := e1.keep _ _ _ gc;have z1 : H.get 0 948 = none := hk.zero 948 rfl;have z2 : (H.push (.tup [.ref 0 752, .ref 0 780])).get 0 864 = none := e1.ok.zero 864 rfl;have z3 : (H.push (.tup [.ref 0 752, .ref 0 780])).get 0 836 = none := e1.ok.zero 836 rfl;have z4 : (H.push (.tup [.ref 0 752, .ref 0 780])).get 0 892 = none := e1.ok.zero 892 rfl;have z5 : (H.push (.tup [.ref 0 752, .ref 0 780])).get 0 808 = none := e1.ok.zero 808 rfl;have z6 : (H.push (.tup [.ref 0 752, .ref 0 780])).get 0 920 = none := e1.ok.zero 920 rfl;have ss := sem_ok w hT so e he;obtain ⟨rb, ib, H2, s2, x2, gb, -⟩ := l_evalNE K w hc hT so (rc := rc) (ic := ic) e he _ c (.ref r1 i1) e1.ok (t.ext e1) htr gc1 (hv.ext e1) (hb.ext e1);have s2 := s2.up hn;have y2 := e1.trans x2;have gf2 := y2.keep _ _ _ g;obtain ⟨u, H3, s3, hu, x3⟩ := l_asker K y2.ok (rc := rc) (ic := ic) (d := d + 15);have y3 := y2.trans x3;obtain ⟨r4, i4, H4, s4, x4, g4⟩ := l_kept K y3.ok (y3.keep _ _ _ gc) hu (x3.keep _ _ _ gb) ss.2 (y3.keep _ _ _ g2) (hp.ext y3) (d := d);have w : FnJ B (d + 18) 1040 [.ref r i, .ref rc ic] H (.ref r4 i4, H4) := by
  exact fnJ_of K rfl [.o g, .oo z1, .c, .c, .o g1, .o t1, .o g1, .oo z2, .o g1, .oo z3, .o g1, .oo z4, .o g1, .oo z5, .o g1, .oo z6, .c, .o g1, .c, .vh s2, .c, .o gb, .o gf2, .c, .vh s3, .vh s4] (by kernel_rfl)
 exact ⟨_, _, _, w, y3.trans x4, g4⟩
theorem l_evalCnt {ad : Role -> Nat × Nat} {T : List Row} (w : Wf T) (hc : ∀ p, (kids T p).length <= 50) (hT : T.length <= 50) {S : String -> List Nat} {xs : List String} (so : SOk S T xs) (hk : Hok H) (t : TreeL H ad T) {c : Cx} (htr : c.tr = ad .tree) {rc ic : Nat}
  (gc : H.get rc ic = some (.inst 1079 (cxF c))) (hv : VarsAt H c.vs S xs) {e : NE} (he : ∀ x ∈ e.vars, x ∈ xs) {r i r1 i1 : Nat} {va : V} (g : H.get r i = some (.inst 836 [(sO "name", .str (sO "count")), (sO "arguments", .ref r1 i1)]))
  (g1 : H.get r1 i1 = some (.tup [va])) (hb : IsNE H e va) (hun : e.isUn) (hn : e.need <= d + 16) :
  ∃ r2 i2 H', FnJ B (d + 18) 1040 [.ref r i, .ref rc ic] H (.ref r2 i2, H') /\ Ext H H' /\ H'.get r2 i2 = some (.tup [nV (e.sem S T).length, .int 1]) := by
 have m1 : Made H _ [_] := (Made.start hk).push (.tup [.ref 0 752, .ref 0 780]);have t1 := m1.got 0 _ rfl;have g2 := m1.ext.keep _ _ _ g;have z1 : H.get 0 948 = none := hk.zero 948 rfl;have z2 : (H.push (.tup [.ref 0 752, .ref 0 780])).get 0 864 = none := m1.ext.ok.zero 864 rfl;have z3 : (H.push (.tup [.ref 0 752, .ref 0 780])).get 0 836 = none := m1.ext.ok.zero 836 rfl;have m2 : Made H _ [_, _] := m1.push (.cell none);have c2 := m2.got 1 _ rfl;have r0 := hk.pos;obtain ⟨b3, t3, e3, m3⟩ : ∃ b t, _ = (⟨b, H.reg, t, H.nxt + 2⟩ : Hp) /\ Made H ⟨b, H.reg, t, H.nxt + 2⟩ [_, _] := m2.set 1 (.cell (some (.ref rc ic))) (Nat.succ_lt_succ (Nat.zero_lt_succ _));have g3 := m3.ext.keep _ _ _ g;have g13 := m3.ext.keep _ _ _ g1;have m4 : Made H _ [_, _, _] := m3.push (.list []);have g14 := m4.ext.keep _ _ _ g1;have c4 := m4.got 1 _ rfl;obtain ⟨ra, ia, H5, s5, x5, ga, na⟩ := l_evalNE K w hc hT so (rc := rc) (ic := ic) e he _ c va m4.ext.ok (t.ext m4.ext) htr (m4.ext.keep _ _ _ gc) (hv.ext m4.ext) (hb.ext m4.ext);have s5 := s5.up hn;have na := na hun;have gw := x5.keep _ _ _ (m4.got 2 _ rfl);have c5 := x5.keep _ _ _ c4;have y5 := m4.ext.trans x5;have n5 : H.get H.reg (H.nxt + 2) = none := hk.next 2;obtain ⟨H6, e6⟩ : ∃ H6, H5.upd H.reg (H.nxt + 2) (.list [.ref ra ia]) = H6 := ⟨_, rfl⟩;have y6 := y5.upd (.list [.ref ra ia]) n5 gw;have q1 : (H5.upd H.reg (H.nxt + 2) (.list [.ref ra ia])).get H.reg (H.nxt + 2) = some (.list [.ref ra ia]) := by rw [Hp.get_upd, if_pos ⟨rfl, rfl⟩]
 have q2 : (H5.upd H.reg (H.nxt + 2) (.list [.ref ra ia])).get ra ia = some (.list ((e.sem S T).map nV)) := by rw [Hp.get_upd, if_neg (fun ⟨a, b⟩ => by rw [a, b, m4.got 2 _ rfl] at na; cases na)]; exact ga
 have q3 : (H5.upd H.reg (H.nxt + 2) (.list [.ref ra ia])).get H.reg (H.nxt + 1) = some (.cell (some (.ref rc ic))) := by rw [Hp.get_upd, if_neg (fun ⟨_, b⟩ => absurd (Nat.add_left_cancel b) (by decide))]; exact c5
 rw [e6] at y6 q1 q2 q3;have g6 := y6.keep _ _ _ g;have g16 := y6.keep _ _ _ g1;have z6 := y6.ok.zero 546 rfl;have z7 := y6.ok.zero 550 rfl;have z8 := y6.ok.zero 551 rfl;have z9 := y6.ok.zero 552 rfl;have y7 := y6.push (.tup [nV 1, nV 1]);have t7 := get_push_new H6 (.tup [nV 1, nV 1]);have q17 := get_push_old y6.ok (.tup [nV 1, nV 1]) q1;have q27 := get_push_old y6.ok (.tup [nV 1, nV 1]) q2;have z17 := y7.ok.zero 546 rfl;have hl : ((e.sem S T).map nV).length <= limN := by rw [length_map]; exact le_trans (sem_ok w hT so e he).2 (by decide)
 obtain ⟨r8, i8, H8, s8, x8, g8⟩ := l_number K y7.ok ((e.sem S T).map nV).length (by rw [length_map]; exact le_trans (sem_ok w hT so e he).2 (by decide)) (d := d + 10)
 rw [length_map] at g8;have w : FnJ B (d + 18) 1040 [.ref r i, .ref rc ic] H (.ref r8 i8, H8) := by
  exact fnJ_of K rfl [.o g, .oo z1, .c, .c, .o g2, .o t1, .o g2, .oo z2, .o g2, .oo z3, .c, .c, .o c2, .y r0, .h e3, .o g3, .c, .o g13, .c, .c, .o g14, .c, .o c4, .vh s5, .o gw, .c, .y r0, .h e6, .c, .o g16, .c, .o g6, .c, .c, .oo z6, .c, .o g6, .c, .o q3, .c, .c, .oo z6, .c, .c, .c, .oo z7, .c, .oo z8, .c, .oo z9, .c, .c, .c, .c, .c, .c, .o t7, .o q17, .c, .c, .c, .oo z17, .c, .c, .c, .c, .c, .o q17, .c, .c, .c, .o q27, .o q27, .y hl, .vh s8] (by kernel_rfl)
 exact ⟨_, _, _, w, y7.trans x8, g8⟩
end
noncomputable def T.idx : T -> List Nat
 | .nil => []
 | .node v l r => (match v with | some _ => [0] | none => []) ++ (l.idx.map fun i => 2 * i + 1) ++ (r.idx.map fun i => 2 * i + 2)
theorem T.mem_idx : ∀ (t : T) (i : Nat) (o : O), t.get i = some o -> i ∈ t.idx
 | .nil, _, _, h => nomatch h
 | .node v l r, i, o, h => by
  unfold T.get at h;unfold T.idx;cases i with
  | zero =>
   have h' : v = some o := h;subst h';exact List.mem_append_left _ (List.mem_append_left _ (List.mem_singleton.2 rfl))
  | succ j =>
   have e := Nat.div_add_mod (j + 1) 2;dsimp only [Nat.beq] at h;cases q : Nat.beq ((j + 1) % 2) 1 with
   | true =>
    rw [q] at h;rw [Nat.eq_of_beq_eq_true q] at e;exact List.mem_append_left _ (List.mem_append_right _ (List.mem_map.2 ⟨_, T.mem_idx l _ o h, e⟩))
   | false =>
    rw [q] at h;rcases Nat.mod_two_eq_zero_or_one (j + 1) with z | z
    ·rw [z] at e;have p : 0 < (j + 1) / 2 := Nat.pos_of_ne_zero fun y => by rw [y] at e; cases e
     refine List.mem_append_right _ (List.mem_map.2 ⟨_, T.mem_idx r _ o h, ?_⟩);obtain ⟨k, hk⟩ := Nat.exists_eq_succ_of_ne_zero (Nat.ne_of_gt p);rw [hk] at e ⊢;exact e
    ·rw [z] at q; cases q
inductive NA where
 | var (i : Nat) (x : String)
 | un (i : Nat) (l r : NA)
inductive PA where
 | num (i j n : Nat)
 | last (i j : Nat)
 | gt (i i1 i2 i3 i4 n : Nat)
inductive Ex where
 | ne (e : NE)
 | fil (e : NE) (ps : List PE)
 | cnt (e : NE)
inductive XA where
 | ne (e : NA)
 | fil (i j : Nat) (e : NA) (ps : List PA)
 | cnt (i j : Nat) (e : NA)
section
variable (R : Nat)
noncomputable def oVar (x : String) : O := .inst 808 [(sO "name", .str (ofString x))]
noncomputable def oBin (op : String) (i j : Nat) : O := .inst 864 [(sO "op", .str (ofString op)), (sO "left", .ref R i), (sO "right", .ref R j)]
noncomputable def oNum (j : Nat) : O := .inst 780 [(sO "value", .ref R j)]
noncomputable def oCall (x : String) (j : Nat) : O := .inst 836 [(sO "name", .str (ofString x)), (sO "arguments", .ref R j)]
noncomputable def NA.i : NA -> Nat
 | .var i _ => i
 | .un i _ _ => i
noncomputable def NA.ne : NA -> NE
 | .var _ x => .var x
 | .un _ a b => .un a.ne b.ne
noncomputable def NA.want : NA -> List (Nat × O)
 | .var i x => [(i, oVar x)]
 | .un i a b => (i, oBin R "|" a.i b.i) :: (a.want ++ b.want)
noncomputable def PA.i : PA -> Nat
 | .num i _ _ => i
 | .last i _ => i
 | .gt i _ _ _ _ _ => i
noncomputable def PA.pe : PA -> PE
 | .num _ _ n => .num n
 | .last _ _ => .last
 | .gt _ _ _ _ _ n => .gt n
noncomputable def PA.want : PA -> List (Nat × O)
 | .num i j n => [(i, oNum R j), (j, .tup [nV n, .int 1])]
 | .last i j => [(i, oCall R "last" j), (j, .tup [])]
 | .gt i i1 i2 i3 i4 n => [(i, oBin R ">" i1 i2), (i1, oCall R "position" i3), (i3, .tup []), (i2, oNum R i4), (i4, .tup [nV n, .int 1])]
noncomputable def XA.i : XA -> Nat
 | .ne e => e.i
 | .fil i _ _ _ => i
 | .cnt i _ _ => i
noncomputable def XA.ex : XA -> Ex
 | .ne e => .ne e.ne
 | .fil _ _ e ps => .fil e.ne (ps.map PA.pe)
 | .cnt _ _ e => .cnt e.ne
noncomputable def XA.want : XA -> List (Nat × O)
 | .ne e => e.want R
 | .fil i j e ps => (i, .inst 920 [(sO "base", .ref R e.i), (sO "predicates", .ref R j)]) :: (j, .tup (ps.map fun p => .ref R p.i)) :: (e.want R ++ ps.flatMap (PA.want R))
 | .cnt i j e => (i, oCall R "count" j) :: (j, .tup [.ref R e.i]) :: e.want R
end
noncomputable def IsEx (H : Hp) : Ex -> V -> Prop
 | .ne e, v => IsNE H e v
 | .fil e ps, v => ∃ r i r1 i1 r2 i2 vs, v = .ref r i /\ H.get r i = some (.inst 920 [(ofString "base", .ref r1 i1), (ofString "predicates", .ref r2 i2)]) /\ IsNE H e (.ref r1 i1) /\ H.get r2 i2 = some (.tup vs) /\ AllPE H ps vs
 | .cnt e, v => ∃ r i r1 i1 va, v = .ref r i /\ H.get r i = some (.inst 836 [(ofString "name", .str (ofString "count")), (ofString "arguments", .ref r1 i1)]) /\ H.get r1 i1 = some (.tup [va]) /\ IsNE H e va
structure Kq (H H' : Hp) : Prop where
 ok : Hok H'
 keep : ∀ r i o, H.get r i = some o -> H'.get r i = some o
theorem Kq.trans {H H' H'' : Hp} (a : Kq H H') (b : Kq H' H'') : Kq H H'' := ⟨b.ok, fun r i o g => b.keep r i o (a.keep r i o g)⟩
theorem Ext.kq {H H' : Hp} (x : Ext H H') : Kq H H' := ⟨x.ok, x.keep⟩


section
variable {H : Hp} {R : Nat}
def Has (H : Hp) (R : Nat) (l : List (Nat × O)) : Prop := ∀ p ∈ l, H.get R p.1 = some p.2
theorem Has.head {p : Nat × O} {l : List (Nat × O)} (h : Has H R (p :: l)) : H.get R p.1 = some p.2 := h p (mem_cons_self ..)
theorem Has.tail {p : Nat × O} {l : List (Nat × O)} (h : Has H R (p :: l)) : Has H R l := fun q hq => h q (mem_cons_of_mem _ hq)
theorem Has.left {l m : List (Nat × O)} (h : Has H R (l ++ m)) : Has H R l := fun q hq => h q (List.mem_append_left _ hq)
theorem Has.right {l m : List (Nat × O)} (h : Has H R (l ++ m)) : Has H R m := fun q hq => h q (List.mem_append_right _ hq)
theorem NA.is : ∀ (e : NA), Has H R (e.want R) -> IsNE H e.ne (.ref R e.i)
 | .var _ _, h => ⟨_, _, rfl, h.head⟩
 | .un _ a b, h => ⟨_, _, _, _, _, _, rfl, h.head, a.is h.tail.left, b.is h.tail.right⟩
theorem PA.is : ∀ (e : PA), Has H R (e.want R) -> IsPE H e.pe (.ref R e.i)
 | .num .., h => ⟨_, _, _, _, rfl, h.head, h.tail.head⟩
 | .last .., h => ⟨_, _, _, _, rfl, h.head, h.tail.head⟩
 | .gt .., h => ⟨_, _, _, _, _, _, _, _, _, _, rfl, h.head, h.tail.head, h.tail.tail.head, h.tail.tail.tail.head, h.tail.tail.tail.tail.head⟩
theorem PA.all : ∀ (ps : List PA), Has H R (ps.flatMap (PA.want R)) -> AllPE H (ps.map PA.pe) (ps.map fun p => .ref R p.i)
 | [], _ => trivial
 | p :: ps, h => by
  rw [List.flatMap_cons] at h;exact ⟨p.is h.left, PA.all ps h.right⟩
theorem XA.is : ∀ (e : XA), Has H R (e.want R) -> IsEx H e.ex (.ref R e.i)
 | .ne e, h => e.is h
 | .fil _ _ e ps, h => ⟨_, _, _, _, _, _, _, rfl, h.head, e.is h.tail.tail.left, h.tail.head, PA.all ps h.tail.tail.right⟩
 | .cnt _ _ e, h => ⟨_, _, _, _, _, rfl, h.head, h.tail.head, e.is h.tail.tail⟩
end
noncomputable def bsOf (f : Nat -> Nat -> Option O) : Nat -> Nat -> Option O := fun r i => match r with
 | 0 => match Nat.beq i 1718 with
  | true => f 0 1718
  | false => pgT.obj i
 | r + 1 => f (r + 1) i
theorem bsOf_ne (f : Nat -> Nat -> Option O) {i : Nat} (q : Nat.beq i 1718 = false) : bsOf f 0 i = pgT.obj i := by
 show (match Nat.beq i 1718 with | true => f 0 1718 | false => pgT.obj i) = _
 rw [q]
theorem Rel.top0 {B : Bs} {m : Mp} {H : Hp} {h : Heap} (R : Rel B m H h) (i : Nat) : H.get 0 i = B.ob i := by
 rw [Hp.get_eq, if_neg (fun z : 0 = H.reg => absurd (z ▸ R.reg : 2 <= 0) (by decide)), R.top]
theorem Rel.top1 {B : Bs} {m : Mp} {H : Hp} {h : Heap} (R : Rel B m H h) (i : Nat) : bsOf (fun r i => H.get r i) 0 i = B.ob i := by
 cases q : Nat.beq i 1718 with
 | true => rw [Nat.eq_of_beq_eq_true q]; exact R.top0 1718
 | false => rw [bsOf_ne _ q]; unfold Bs.ob; rw [q]
noncomputable def apart (H : Hp) : Hp := ⟨bsOf fun r i => H.get r i, H.reg + 1, .nil, 0⟩
theorem apart_get (H : Hp) (r i : Nat) (h0 : r ≠ 0) (h1 : r ≠ H.reg + 1) : (apart H).get r i = H.get r i := by
 rw [Hp.get_eq];show (if r = H.reg + 1 then _ else _) = _
 rw [if_neg h1];cases r with
 | zero => exact absurd rfl h0
 | succ r => rfl
theorem Rel.apart {B : Bs} {m : Mp} {H : Hp} {h : Heap} (R : Rel B m H h) : Rel B m (apart H) h := { R with
 obj := fun r i p o e g => by
  have := R.regs r i p e;by_cases h0 : r = 0
  ·subst h0;refine R.obj 0 i p o e ?_;rw [R.top0];rw [Hp.get_eq] at g;have : ¬ (0 = (Mine.apart H).reg) := (Nat.succ_ne_zero H.reg).symm;rw [if_neg this] at g;exact (R.top1 i).symm.trans g
  ·rw [apart_get _ _ _ h0 (Nat.ne_of_lt (Nat.lt_succ_of_le (R.regs r i p e)))] at g;exact R.obj r i p o e g
 fresh := fun k _ => none_of fun p e => by
  exact Nat.not_succ_le_self _ (R.regs (H.reg + 1) k p e)
 reg := Nat.le_succ_of_le R.reg
 pin := fun i => by
  rw [apart_get _ _ _ (by decide) (Nat.ne_of_lt (Nat.lt_succ_of_lt R.reg))]
  exact R.pin i
 top := R.top1
 regs := fun r i p e => Nat.le_succ_of_le (R.regs r i p e) }
theorem FnJ.apart {B : Bs} {d a : Nat} {as : List V} {H : Hp} {r : V × Hp} (h : FnJ B d a as (apart H) r) : FnJ B d a as H r := ⟨h.1, fun m A s us R => h.2 m A s us R.apart⟩
noncomputable def prs (B : Bs) (f : Nat -> Nat -> Option O) (d R : Nat) (t : String) : Res (V × Hp) := (orI B 100000).fn d 1672 [.str (ofString t)] ⟨bsOf f, R, .nil, 0⟩ [.all]
noncomputable def resA {α : Type} : Res α -> Option (α × List Ans × List Prop)
 | .ok q a ps => some (q, a, ps)
 | _ => none
theorem resA_ok {α : Type} {m : Res α} {x : α × List Ans × List Prop} (h : resA m = some x) : m = .ok x.1 x.2.1 x.2.2 := by
 cases m with
 | ok q a ps => cases h; rfl
 | _ => cases h
noncomputable def look (l : List (Nat × O)) (m : Res (V × Hp)) : Option (V × (Nat -> Nat -> Option O) × Nat × Bool × List (Option O) × List Ans × List Prop) := (resA m).map fun x => (x.1.1, x.1.2.base, x.1.2.reg, (x.1.2.tr.idx.all fun i => Nat.blt i x.1.2.nxt), l.map (fun p => x.1.2.tr.get p.1), x.2)
def Parses (B : Bs) (d R : Nat) (t : String) (e : Ex) : Prop := ∃ X : XA, X.ex = e /\ ∀ f, look (X.want R) (prs B f d R t) = some (.ref R X.i, bsOf f, R, true, (X.want R).map (fun p => some p.2), [.all], [])
theorem map_mem {α β : Type} {f g : α -> β} : ∀ {l : List α}, l.map f = l.map g -> ∀ x ∈ l, f x = g x
 | _ :: _, h, x, hx => by
  injection h with h1 h2
  rcases List.mem_cons.1 hx with rfl | hx
  ·exact h1
  ·exact map_mem h2 x hx
theorem l_parse {B : Bs} (K : BOk B) {H : Hp} (hk : Hok H) {d R : Nat} {t : String} {e : Ex} (hR : H.reg + 1 = R) (h : Parses B d R t e) :
  ∃ v H', FnJ B d 1672 [.str (ofString t)] H (v, H') /\ Kq H H' /\ H'.reg = R /\ IsEx H' e v := by
 subst hR;obtain ⟨X, rfl, h⟩ := h;obtain ⟨⟨⟨v, b, rg, tr, nx⟩, as, ps⟩, h1, h2⟩ := mpd (h fun r i => H.get r i);injection h2 with h2 h3
 injection h3 with h3 h4
 injection h4 with h4 h5
 injection h5 with h5 h6
 injection h6 with h6 h7
 injection h7 with h7 h8
 dsimp only at h2 h3 h4 h5 h6 h7 h8;subst h2 h3 h4 h7 h8;have hg : ∀ r i, (⟨bsOf fun r i => H.get r i, H.reg + 1, tr, nx⟩ : Hp).get r i = if r = H.reg + 1 then tr.get i else bsOf (fun r i => H.get r i) r i := fun r i => Hp.get_eq _ _ _
 have old : ∀ r i o, H.get r i = some o -> (⟨bsOf fun r i => H.get r i, H.reg + 1, tr, nx⟩ : Hp).get r i = some o := fun r i o g => by
  rw [hg];by_cases z : r = H.reg + 1
  ·rw [hk.above r i (by rw [z]; exact Nat.lt_succ_self _)] at g; cases g
  ·rw [if_neg z];cases r with
   | zero =>
    cases q : Nat.beq i 1718 with
    | true => rw [Nat.eq_of_beq_eq_true q] at g ⊢; exact g
    | false => rw [bsOf_ne _ q]; rw [hk.zero i q] at g; exact g
   | succ r => exact g
 refine ⟨_, _, (((orI_ok K 100000).fn d 1672 _ (apart H)).all (resA_ok h1)).apart, ⟨⟨fun i hi => ?_, fun r i hr => ?_, Nat.succ_ne_zero _, fun i q => ?_, ?_⟩, old⟩, rfl, X.is fun p hp => by rw [hg, if_pos rfl]; exact map_mem h6 p hp⟩
 ·rw [hg, if_pos rfl];refine none_of fun o g => ?_;have := List.all_eq_true.1 h5 i (T.mem_idx _ _ _ g);exact absurd hi (Nat.not_le_of_lt (Nat.blt_eq ▸ this))
 ·have hr' : H.reg + 1 < r := hr;rw [hg, if_neg (Nat.ne_of_gt hr')];cases r with
  | zero => exact absurd hr' (Nat.not_lt_zero _)
  | succ r => exact hk.above _ i (Nat.lt_of_succ_lt hr')
 ·rw [hg, if_neg (Nat.succ_ne_zero _).symm]; exact bsOf_ne _ q
 ·rw [hg, if_neg (Nat.succ_ne_zero _).symm]; exact hk.scr
noncomputable def nmK (j : Nat) : Str := ofString "k" ++ strI j
noncomputable def nmP (j : Nat) : Str := ofString "p" ++ strI j
theorem nm_inj : ∀ i < 9, ∀ j < 9, (nmK i = nmK j \/ nmP i = nmP j) -> i = j := by decide +kernel
noncomputable def kidsR (r : Row) : List Nat := r.nss ++ r.ats ++ r.ch
theorem kids_some {T : List Row} {k : Nat} {r : Row} (h : T[k]? = some r) : kids T k = kidsR r := by unfold kids; rw [h]; rfl
theorem kids_none {T : List Row} {k : Nat} (h : T[k]? = none) : kids T k = [] := by unfold kids; rw [h]
theorem par_some {T : List Row} {k : Nat} {r : Row} (h : T[k]? = some r) : par T k = r.parent := by unfold par; rw [h]; rfl
theorem no_par1 : ¬ (ofString "attribute" = ofString "root" \/ ofString "attribute" = ofString "element") := by decide +kernel
theorem no_par2 : ¬ (ofString "namespace" = ofString "root" \/ ofString "namespace" = ofString "element") := by decide +kernel
structure Gr (T : List Row) (n : Nat) : Prop where
 wf : Wf T
 leaf : ∀ (k : Nat) (r : Row), T[k]? = some r -> (r.kind = ofString "root" \/ r.kind = ofString "element") \/ kidsR r = []
 ats : ∀ (k : Nat) (r : Row) (a : Nat), T[k]? = some r -> a ∈ r.ats -> ∃ ra, T[a]? = some ra /\ ra.kind = ofString "attribute" /\ ∃ j, j < n /\ ra.loc = nmK j
 nss : ∀ (k : Nat) (r : Row) (a : Nat), T[k]? = some r -> a ∈ r.nss -> ∃ ra, T[a]? = some ra /\ ra.kind = ofString "namespace" /\ ∃ j, j < n /\ ra.name = nmP j
 roots : rootsOf T = [0, 1]
theorem Gr.leafy {T : List Row} {n : Nat} (G : Gr T n) : ∀ (k : Nat) (r : Row), T[k]? = some r -> ∀ a ∈ r.nss ++ r.ats, kids T a = [] := fun k r h a ha => by
 rcases List.mem_append.1 ha with h1 | h1
 ·obtain ⟨ra, e1, e2, -⟩ := G.nss k r a h h1;rw [kids_some e1];exact (G.leaf a ra e1).resolve_left (e2 ▸ no_par2)
 ·obtain ⟨ra, e1, e2, -⟩ := G.ats k r a h h1;rw [kids_some e1];exact (G.leaf a ra e1).resolve_left (e2 ▸ no_par1)
theorem Gr.kids_len {T : List Row} {n : Nat} (G : Gr T n) (p : Nat) : (kids T p).length <= T.length := nodup_len _ _ (G.wf.nodup p) fun x hx => (G.wf.kid p x hx).1
theorem add_get {T : List Row} {new r : Row} {p : Nat} (f : Row -> Row) (hr : T[p]? = some r) (k : Nat) : ((T ++ [new]).modify p f)[k]? = if k = p then some (f r) else if k < T.length then T[k]? else if k = T.length then some new else none := by
 have hp : p < T.length := (List.getElem?_eq_some_iff.1 hr).1;rw [mod_get f (r := r) (by rw [List.getElem?_append_left hp]; exact hr)]
 by_cases e : k = p
 ·rw [if_pos e, if_pos e]
 ·rw [if_neg e, if_neg e];by_cases q : k < T.length
  ·rw [if_pos q, List.getElem?_append_left q]
  ·rw [if_neg q];by_cases z : k = T.length
   ·subst z; rw [if_pos rfl, List.getElem?_concat_length]
   ·rw [if_neg z, List.getElem?_eq_none (by rw [length_append]; exact Nat.lt_of_le_of_ne (Nat.not_lt.1 q) (Ne.symm z))]
theorem Gr.add {T : List Row} {n m : Nat} (G : Gr T n) (hm : n <= m) {p : Nat} {r new : Row} (f : Row -> Row) (hr : T[p]? = some r) (hk : r.kind = ofString "root" \/ r.kind = ofString "element")
  (hfk : (f r).kind = r.kind) (hfp : (f r).parent = r.parent) (hkids : ∀ c, c ∈ kidsR (f r) ↔ c ∈ kidsR r \/ c = T.length) (hnd : (kidsR r).Nodup -> T.length ∉ kidsR r -> (kidsR (f r)).Nodup)
  (hats : ∀ a ∈ (f r).ats, a ∈ r.ats \/ (a = T.length /\ new.kind = ofString "attribute" /\ ∃ j, j < m /\ new.loc = nmK j)) (hnss : ∀ a ∈ (f r).nss, a ∈ r.nss \/ (a = T.length /\ new.kind = ofString "namespace" /\ ∃ j, j < m /\ new.name = nmP j))
  (hnp : new.parent = some p) (hnk : kidsR new = []) (hna : new.ats = []) (hnn : new.nss = []) : Gr ((T ++ [new]).modify p f) m := by
 have hp : p < T.length := (List.getElem?_eq_some_iff.1 hr).1;have hlen : ((T ++ [new]).modify p f).length = T.length + 1 := by rw [List.length_modify, length_append]; rfl
 have hg := add_get (new := new) f hr;have hkp : kids T p = kidsR r := kids_some hr;have hK : ∀ k, kids ((T ++ [new]).modify p f) k = if k = p then kidsR (f r) else kids T k := fun k => by
  by_cases e : k = p
  ·rw [if_pos e]; exact kids_some (by rw [hg, if_pos e])
  ·rw [if_neg e];by_cases q : k < T.length
   ·obtain ⟨rk, hrk⟩ : ∃ x, T[k]? = some x := ⟨_, List.getElem?_eq_getElem q⟩;rw [kids_some (r := rk) (by rw [hg, if_neg e, if_pos q]; exact hrk), kids_some hrk]
   ·rw [kids_none (T := T) (List.getElem?_eq_none (Nat.not_lt.1 q))];by_cases z : k = T.length
    ·rw [kids_some (r := new) (by rw [hg, if_neg e, if_neg q, if_pos z])]; exact hnk
    ·exact kids_none (by rw [hg, if_neg e, if_neg q, if_neg z])
 have hP : ∀ k, par ((T ++ [new]).modify p f) k = if k = T.length then some p else par T k := fun k => by
  by_cases e : k = p
  ·rw [if_neg (by rw [e]; exact Nat.ne_of_lt hp), par_some (r := f r) (by rw [hg, if_pos e]), hfp, e, par_some hr]
  ·by_cases q : k < T.length
   ·obtain ⟨rk, hrk⟩ : ∃ x, T[k]? = some x := ⟨_, List.getElem?_eq_getElem q⟩;rw [if_neg (Nat.ne_of_lt q), par_some (r := rk) (by rw [hg, if_neg e, if_pos q]; exact hrk), par_some hrk]
   ·by_cases z : k = T.length
    ·rw [if_pos z, par_some (r := new) (by rw [hg, if_neg e, if_neg q, if_pos z])]; exact hnp
    ·rw [if_neg z];unfold par;rw [hg, if_neg e, if_neg q, if_neg z, List.getElem?_eq_none (Nat.not_lt.1 q)]
 have hfresh : ∀ k, T.length ∉ kids T k := fun k h => Nat.lt_irrefl _ (G.wf.kid k _ h).1;have old : ∀ (a : Nat) (ra : Row), T[a]? = some ra -> ∃ ra', ((T ++ [new]).modify p f)[a]? = some ra' /\ (a ≠ p -> ra' = ra) /\ a < T.length := fun a ra h => by
  have ha : a < T.length := (List.getElem?_eq_some_iff.1 h).1;by_cases e : a = p
  ·exact ⟨f r, by rw [hg, if_pos e], fun z => absurd e z, ha⟩
  ·exact ⟨ra, by rw [hg, if_neg e, if_pos ha]; exact h, fun _ => rfl, ha⟩
 refine ⟨⟨fun k c hc => ?_, fun c q h => ?_, fun k => ?_⟩, fun k rk h => ?_, fun k rk a h ha => ?_, fun k rk a h ha => ?_, ?_⟩
 ·rw [hK] at hc;rw [hlen, hP];by_cases e : k = p
  ·rw [if_pos e] at hc;rcases (hkids c).1 hc with h | h
   ·rw [<- hkp] at h;have := G.wf.kid p c h;rw [if_neg (Nat.ne_of_lt this.1), e];exact ⟨Nat.lt_succ_of_lt this.1, this.2⟩
   ·rw [if_pos h, e];exact ⟨h ▸ Nat.lt_succ_self _, h ▸ hp, rfl⟩
  ·rw [if_neg e] at hc;have := G.wf.kid k c hc;rw [if_neg (Nat.ne_of_lt this.1)];exact ⟨Nat.lt_succ_of_lt this.1, this.2⟩
 ·rw [hP] at h;rw [hK];by_cases z : c = T.length
  ·rw [if_pos z] at h;cases h;rw [if_pos rfl];exact (hkids c).2 (Or.inr z)
  ·rw [if_neg z] at h;have := G.wf.up c q h;by_cases e : q = p
   ·rw [if_pos e];rw [e, hkp] at this;exact (hkids c).2 (Or.inl this)
   ·rw [if_neg e]; exact this
 ·rw [hK];by_cases e : k = p
  ·rw [if_pos e];refine hnd (hkp ▸ G.wf.nodup p) (hkp ▸ hfresh p)
  ·rw [if_neg e]; exact G.wf.nodup k
 ·rw [hg] at h;by_cases e : k = p
  ·rw [if_pos e] at h;cases h;rw [hfk]; exact Or.inl hk
  ·rw [if_neg e] at h;by_cases q : k < T.length
   ·rw [if_pos q] at h; exact G.leaf k rk h
   ·rw [if_neg q] at h;by_cases z : k = T.length
    ·rw [if_pos z] at h; cases h; exact Or.inr hnk
    ·rw [if_neg z] at h; cases h
 ·have fin : ∀ ra : Row, T[a]? = some ra -> ra.kind = ofString "attribute" -> (∃ j, j < n /\ ra.loc = nmK j) -> ∃ ra, ((T ++ [new]).modify p f)[a]? = some ra /\ ra.kind = ofString "attribute" /\ ∃ j, j < m /\ ra.loc = nmK j := fun ra e1 e2 ⟨j, e3, e4⟩ => by
   obtain ⟨ra', h1, h2, h3⟩ := old a ra e1;have : a ≠ p := fun z => by
    rw [z, hr] at e1; cases e1;exact no_par1 (e2 ▸ hk)
   rw [h2 this] at h1;exact ⟨ra, h1, e2, j, lt_of_lt_of_le e3 hm, e4⟩
  rw [hg] at h;by_cases e : k = p
  ·rw [if_pos e] at h;cases h;rcases hats a ha with h | ⟨h1, h2, h3⟩
   ·obtain ⟨ra, e1, e2, e3⟩ := G.ats p r a hr h;exact fin ra e1 e2 e3
   ·exact ⟨new, by rw [hg, if_neg (by rw [h1]; exact Nat.ne_of_gt hp), if_neg (by rw [h1]; exact Nat.lt_irrefl _), if_pos h1], h2, h3⟩
  ·rw [if_neg e] at h;by_cases q : k < T.length
   ·rw [if_pos q] at h;obtain ⟨ra, e1, e2, e3⟩ := G.ats k rk a h ha;exact fin ra e1 e2 e3
   ·rw [if_neg q] at h;by_cases z : k = T.length
    ·rw [if_pos z] at h; cases h; rw [hna] at ha; cases ha
    ·rw [if_neg z] at h; cases h
 ·have fin : ∀ ra : Row, T[a]? = some ra -> ra.kind = ofString "namespace" -> (∃ j, j < n /\ ra.name = nmP j) -> ∃ ra, ((T ++ [new]).modify p f)[a]? = some ra /\ ra.kind = ofString "namespace" /\ ∃ j, j < m /\ ra.name = nmP j := fun ra e1 e2 ⟨j, e3, e4⟩ => by
   obtain ⟨ra', h1, h2, h3⟩ := old a ra e1;have : a ≠ p := fun z => by
    rw [z, hr] at e1; cases e1;exact no_par2 (e2 ▸ hk)
   rw [h2 this] at h1;exact ⟨ra, h1, e2, j, lt_of_lt_of_le e3 hm, e4⟩
  rw [hg] at h;by_cases e : k = p
  ·rw [if_pos e] at h;cases h;rcases hnss a ha with h | ⟨h1, h2, h3⟩
   ·obtain ⟨ra, e1, e2, e3⟩ := G.nss p r a hr h;exact fin ra e1 e2 e3
   ·exact ⟨new, by rw [hg, if_neg (by rw [h1]; exact Nat.ne_of_gt hp), if_neg (by rw [h1]; exact Nat.lt_irrefl _), if_pos h1], h2, h3⟩
  ·rw [if_neg e] at h;by_cases q : k < T.length
   ·rw [if_pos q] at h;obtain ⟨ra, e1, e2, e3⟩ := G.nss k rk a h ha;exact fin ra e1 e2 e3
   ·rw [if_neg q] at h;by_cases z : k = T.length
    ·rw [if_pos z] at h; cases h; rw [hnn] at ha; cases ha
    ·rw [if_neg z] at h; cases h
 ·rw [<- G.roots];unfold rootsOf;rw [hlen, List.range_succ, List.filter_append, List.filter_cons_of_neg (by rw [hP, if_pos rfl]; exact Bool.false_ne_true), List.filter_nil, List.append_nil]
  refine List.filter_congr fun k hk' => ?_;have := List.mem_range.1 hk';rw [hP, if_neg (Nat.ne_of_lt this)]
theorem Gr.addCh {T : List Row} {n m : Nat} (G : Gr T n) (hm : n <= m) {p : Nat} {r : Row} (hr : T[p]? = some r) (hk : r.kind = ofString "root" \/ r.kind = ofString "element") (kind name uri loc value : Str) : Gr (addCh T p (rowN kind name uri loc value (some p))) m := by
 refine G.add hm (addC T.length) hr hk rfl rfl (fun c => ?_) (fun h1 h2 => ?_) (fun a h => Or.inl h) (fun a h => Or.inl h) rfl rfl rfl rfl
 ·show c ∈ r.nss ++ r.ats ++ (r.ch ++ [T.length]) ↔ c ∈ r.nss ++ r.ats ++ r.ch \/ _;simp [or_assoc]
 ·show (r.nss ++ r.ats ++ (r.ch ++ [T.length])).Nodup;rw [<- List.append_assoc];exact nodup_snoc h1 h2
theorem Gr.addAt {T : List Row} {n m : Nat} (G : Gr T n) (hm : n <= m) {p : Nat} {r : Row} (hr : T[p]? = some r) (hk : r.kind = ofString "root" \/ r.kind = ofString "element") {j : Nat} (hj : j < m) (name uri value : Str) : Gr (addAt T p (rowN (ofString "attribute") name uri (nmK j) value (some p))) m := by
 have pm : (r.nss ++ (r.ats ++ [T.length]) ++ r.ch).Perm (r.nss ++ r.ats ++ r.ch ++ [T.length]) := by
  rw [List.append_assoc, List.append_assoc, List.append_assoc, List.append_assoc];exact List.Perm.append_left _ (List.Perm.append_left _ (List.perm_append_comm))
 refine G.add hm (addA T.length) hr hk rfl rfl (fun c => ?_) (fun h1 h2 => ?_) (fun a h => ?_) (fun a h => Or.inl h) rfl rfl rfl rfl
 ·exact pm.mem_iff.trans (List.mem_append.trans (or_congr Iff.rfl List.mem_singleton))
 ·show (r.nss ++ (r.ats ++ [T.length]) ++ r.ch).Nodup;exact pm.nodup_iff.2 (nodup_snoc h1 h2)
 ·rcases List.mem_append.1 (show a ∈ r.ats ++ [T.length] from h) with h | h
  ·exact Or.inl h
  ·exact Or.inr ⟨List.mem_singleton.1 h, rfl, j, hj, rfl⟩
theorem Gr.addNs {T : List Row} {n m : Nat} (G : Gr T n) (hm : n <= m) {p : Nat} {r : Row} (hr : T[p]? = some r) (hk : r.kind = ofString "root" \/ r.kind = ofString "element") {j : Nat} (hj : j < m) (loc uri value : Str) : Gr (addNs T p (rowN (ofString "namespace") (nmP j) uri loc value (some p))) m := by
 have pm : ((r.nss ++ [T.length]) ++ r.ats ++ r.ch).Perm (r.nss ++ r.ats ++ r.ch ++ [T.length]) := by
  rw [List.append_assoc, List.append_assoc, List.append_assoc, List.append_assoc, <- List.append_assoc r.ats];exact List.Perm.append_left _ List.perm_append_comm
 refine G.add hm (addN T.length) hr hk rfl rfl (fun c => ?_) (fun h1 h2 => ?_) (fun a h => Or.inl h) (fun a h => ?_) rfl rfl rfl rfl
 ·exact pm.mem_iff.trans (List.mem_append.trans (or_congr Iff.rfl List.mem_singleton))
 ·show ((r.nss ++ [T.length]) ++ r.ats ++ r.ch).Nodup;exact pm.nodup_iff.2 (nodup_snoc h1 h2)
 ·rcases List.mem_append.1 (show a ∈ r.nss ++ [T.length] from h) with h | h
  ·exact Or.inl h
  ·exact Or.inr ⟨List.mem_singleton.1 h, rfl, j, hj, rfl⟩
noncomputable def rootR : Row := rowN (ofString "root") (ofString "") (ofString "") (ofString "") (ofString "") none
theorem gr0 : Gr [rootR, rootR] 0 := by
 have h : ∀ (k : Nat) (r : Row), [rootR, rootR][k]? = some r -> r = rootR := fun k r h => by
  match k, h with
  | 0, h => cases h; rfl
  | 1, h => cases h; rfl
  | k + 2, h => cases h
 have hk : ∀ k, kids [rootR, rootR] k = [] := fun k => by
  cases e : [rootR, rootR][k]? with
  | none => exact kids_none e
  | some r => rw [kids_some e, h k r e]; rfl
 have hp : ∀ k, par [rootR, rootR] k = none := fun k => by
  unfold par;cases e : [rootR, rootR][k]? with
  | none => rfl
  | some r => rw [h k r e]; rfl
 refine ⟨⟨fun k c h => ?_, fun c p h => ?_, fun k => ?_⟩, fun k r e => ?_, fun k r a e h' => ?_, fun k r a e h' => ?_, ?_⟩
 ·rw [hk] at h; cases h
 ·rw [hp] at h; cases h
 ·rw [hk]; exact List.Pairwise.nil
 ·rw [h k r e]; exact Or.inl (Or.inl rfl)
 ·rw [h k r e] at h'; cases h'
 ·rw [h k r e] at h'; cases h'
 ·unfold rootsOf;rw [List.filter_eq_self.2 fun k _ => by rw [hp]; rfl]
  rfl
theorem nmK_len : ∀ j < 9, (nmK j).cps.size <= limN := fun j hj => le_trans ((by decide +kernel : ∀ j < 9, (nmK j).cps.size <= 100) j hj) (by decide)
theorem nmP_len : ∀ j < 9, (nmP j).cps.size <= limN := fun j hj => le_trans ((by decide +kernel : ∀ j < 9, (nmP j).cps.size <= 100) j hj) (by decide)
theorem add_len {T : List Row} {new : Row} {p : Nat} {f : Row -> Row} : ((T ++ [new]).modify p f).length = T.length + 1 := by rw [List.length_modify, length_append]; rfl
structure St (H0 : Hp) (ad0 : Role -> Nat × Nat) (n0 rs is_ rp ip : Nat) (H : Hp) (ad : Role -> Nat × Nat) (T : List Row) (j : Nat) (pl : List Nat) : Prop where
 ok : Hok H
 t : TreeL H ad T
 G : Gr T j
 len : T.length = 4 + j
 src : ∃ a b, SrcAt H rs is_ a b
 offS : Off ad T.length rs is_
 offP : Off ad T.length rp ip
 nsp : ¬ (rp = rs /\ ip = is_)
 gp : H.get rp ip = some (.list (pl.map nV))
 pls : ∀ p ∈ pl, ∃ r : Row, T[p]? = some r /\ r.kind = ofString "element"
 pl0 : 0 < pl.length
 plj : pl.length <= 2 + j
 reg : H.reg = H0.reg
 tr : ad .tree = ad0 .tree
 offK : ∀ r i o, Off ad0 n0 r i -> H0.get r i = some o -> Off ad T.length r i
 keep : ∀ r i o, Off ad0 n0 r i -> ¬ (r = rs /\ i = is_) -> H0.get r i = some o -> H.get r i = some o
 new : H0.get rp ip = none
section
variable {H0 : Hp} {ad0 : Role -> Nat × Nat} {n0 rs is_ rp ip : Nat} {H H' : Hp} {ad ad' : Role -> Nat × Nat} {T T' : List Row} {j : Nat} {pl : List Nat}
theorem TreeL.off {r i : Nat} (t : TreeL H ad T) (h : Off ad T.length r i) (k : ∀ r' i', ¬ (r' = r /\ i' = i) -> H'.get r' i' = H.get r' i') : TreeL H' ad T :=
 ⟨fun q o hq => by rw [k _ _ fun ⟨a, b⟩ => h q (cont_ok hq) (Prod.ext a b)]; exact t.get q o hq, t.inj, t.few, t.pos⟩
theorem St.smod (s : St H0 ad0 n0 rs is_ rp ip H ad T j pl) (m : SMod rs is_ H H') : St H0 ad0 n0 rs is_ rp ip H' ad T j pl := by
 obtain ⟨a, b, sr⟩ := s.src;have hreg : H'.reg = H.reg := by obtain ⟨_, _, _, _, rfl⟩ := m; exact Hp.upd_reg ..
 exact ⟨m.ok s.ok sr, s.t.off s.offS fun _ _ h => m.get h, s.G, s.len, m.src sr.pos, s.offS, s.offP, s.nsp, by rw [m.get s.nsp]; exact s.gp, s.pls, s.pl0, s.plj, hreg.trans s.reg, s.tr, s.offK,
  fun r i o h1 h2 h3 => by rw [m.get h2]; exact s.keep r i o h1 h2 h3, s.new⟩
theorem St.push (s : St H0 ad0 n0 rs is_ rp ip H ad T j pl) (o : O) : St H0 ad0 n0 rs is_ rp ip (H.push o) ad T j pl := by
 obtain ⟨a, b, sr⟩ := s.src;have e := (Ext.refl s.ok).push o;exact ⟨e.ok, s.t.ext e, s.G, s.len, ⟨a, b, e.keep _ _ _ sr.get, sr.na, sr.nb, sr.pos⟩, s.offS, s.offP, s.nsp, e.keep _ _ _ s.gp, s.pls, s.pl0, s.plj, e.reg.trans s.reg, s.tr, s.offK,
  fun r i o h1 h2 h3 => e.keep _ _ _ (s.keep r i o h1 h2 h3), s.new⟩
theorem St.tmod (s : St H0 ad0 n0 rs is_ rp ip H ad T j pl) (m : TMod H ad T H' ad' T') (G : Gr T' (j + 1)) (hl : T'.length = T.length + 1) (hT : ∀ (p : Nat) (r : Row), T[p]? = some r -> ∃ r' : Row, T'[p]? = some r' /\ r'.kind = r.kind) : St H0 ad0 n0 rs is_ rp ip H' ad' T' (j + 1) pl := by
 obtain ⟨a, b, sr⟩ := s.src;refine ⟨m.ok, m.tree, G, by rw [hl, s.len]; rfl, ⟨a, b, m.keep _ _ _ s.offS sr.get, sr.na, sr.nb, sr.pos⟩, m.off s.offS sr.get, m.off s.offP s.gp, s.nsp, m.keep _ _ _ s.offP s.gp, fun p hp => ?_, s.pl0, Nat.le_succ_of_le s.plj, m.reg.trans s.reg, (m.old .tree trivial).trans s.tr,
  fun r i o h1 h2 => ?_, fun r i o h1 h2 h3 => m.keep _ _ _ (s.offK r i o h1 h3) (s.keep r i o h1 h2 h3), s.new⟩
 ·obtain ⟨r, h1, h2⟩ := s.pls p hp;obtain ⟨r', h3, h4⟩ := hT p r h1;exact ⟨r', h3, h4.trans h2⟩
 ·by_cases z : r = rs /\ i = is_
  ·obtain ⟨rfl, rfl⟩ := z;exact m.off s.offS sr.get
  ·exact m.off (s.offK r i o h1 h2) (s.keep r i o h1 z h2)
theorem St.app (s : St H0 ad0 n0 rs is_ rp ip H ad T (j + 1) pl) (hp : pl.length <= 2 + j) {n : Nat} (hn : ∃ r : Row, T[n]? = some r /\ r.kind = ofString "element") (r0 : rp ≠ 0) : St H0 ad0 n0 rs is_ rp ip (H.upd rp ip (.list (pl.map nV ++ [nV n]))) ad T (j + 1) (pl ++ [n]) := by
 obtain ⟨a, b, sr⟩ := s.src;have nsp' : ¬ (rs = rp /\ is_ = ip) := fun ⟨a, b⟩ => s.nsp ⟨a.symm, b.symm⟩;refine ⟨s.ok.upd _ s.gp r0, s.t.off s.offP fun _ _ h => by rw [Hp.get_upd, if_neg h], s.G, s.len, ⟨a, b, by rw [Hp.get_upd, if_neg nsp']; exact sr.get, sr.na, sr.nb, sr.pos⟩, s.offS, s.offP, s.nsp, by rw [Hp.get_upd, if_pos ⟨rfl, rfl⟩, List.map_append]; rfl, fun p hp => ?_,
  by rw [length_append]; exact Nat.succ_pos _, by rw [length_append]; exact Nat.succ_le_succ hp, (Hp.upd_reg ..).trans s.reg, s.tr, s.offK, fun r i o h1 h2 h3 => ?_, s.new⟩
 ·rcases List.mem_append.1 hp with h | h
  ·exact s.pls p h
  ·rw [List.mem_singleton.1 h]; exact hn
 ·rw [Hp.get_upd, if_neg (fun ⟨a, b⟩ => by rw [a, b, s.new] at h3; cases h3)]
  exact s.keep r i o h1 h2 h3
theorem kind_add {new r : Row} {p : Nat} (f : Row -> Row) (hr : T[p]? = some r) (hf : (f r).kind = r.kind) : ∀ (q : Nat) (r' : Row), T[q]? = some r' -> ∃ r'' : Row, ((T ++ [new]).modify p f)[q]? = some r'' /\ r''.kind = r'.kind := fun q r' h => by
 rw [add_get f hr];by_cases e : q = p
 ·rw [if_pos e];rw [e, hr] at h; cases h;exact ⟨_, rfl, hf⟩
 ·rw [if_neg e, if_pos (List.getElem?_eq_some_iff.1 h).1];exact ⟨r', h, rfl⟩
theorem add_new {new r : Row} {p : Nat} (f : Row -> Row) (hr : T[p]? = some r) : ((T ++ [new]).modify p f)[T.length]? = some new := by
 have hp := (List.getElem?_eq_some_iff.1 hr).1;rw [add_get f hr, if_neg (Nat.ne_of_gt hp), if_neg (Nat.lt_irrefl _), if_pos rfl]
end
noncomputable abbrev gFor : Stmt := stAt (bodyOf 1700) 1
noncomputable def gE (ad : Role -> Nat × Nat) (rs is_ rt it rp ip : Nat) : En := loE 1700 [(sO "source", .ref rs is_), (sO "tree", rf (ad .tree)), (sO "tops", .ref rt it), (sO "places", .ref rp ip)]
noncomputable def gNs : List Str := [sO "source", sO "tree", sO "tops", sO "places"]
section
variable {B : Bs} (K : BOk B) {H : Hp} {d : Nat}
include K
theorem g_turn {H0 : Hp} {ad0 ad : Role -> Nat × Nat} {n0 rs is_ rt it rp ip : Nat} {T : List Row} {j : Nat} {pl : List Nat} (s3 : St H0 ad0 n0 rs is_ rp ip H ad T j pl) (hj9 : j < 9) (r0 : rp ≠ 0) :
  ∃ f H' ad' T' pl', TurnJ B (d + 5) (gE ad0 rs is_ rt it rp ip) H (forT gFor) (nV j) (forB gFor) (f, gE ad0 rs is_ rt it rp ip, H') /\ (f = .next \/ f = .cont) /\ St H0 ad0 n0 rs is_ rp ip H' ad' T' (j + 1) pl' := by
 obtain ⟨a3, b3, sr⟩ := s3.src;have hpl := s3.plj;have hp1 : pl.length <= 10 := le_trans hpl (Nat.add_le_add_left (Nat.lt_succ_iff.1 hj9) 2);obtain ⟨v, H4, c1, hv, m4⟩ := l_one K sr s3.gp s3.nsp (by rw [length_map]; exact s3.pl0) (by rw [length_map]; exact le_trans hp1 (by decide)) (d := d + 3)
 obtain ⟨p, hp, rfl⟩ := List.mem_map.1 hv;have s4 := s3.smod m4;obtain ⟨a4, b4, sr4⟩ := s4.src;obtain ⟨f, H5, c2, f0, f1, m5⟩ := l_take K sr4 (top := 6) (by decide) (by decide) (d := d + 4)
 have s6 := (s4.smod m5).push (.tup [nV p, .int f]);have g6 := get_push_new H5 (.tup [nV p, .int f]);obtain ⟨r, hr, hkd⟩ := s6.pls p hp;have hc := s6.G.kids_len p;rw [kids_some hr] at hc;have hT6 : T.length < 1000 := lt_of_le_of_lt (le_of_eq s6.len) (Nat.lt_trans (Nat.add_lt_add_left hj9 4) (by decide))
 have hkl : ∀ {n}, n <= (kidsR r).length -> n < 1000 := fun h => lt_of_le_of_lt (le_trans h hc) hT6;have hkc : r.ch.length < 1000 := hkl (length_append ▸ Nat.le_add_left _ _);have htr := s6.tr;have gt := s6.t.get .tree _ rfl;rw [htr] at gt;have gpl := s6.gp;by_cases h1 : f < 2
 ·obtain ⟨ad7, H7, c3, m7⟩ := t_addelement K s6.ok s6.t hT6 hr hkc (Or.inr hkd) (sO "e") (sO "") (sO "e") (d := d);rw [htr] at c3;have s7 := s6.tmod m7 (s6.G.addCh (Nat.le_succ _) hr (Or.inr hkd) _ _ _ _ _) add_len (fun q r' h => kind_add (addC _) hr rfl q r' h);have gp7 := s7.gp;have s8 := s7.app hpl ⟨_, add_new (addC _) hr, rfl⟩ r0;have hpl2 := len_limS (f := nV) (lt_of_le_of_lt hp1 (by decide))
  refine ⟨.next, _, ad7, _, _, ?_, .inl rfl, s8⟩;exact turnJ_of K gNs [.vh c1, .vh c2, .c, .c, .o g6, .y h1, .o gpl, .o gt, .vh c3, .o gp7, .y hpl2, .y r0, .c] (by kernel_rfl)
 ·have h0j : (0 : Int) <= (j : Nat) /\ ((j : Nat) : Int) < 10 := ⟨Int.natCast_nonneg j, Int.ofNat_lt.2 (Nat.lt_succ_of_lt hj9)⟩;by_cases h2 : f = 2
  ·subst h2;obtain ⟨ad7, H7, c3, m7⟩ := t_setattr K s6.ok s6.t hT6 hr (hkl (by unfold kidsR; rw [length_append, length_append]; exact le_trans (Nat.le_add_left _ _) (Nat.le_add_right _ _))) hkd (nmK j) (sO "") (nmK j) (sO "v") (fun a ha => by
    obtain ⟨ra, x1, x2, i, x3, x4⟩ := s6.G.ats p r a hr ha;exact ⟨ra, x1, fun e => absurd (nm_inj i (Nat.lt_trans x3 hj9) j hj9 (Or.inl (x4.symm.trans e))) (Nat.ne_of_lt x3)⟩) (d := d + 1)
   rw [htr] at c3;have s7 := s6.tmod m7 (s6.G.addAt (Nat.le_succ _) hr (Or.inr hkd) (Nat.lt_succ_self _) _ _ _) add_len (fun q r' h => kind_add (addA _) hr rfl q r' h);have hz := nmK_len j hj9;refine ⟨.next, _, ad7, _, _, ?_, .inl rfl, s7⟩;exact turnJ_of K gNs [.vh c1, .vh c2, .c, .c, .o g6, .n h1, .c, .o gt, .y h0j, .y hz, .y h0j, .y hz, .vh c3] (by kernel_rfl)
  ·by_cases h3 : f = 3
   ·subst h3;obtain ⟨ad7, H7, c3, m7⟩ := t_addns K s6.ok s6.t hT6 hr (hkl (by unfold kidsR; rw [length_append, length_append]; exact le_trans (Nat.le_add_right _ _) (Nat.le_add_right _ _))) hkd (nmP j) (sO "u") (fun a ha => by
     obtain ⟨ra, x1, x2, i, x3, x4⟩ := s6.G.nss p r a hr ha;exact ⟨ra, x1, fun e => absurd (nm_inj i (Nat.lt_trans x3 hj9) j hj9 (Or.inr (x4.symm.trans e))) (Nat.ne_of_lt x3)⟩) (d := d + 1)
    rw [htr] at c3;have s7 := s6.tmod m7 (s6.G.addNs (Nat.le_succ _) hr (Or.inr hkd) (Nat.lt_succ_self _) _ _ _) add_len (fun q r' h => kind_add (addN _) hr rfl q r' h);have hz := nmP_len j hj9;refine ⟨.next, _, ad7, _, _, ?_, .inl rfl, s7⟩;exact turnJ_of K gNs [.vh c1, .vh c2, .c, .c, .o g6, .n h1, .n h2, .c, .o gt, .y h0j, .y hz, .vh c3] (by kernel_rfl)
   ·by_cases h4 : f = 4
    ·subst h4;obtain ⟨ad7, H7, c3, m7⟩ := t_addtext K s6.ok s6.t hT6 hr hkc (Or.inr hkd) (sO "t") (d := d);rw [htr] at c3;have s7 := s6.tmod m7 (s6.G.addCh (Nat.le_succ _) hr (Or.inr hkd) _ _ _ _ _) add_len (fun q r' h => kind_add (addC _) hr rfl q r' h);refine ⟨.next, _, ad7, _, _, ?_, .inl rfl, s7⟩;exact turnJ_of K gNs [.vh c1, .vh c2, .c, .c, .o g6, .n h1, .n h2, .n h3, .c, .o gt, .vh c3] (by kernel_rfl)
    ·obtain rfl : f = 5 := Int.le_antisymm (Int.le_of_lt_add_one f1) (Int.lt_iff_le_and_ne.2 ⟨Int.lt_iff_le_and_ne.2 ⟨Int.lt_iff_le_and_ne.2 ⟨Int.not_lt.1 h1, Ne.symm h2⟩, Ne.symm h3⟩, Ne.symm h4⟩);obtain ⟨ad7, H7, c3, m7⟩ := t_addcomment K s6.ok s6.t hT6 hr hkc (Or.inr hkd) (sO "c") (d := d);rw [htr] at c3;have s7 := s6.tmod m7 (s6.G.addCh (Nat.le_succ _) hr (Or.inr hkd) _ _ _ _ _) add_len (fun q r' h => kind_add (addC _) hr rfl q r' h);refine ⟨.next, _, ad7, _, _, ?_, .inl rfl, s7⟩;exact turnJ_of K gNs [.vh c1, .vh c2, .c, .c, .o g6, .n h1, .n h2, .n h3, .n h4, .o gt, .vh c3] (by kernel_rfl)
theorem l_grown {ad : Role -> Nat × Nat} {T : List Row} (hk : Hok H) (t : TreeL H ad T) (G : Gr T 0) (hT : T.length = 4) {rs is_ : Nat} {a b : Int} (s : SrcAt H rs is_ a b) (hs : Off ad T.length rs is_) {rt it : Nat} (g : H.get rt it = some (.list [nV 2, nV 3]))
  (k2 : ∃ r : Row, T[2]? = some r /\ r.kind = ofString "element") (k3 : ∃ r : Row, T[3]? = some r /\ r.kind = ofString "element") :
  ∃ H' rp ip ad' T' j pl, FnJ B (d + 6) 1700 [.ref rs is_, rf (ad .tree), .ref rt it] H (.none, H') /\ j <= 8 /\ St H ad T.length rs is_ rp ip H' ad' T' j pl := by
 refine Classical.byContradiction fun nogo => ?_;have e1 := (Ext.refl hk).push (.list [nV 2, nV 3]);have np := hk.new;have hoff : Off ad T.length H.reg H.nxt := fun q hq e => by
  obtain ⟨o, hc⟩ := ok_cont ad hq;have h2 := t.get q o hc;rw [e] at h2;rw [np] at h2; cases h2
 have hpls : ∀ p ∈ [2, 3], ∃ r : Row, T[p]? = some r /\ r.kind = ofString "element" := fun p hp => by
  rcases List.mem_cons.1 hp with rfl | hp
  ·exact k2
  ·rw [List.mem_singleton.1 hp]; exact k3
 have s0 : St H ad T.length rs is_ H.reg H.nxt (H.push (.list [nV 2, nV 3])) ad T 0 [2, 3] := ⟨e1.ok, t.ext e1, G, hT, ⟨a, b, e1.keep _ _ _ s.get, s.na, s.nb, s.pos⟩, hs, hoff, (fun ⟨x, y⟩ => by have := s.get; rw [<- x, <- y, np] at this; cases this),
  get_push_new _ _, hpls, Nat.zero_lt_succ _, Nat.le_refl _, e1.reg, rfl, fun r i o h _ => h, fun r i o _ _ h => e1.keep _ _ _ h, np⟩
 obtain ⟨a1, b1, sr⟩ := s0.src;obtain ⟨f, H2, c1, f0, f1, m2⟩ := l_take K sr (top := 5) (by decide) (by decide) (d := d + 4)
 have s2 := s0.smod m2;obtain ⟨n, rfl⟩ := Int.eq_ofNat_of_zero_le f0;have hn8 : 4 + n <= 8 := Nat.add_le_add_left (Nat.le_of_lt_succ (Int.ofNat_lt.1 f1)) 4;obtain ⟨e', H7, s3, rfl, j, ad', T', pl, hv, hj, s7⟩ := fo_range (B := B) (d := d + 5) (n := 4 + n) (t := forT gFor) (b := forB gFor)
  (J := fun vs e H' => e = gE ad rs is_ rt it H.reg H.nxt /\ ∃ j ad' T' pl, vs = ((List.range (4 + n)).drop j).map nV /\ j <= 4 + n /\ St H ad T.length rs is_ H.reg H.nxt H' ad' T' j pl) (fun e H3 v vs h => by
   obtain ⟨rfl, j, ad3, T3, pl, hv, hj, s3⟩ := h;have hjn : j < 4 + n := by
    refine Nat.lt_of_le_of_ne hj fun e => ?_;rw [e, List.drop_of_length_le (by rw [List.length_range]; exact Nat.le_refl _)] at hv
    cases hv
   rw [List.drop_eq_getElem_cons (by rw [List.length_range]; exact hjn), List.getElem_range, List.map_cons] at hv
   injection hv with hv1 hv2
   subst hv1 hv2;obtain ⟨f, H', ad', T', pl', h1, h2, h3⟩ := g_turn K s3 (rt := rt) (it := it) (d := d) (Nat.lt_succ_of_lt (lt_of_lt_of_le hjn hn8)) hk.pos;exact ⟨f, _, H', h1, h2, rfl, j + 1, ad', T', pl', rfl, hjn, h3⟩)
  ⟨rfl, 0, ad, T, [2, 3], rfl, Nat.zero_le _, s2⟩
 have h9 : (0 : Int) <= 4 + (n : Nat) /\ 4 + ((n : Nat) : Int) < limN := ⟨Int.natCast_nonneg (4 + n), Int.ofNat_lt.2 (lt_of_le_of_lt hn8 (by decide : 8 < limN))⟩
 have w : FnJ B (d + 6) 1700 [.ref rs is_, rf (ad .tree), .ref rt it] H (.none, H7) := by
  exact fnJ_of K rfl [.o g, .c, .c, .vh c1, .y h9, .fo s3] (by kernel_rfl)
 exact nogo ⟨_, _, _, _, _, j, pl, w, le_trans hj hn8, s7⟩
end
theorem ExsJ.weak {B : Bs} {d : Nat} {e e' : En} {H : Hp} {b : List Stmt} {r : Fl × En × Hp} (h : ExsJ B d e' H b r) (w : Weak e e') : ExsJ B d e H b r := fun m A env s z => h m A env s (z.weak w)
def SegJ (B : Bs) (d : Nat) (e : En) (H : Hp) (ss : List Stmt) (q : En × Hp) : Prop := ∀ rest r, ExsJ B d q.1 q.2 rest r -> ExsJ B d e H (ss ++ rest) r
noncomputable def segO (ns : List Str) (I : OI) (d : Nat) : En -> Hp -> List Stmt -> OM (En × Hp)
 | e, H, [] => ret (pickE ns e, H)
 | e, H, x :: r => (I.ex d e H x).bind fun p => match p.1 with
  | .next => segO ns I d p.2.1 p.2.2 r
  | _ => OM.no
theorem segO_ok {B : Bs} {I : OI} (O : IOk B I) {ns : List Str} {d : Nat} : ∀ {ss : List Stmt} {e : En} {H : Hp}, Says (segO ns I d e H ss) (SegJ B d e H ss)
 | [], e, H => Says.ret fun rest r h => h.weak (weak_pick ns e)
 | x :: ss, e, H => (O.ex d e H x).bind fun p h1 => by
  obtain ⟨f, e1, H1⟩ := p;cases f with
  | next => exact (segO_ok O).mono fun q h2 rest r h => exsJ_next h1 (h2 rest r h)
  | _ => exact Says.no
theorem segJ_of {B : Bs} (K : BOk B) (ns : List Str) {d : Nat} {e : En} {H : Hp} {ss : List Stmt} {q : En × Hp} (fs : List Fact) (h : segO ns (I60 B) d e H ss (fs.map Fact.a) = .ok q [] (fs.map Fact.p)) : SegJ B d e H ss q := (segO_ok (orI_ok K 60)).ok fs h
noncomputable def fnBodyA (B : Bs) (d : Nat) (fn : Fn) (as : List V) (H : Hp) : OM (V × Hp) := liftO (bindP fn.params fn.dflt as) fun bs => (envO fn.scope.names [] (fn.qual ++ ".<locals>.") bs H).bind fun p => (ask Ans.fl? (ExsJ B d p.1 p.2 fn.body) OM.no).bind retO
theorem fnBodyA_ok {B : Bs} (K : BOk B) {d a : Nat} {fn : Fn} {H : Hp} (hf : pgT.fns a = some fn) {as : List V} : Says (fnBodyA B d fn as H) (FnJ B (d + 1) a as H) := by
 obtain ⟨o, fd, c, F⟩ := K.fns a fn hf;exact Says.lift fun bs h1 => (envO_ok (B := B)).bind fun p h2 => (Says.ask (F := ExsJ B d p.1 p.2 fn.body) (fun _ h => h) Says.no).bind fun q h3 => retO_ok.mono fun r h4 => ⟨F.keeps, fun m A s us R ha rm => codes_body K h1 h2 h3 h4 (fdR_fn K F R) (F.body.trans rfl) R ha rm⟩
noncomputable def Fact.xs {B : Bs} {d : Nat} {e : En} {H : Hp} {b : List Stmt} {r : Fl × En × Hp} (h : ExsJ B d e H b r) : Fact := ⟨.fl r, ExsJ B d e H b r, h⟩
theorem fnA_of {B : Bs} (K : BOk B) {d a : Nat} {as : List V} {H : Hp} {r : V × Hp} (h : (pgT.fns a).isSome = true) (fs : List Fact) (e : fnBodyA B d (fnOf a) as H (fs.map Fact.a) = .ok r [] (fs.map Fact.p)) : FnJ B (d + 1) a as H r := by
 unfold fnOf at e;cases hf : pgT.fns a with
 | none => rw [hf] at h; cases h
 | some fn => rw [hf] at e; exact (fnBodyA_ok K hf).ok fs e
noncomputable def abcL : List String := ["a", "b", "c"]
theorem Kq.refl {H : Hp} (hk : Hok H) : Kq H H := ⟨hk, fun _ _ _ g => g⟩
noncomputable def Ex.res (S : String -> List Nat) (T : List Row) : Ex -> O
 | .ne e => .list ((e.sem S T).map nV)
 | .fil e ps => .list ((ps.foldl keptBy (e.sem S T)).map nV)
 | .cnt e => .tup [nV (e.sem S T).length, .int 1]
noncomputable def Ex.fits (xs : List String) : Ex -> Prop
 | .ne e => (∀ x ∈ e.vars, x ∈ xs) /\ e.need <= 40
 | .fil e ps => (∀ x ∈ e.vars, x ∈ xs) /\ e.need <= 40
 | .cnt e => (∀ x ∈ e.vars, x ∈ xs) /\ e.need <= 40 /\ e.isUn
theorem TreeL.kq {H H' : Hp} {ad : Role -> Nat × Nat} {T : List Row} (t : TreeL H ad T) (x : Kq H H') : TreeL H' ad T := ⟨fun q o h => x.keep _ _ _ (t.get q o h), t.inj, t.few, t.pos⟩
theorem VarsAt.kq {H H' : Hp} {vs S xs} (x : Kq H H') (h : VarsAt H vs S xs) : VarsAt H' vs S xs := by
 obtain ⟨es, g, h⟩ := h;refine ⟨es, x.keep _ _ _ g, fun y hy => ?_⟩;obtain ⟨a, r, i, e, g⟩ := h y hy;exact ⟨a, r, i, e, x.keep _ _ _ g⟩
theorem eqL_self : ∀ xs : List Nat, eqL (xs.map nV) (xs.map nV) = some true
 | [] => rfl
 | x :: xs => by
  show (eqS (nV x) (nV x)).bind _ = _;rw [show eqS (nV x) (nV x) = some true from congrArg some (decide_eq_true rfl)]
  show (eqL (xs.map nV) (xs.map nV)).map _ = _;rw [eqL_self xs]; rfl
section
variable {B : Bs} (K : BOk B) {H : Hp}
include K
theorem l_evalEx {ad : Role -> Nat × Nat} {T : List Row} (w : Wf T) (hc : ∀ p, (kids T p).length <= 50) (hT : T.length <= 50) {S : String -> List Nat} {xs : List String} (so : SOk S T xs) (hk : Hok H) (t : TreeL H ad T) {c : Cx} (htr : c.tr = ad .tree) {rc ic : Nat}
  (gc : H.get rc ic = some (.inst 1079 (cxF c))) (hv : VarsAt H c.vs S xs) {e : Ex} (he : e.fits xs) {v : V} (h : IsEx H e v) :
  ∃ r i H', FnJ B 58 1040 [v, .ref rc ic] H (.ref r i, H') /\ Ext H H' /\ H'.get r i = some (e.res S T) := by
 cases e with
 | ne e =>
  obtain ⟨r, i, H', s, a, b, -⟩ := l_evalNE K w hc hT so e he.1 H c v hk t htr gc hv h;exact ⟨r, i, H', s.up (le_trans he.2 (by decide)), a, b⟩
 | fil e ps =>
  obtain ⟨r, i, r1, i1, r2, i2, vs, rfl, g, h1, g2, h2⟩ := h;exact l_evalFil K w hc hT so hk t htr gc hv he.1 g h1 g2 h2 (le_trans he.2 (by decide)) (d := 40)
 | cnt e =>
  obtain ⟨r, i, r1, i1, va, rfl, g, g1, h1⟩ := h;exact l_evalCnt K w hc hT so hk t htr gc hv he.1 g g1 h1 he.2.2 (le_trans he.2.1 (by decide)) (d := 40)

noncomputable abbrev rX : Expr := match asV (stAt (bodyOf 1712) 8) with
 | .Compare x _ _ _ => x
 | x => x
theorem l_rowsC {ad : Role -> Nat × Nat} {T : List Row} (w : Wf T) (hc : ∀ p, (kids T p).length <= 50) (hT : T.length <= 50) {S : String -> List Nat} (so : SOk S T abcL) (hk : Hok H) (t : TreeL H ad T) {c : Cx} (htr : c.tr = ad .tree) {rc ic : Nat}
  (gc : H.get rc ic = some (.inst 1079 (cxF c))) (hv : VarsAt H c.vs S abcL) {rr ir cr ci : Nat} {LL : List V} (g : H.get rr ir = some (.list LL)) (gX : H.get cr ci = some (.cell (some (.ref rc ic)))) {tab : List (String × Ex)} {a0 : Nat} (hR : H.reg + 1 = a0)
  (hrows : ∀ (k : Nat) (v : V), LL[k]? = some v -> ∃ r i te dr di, v = .ref r i /\ tab[k]? = some te /\ H.get r i = some (.tup [.str (ofString te.1), .ref dr di]) /\ H.get dr di = some (te.2.res S T) /\ te.2.fits abcL)
  (hps : ∀ (k : Nat) (te : String × Ex), tab[k]? = some te -> Parses B 58 (a0 + k) te.1 te.2) :
  ∃ H', CoJ B 58 (coEC 1712 rX [(sO "context", cr, ci)]) (H.push (.list [])) (compElt rX) (compG rX) (.lst rr ir 0) H.reg H.nxt (coEC 1712 rX [(sO "context", cr, ci)], H') /\ Kq (H.push (.list [])) H' := by
 have e1 := (Ext.refl hk).push (.list []);obtain ⟨H', s, x, -⟩ := co_list (B := B) (d := 58) (e := coEC 1712 rX [(sO "context", cr, ci)]) (elt := compElt rX) (g := compG rX) (ra := H.reg) (ia := H.nxt) (r := rr) (i := ir) (xs := LL)
  (J := fun vs H' => Kq (H.push (.list [])) H' /\ ∃ k, vs = LL.drop k /\ H'.reg + 1 = a0 + k) (fun vs H' h => h.1.keep _ _ _ (e1.keep _ _ _ g)) (fun H' v vs h => by
   obtain ⟨x, k, hvs, hreg⟩ := h;obtain ⟨hv2, rfl⟩ := drop_cons hvs;have x0 := (e1.kq).trans x;obtain ⟨r, i, te, dr, di, rfl, h2, h3, h4, h5⟩ := hrows k v hv2;have g3 := x0.keep _ _ _ h3;obtain ⟨v, H2, s2, x2, hr2, hex⟩ := l_parse K x.ok hreg (hps k te h2);have x02 := x0.trans x2;have gX2 := x02.keep _ _ _ gX;obtain ⟨r3, i3, H3, s3, x3, g4⟩ := l_evalEx K w hc hT so x02.ok (t.kq x02) htr (x02.keep _ _ _ gc) (hv.kq x02) h5 hex;have gd := x3.keep _ _ _ (x02.keep _ _ _ h4);have gX3 := x3.keep _ _ _ gX2;refine ⟨H3, ?_, (x.trans x2).trans x3.kq, k + 1, rfl, by rw [x3.reg, hr2]; rfl⟩
   obtain ⟨tx, ex⟩ := te;have tw : ∀ L : List Nat, ex.res S T = .list (L.map nV) -> CTurnJ B 58 (coEC 1712 rX [(sO "context", cr, ci)]) H' (compElt rX) (compG rX) (.ref r i) H.reg H.nxt (coEC 1712 rX [(sO "context", cr, ci)], H3) := fun L hL => by
    rw [hL] at g4 gd;have q1 : (L.map nV).length = (L.map nV).length := rfl;have q2 := eqL_self L;exact cTurnJ_of K [.o g3, .vh s2, .o gX2, .vh s3, .o g4, .o gd, .y q1, .bo q2] (by kernel_rfl)
   cases ex with
   | ne e => exact tw _ rfl
   | fil e ps => exact tw _ rfl
   | cnt e =>
    have q2 : eqL [nV (e.sem S T).length, .int 1] [nV (e.sem S T).length, .int 1] = some true := by
     show (eqS (nV (e.sem S T).length) (nV (e.sem S T).length)).bind _ = _;rw [show eqS (nV (e.sem S T).length) (nV (e.sem S T).length) = some true from congrArg some (decide_eq_true rfl)]; rfl
    exact cTurnJ_of K [.o g3, .vh s2, .o gX2, .vh s3, .o g4, .o gd, .c, .bo q2] (by kernel_rfl)
    )
  ⟨Kq.refl e1.ok, 0, rfl, hR⟩
 exact ⟨H', s, x⟩
end
structure Fr (rs is_ : Nat) (H H' : Hp) : Prop where
 ok : Hok H'
 keep : ∀ r i o, ¬ (r = rs /\ i = is_) -> H.get r i = some o -> H'.get r i = some o
 reg : H'.reg = H.reg
 src : ∃ a b, SrcAt H' rs is_ a b
section
variable {rs is_ : Nat} {H H' H'' : Hp}
theorem Fr.refl (hk : Hok H) (s : ∃ a b, SrcAt H rs is_ a b) : Fr rs is_ H H := ⟨hk, fun _ _ _ _ g => g, rfl, s⟩
theorem Fr.trans (x : Fr rs is_ H H') (y : Fr rs is_ H' H'') : Fr rs is_ H H'' := ⟨y.ok, fun r i o n g => y.keep r i o n (x.keep r i o n g), y.reg.trans x.reg, y.src⟩
theorem SrcAt.ext {a b : Int} (s : SrcAt H rs is_ a b) (x : Ext H H') : SrcAt H' rs is_ a b := ⟨x.keep _ _ _ s.get, s.na, s.nb, s.pos⟩
theorem Fr.ext (x : Fr rs is_ H H') (y : Ext H' H'') : Fr rs is_ H H'' := ⟨y.ok, fun r i o n g => y.keep _ _ _ (x.keep r i o n g), y.reg.trans x.reg, let ⟨a, b, s⟩ := x.src; ⟨a, b, s.ext y⟩⟩
theorem Fr.push (x : Fr rs is_ H H') (o : O) : Fr rs is_ H (H'.push o) := x.ext ((Ext.refl x.ok).push o)
theorem Fr.smod (x : Fr rs is_ H H') (m : SMod rs is_ H' H'') : Fr rs is_ H H'' := by
 obtain ⟨a, b, s⟩ := x.src;have hreg : H''.reg = H'.reg := by obtain ⟨_, _, _, _, rfl⟩ := m; exact Hp.upd_reg ..
 exact ⟨m.ok x.ok s, fun r i o n g => by rw [m.get n]; exact x.keep r i o n g, hreg.trans x.reg, m.src s.pos⟩
theorem Fr.own (x : Fr rs is_ H H') (hk : Hok H) {r i : Nat} {o : O} (n : H.get r i = none) (g : H'.get r i = some o) : r ≠ 0 := by
 rintro rfl;cases q : Nat.beq i 1718 with
 | true => rw [Nat.eq_of_beq_eq_true q] at n; exact hk.scr n
 | false => rw [hk.zero i q] at n; rw [x.ok.zero i q, n] at g; cases g
theorem Fr.upd (x : Fr rs is_ H H') (hk : Hok H) (s : ∃ a b, SrcAt H rs is_ a b) {r i : Nat} {o0 : O} (o : O) (n : H.get r i = none) (g : H'.get r i = some o0) : Fr rs is_ H (H'.upd r i o) := by
 obtain ⟨a, b, s'⟩ := x.src;obtain ⟨a0, b0, s0⟩ := s;refine ⟨x.ok.upd o g (x.own hk n g), fun r' i' o' h g' => ?_, (Hp.upd_reg ..).trans x.reg, a, b, ?_, s'.na, s'.nb, s'.pos⟩
 ·rw [Hp.get_upd, if_neg (fun ⟨e1, e2⟩ => by rw [e1, e2, n] at g'; cases g')]
  exact x.keep _ _ _ h g'
 ·rw [Hp.get_upd, if_neg (fun ⟨e1, e2⟩ => by have := s0.get; rw [e1, e2, n] at this; cases this)]
  exact s'.get
theorem Fr.tree {ad : Role -> Nat × Nat} {T : List Row} (x : Fr rs is_ H H') (t : TreeL H ad T) (h : Off ad T.length rs is_) : TreeL H' ad T :=
 ⟨fun q o hq => x.keep _ _ _ (fun ⟨a, b⟩ => h q (cont_ok hq) (Prod.ext a b)) (t.get q o hq), t.inj, t.few, t.pos⟩
def Dn (H : Hp) (rs is_ r i : Nat) (S : String -> List Nat) : Prop := ∃ es, H.get r i = some (.dict es) /\ ∀ x ∈ abcL, ∃ r' i', inD (.str (ofString x)) es = some (.ref r' i') /\ H.get r' i' = some (.list ((S x).map nV)) /\ ¬ (r' = rs /\ i' = is_)
theorem Dn.fr {r i : Nat} {S : String -> List Nat} (h : Dn H rs is_ r i S) (s : ∃ a b, SrcAt H rs is_ a b) (x : Fr rs is_ H H') : Dn H' rs is_ r i S := by
 obtain ⟨es, g, h⟩ := h;obtain ⟨a, b, s⟩ := s;refine ⟨es, x.keep _ _ _ (fun ⟨e1, e2⟩ => by have := s.get; rw [<- e1, <- e2, g] at this; cases this) g, fun y hy => ?_⟩
 obtain ⟨r', i', h1, h2, h3⟩ := h y hy;exact ⟨r', i', h1, x.keep _ _ _ h3 h2, h3⟩
theorem abc_of {x : String} (h : x ∈ abcL) : abc x := by
 simp only [abcL, List.mem_cons, List.mem_nil_iff, or_false] at h;exact h
theorem Dn.vars {r i : Nat} {S : String -> List Nat} (h : Dn H rs is_ r i S) : VarsAt H (r, i) S abcL := by
 obtain ⟨es, g, h⟩ := h;refine ⟨es, g, fun y hy => ⟨abc_of hy, ?_⟩⟩;obtain ⟨r', i', h1, h2, h3⟩ := h y hy;exact ⟨r', i', h1, h2⟩
end

structure MadeF (rs is_ : Nat) (H H' : Hp) (os : List O) : Prop where
 fr : Fr rs is_ H H'
 src0 : ∃ a b, SrcAt H rs is_ a b
 ok0 : Hok H
 nxt : H'.nxt = H.nxt + os.length
 got : ∀ k o, os[k]? = some o -> H'.get H.reg (H.nxt + k) = some o
section
variable {rs is_ : Nat} {H H' : Hp} {os : List O}
theorem MadeF.start (hk : Hok H) (s : ∃ a b, SrcAt H rs is_ a b) : MadeF rs is_ H H [] := ⟨Fr.refl hk s, s, hk, rfl, fun _ _ h => nomatch h⟩
theorem MadeF.push (m : MadeF rs is_ H H' os) (x : O) : MadeF rs is_ H (H'.push x) (os ++ [x]) := ⟨m.fr.push x, m.src0, m.ok0, by rw [Hp.push_nxt, m.nxt, length_append]; rfl, fun k o h => by
 rw [Hp.get_push, m.fr.reg, m.nxt];rcases Nat.lt_trichotomy k os.length with z | z | z
 ·rw [if_neg fun e => Nat.ne_of_lt z (Nat.add_left_cancel e.2)];rw [List.getElem?_append_left z] at h;exact m.got k o h
 ·subst z;rw [List.getElem?_concat_length] at h;rw [if_pos ⟨rfl, rfl⟩]; exact h
 ·rw [List.getElem?_eq_none (by rw [length_append]; exact z)] at h; cases h⟩
theorem MadeF.set (m : MadeF rs is_ H H' os) (k : Nat) (o : O) (hk : k < os.length) : ∃ b t, H'.upd H.reg (H.nxt + k) o = ⟨b, H.reg, t, H.nxt + os.length⟩ /\ MadeF rs is_ H ⟨b, H.reg, t, H.nxt + os.length⟩ (os.set k o) := by
 obtain ⟨b, t, e⟩ := upd_mk H' H.reg (H.nxt + k) o;rw [m.fr.reg, m.nxt] at e;refine ⟨b, t, e, ?_, m.src0, m.ok0, by rw [List.length_set], fun j x h => ?_⟩
 ·rw [<- e];exact m.fr.upd m.ok0 m.src0 o (m.ok0.fresh _ (Nat.le_add_right ..)) (m.got k _ (List.getElem?_eq_getElem hk))
 ·rw [<- e, Hp.get_upd];rw [List.getElem?_set] at h;by_cases z : k = j
  ·subst z;rw [if_pos rfl, if_pos hk] at h;rw [if_pos ⟨rfl, rfl⟩]; exact h
  ·rw [if_neg z] at h;rw [if_neg fun e => z (Nat.add_left_cancel e.2).symm];exact m.got j x h
theorem MadeF.smod (m : MadeF rs is_ H H' os) {H'' : Hp} (sm : SMod rs is_ H' H'') : ∃ b t, H'' = ⟨b, H.reg, t, H.nxt + os.length⟩ /\ MadeF rs is_ H ⟨b, H.reg, t, H.nxt + os.length⟩ os := by
 have fr := m.fr.smod sm;obtain ⟨a, c, s⟩ := m.src0;have got : ∀ k o, os[k]? = some o -> H''.get H.reg (H.nxt + k) = some o := fun k o h => by
  rw [sm.get]
  ·exact m.got k o h
  ·rintro ⟨e1, e2⟩;have := m.ok0.fresh (H.nxt + k) (Nat.le_add_right ..);rw [e1, e2, s.get] at this; cases this
 obtain ⟨x, y, h1, h2, rfl⟩ := sm;obtain ⟨b, t, e⟩ := upd_mk H' rs is_ (.list [.int x, .int y]);rw [m.fr.reg, m.nxt] at e;rw [e] at fr got ⊢;exact ⟨b, t, rfl, fr, m.src0, m.ok0, rfl, got⟩
end

noncomputable abbrev bothX : Expr := asV (stAt (bodyOf 1712) 0)
noncomputable abbrev wholeX : Expr := asV (stAt (bodyOf 1712) 1)
section
variable {B : Bs} (K : BOk B) {H : Hp} {rs is_ : Nat} {S : String -> List Nat} {E : List Nat}
include K
omit K in
theorem Dn.at {r i : Nat} (h : Dn H rs is_ r i S) {x : String} (hx : x ∈ abcL) {es : List (V × V)} (g : H.get r i = some (.dict es)) : ∃ r' i', inD (.str (ofString x)) es = some (.ref r' i') /\ H.get r' i' = some (.list ((S x).map nV)) := by
 obtain ⟨es', g', h⟩ := h;rw [g] at g'; cases g';obtain ⟨r', i', a, b, _⟩ := h x hx;exact ⟨r', i', a, b⟩
theorem p_both {rd id re ie : Nat} {c0 c2 : O} {H5 : Hp} (M : MadeF rs is_ H H5 [c0, .cell (some (.ref rd id)), c2]) (hd : Dn H rs is_ rd id S) (ge : H.get re ie = some (.list (E.map nV))) (ne : ¬ (re = rs /\ ie = is_)) (hE : E.length <= 400) :
  ∃ H', CoJ B 58 (coEC 1712 bothX [(sO "sets", H.reg, H.nxt + 1)]) (H5.push (.list [])) (compElt bothX) (compG bothX) (.lst re ie 0) H.reg (H.nxt + 3) (coEC 1712 bothX [(sO "sets", H.reg, H.nxt + 1)], H') /\ MadeF rs is_ H H' [c0, .cell (some (.ref rd id)), c2, .list ((E.filter fun m => m ∈ S "a" \/ m ∈ S "b").map nV)] := by
 obtain ⟨H', s1, pre, vn, x2, x3, M'⟩ := co_list (B := B) (d := 58) (e := coEC 1712 bothX [(sO "sets", H.reg, H.nxt + 1)]) (elt := compElt bothX) (g := compG bothX) (ra := H.reg) (ia := H.nxt + 3) (r := re) (i := ie) (xs := E.map nV)
  (J := fun vs H' => ∃ (pre vn : List Nat), E = pre ++ vn /\ vs = vn.map nV /\ MadeF rs is_ H H' [c0, .cell (some (.ref rd id)), c2, .list ((pre.filter fun m => m ∈ S "a" \/ m ∈ S "b").map nV)])
  (fun vs H' h => by obtain ⟨_, _, _, _, M⟩ := h; exact M.fr.keep _ _ _ ne ge) (fun H' v vs h => by
   obtain ⟨pre, vn, x2, x3, M'⟩ := h;cases vn with
   | nil => cases x3
   | cons k vn =>
    injection x3 with x31 x32
    subst x31 x32;have hlen : ((pre.filter fun m => m ∈ S "a" \/ m ∈ S "b").map nV).length < limN := by
     have h1 : E.length = pre.length + (vn.length + 1) := by rw [x2, length_append]; rfl
     rw [length_map];exact lt_of_le_of_lt (le_trans (List.length_filter_le _ pre) (le_trans (Nat.le_add_right _ _) (le_trans (le_of_eq h1.symm) hE))) (by decide)
    have r0 := M'.ok0.pos;have y1 := M'.got 1 _ rfl;have y3 := M'.got 3 _ rfl;have hd' := hd.fr M'.src0 M'.fr;obtain ⟨es, gd, _⟩ := hd';obtain ⟨ra, ia, ea, ga⟩ := Dn.at (hd.fr M'.src0 M'.fr) (x := "a") (by decide) gd
    obtain ⟨rb, ib, eb, gb⟩ := Dn.at (hd.fr M'.src0 M'.fr) (x := "b") (by decide) gd
    have fin : (E = pre ++ k :: vn) -> E = (pre ++ [k]) ++ vn := fun h => by rw [h, List.append_assoc]; rfl
    by_cases hm : k ∈ S "a"
    ·have il := inL_yes hm;obtain ⟨b2, t2, e2, M2⟩ : ∃ b t, _ = (⟨b, H.reg, t, H.nxt + 4⟩ : Hp) /\ MadeF rs is_ H ⟨b, H.reg, t, H.nxt + 4⟩ [_, _, _, _] := M'.set 3 (.list ((pre.filter fun m => m ∈ S "a" \/ m ∈ S "b").map nV ++ [nV k])) (by show 3 < 4; decide)
     refine ⟨⟨b2, H.reg, t2, H.nxt + 4⟩, ?_, pre ++ [k], vn, fin x2, rfl, ?_⟩
     rotate_left
     ·rw [List.filter_append, List.filter_cons_of_pos (p := fun m => decide (m ∈ S "a" \/ m ∈ S "b")) (decide_eq_true (.inl hm)), List.filter_nil, List.map_append]; exact M2
     ·exact cTurnJ_of K [.o y1, .o gd, .c, .v ea, .o ga, .bo il, .o y3, .y hlen, .y r0, .h e2] (by kernel_rfl)
    ·have il := inL_no hm;by_cases hm2 : k ∈ S "b"
     ·have il2 := inL_yes hm2;obtain ⟨b2, t2, e2, M2⟩ : ∃ b t, _ = (⟨b, H.reg, t, H.nxt + 4⟩ : Hp) /\ MadeF rs is_ H ⟨b, H.reg, t, H.nxt + 4⟩ [_, _, _, _] := M'.set 3 (.list ((pre.filter fun m => m ∈ S "a" \/ m ∈ S "b").map nV ++ [nV k])) (by show 3 < 4; decide)
      refine ⟨⟨b2, H.reg, t2, H.nxt + 4⟩, ?_, pre ++ [k], vn, fin x2, rfl, ?_⟩
      rotate_left
      ·rw [List.filter_append, List.filter_cons_of_pos (p := fun m => decide (m ∈ S "a" \/ m ∈ S "b")) (decide_eq_true (.inr hm2)), List.filter_nil, List.map_append]; exact M2
      ·exact cTurnJ_of K [.o y1, .o gd, .c, .v ea, .o ga, .bo il, .o y1, .o gd, .c, .v eb, .o gb, .bo il2, .o y3, .y hlen, .y r0, .h e2] (by kernel_rfl)
     ·have il2 := inL_no hm2;refine ⟨H', ?_, pre ++ [k], vn, fin x2, rfl, ?_⟩
      ·exact cTurnJ_of K [.o y1, .o gd, .c, .v ea, .o ga, .bo il, .o y1, .o gd, .c, .v eb, .o gb, .bo il2] (by kernel_rfl)
      ·rw [List.filter_append, List.filter_cons_of_neg (p := fun m => decide (m ∈ S "a" \/ m ∈ S "b")) (by rw [decide_eq_false (fun z => z.elim hm hm2)]; exact Bool.false_ne_true), List.filter_nil, List.append_nil]; exact M'
    )
  ⟨[], E, rfl, rfl, M.push _⟩
 cases vn with
 | cons k vn => cases x3
 | nil =>
  rw [List.append_nil] at x2;subst x2;exact ⟨H', s1, M'⟩
end
section
variable {B : Bs} (K : BOk B) {H : Hp} {rs is_ : Nat} {S : String -> List Nat} {E D : List Nat}
include K
theorem p_whole {rd id re ie : Nat} {c0 : O} {H5 : Hp} (M : MadeF rs is_ H H5 [c0, .cell (some (.ref rd id)), .cell (some (.ref H.reg (H.nxt + 3))), .list (D.map nV)]) (hd : Dn H rs is_ rd id S) (ge : H.get re ie = some (.list (E.map nV))) (ne : ¬ (re = rs /\ ie = is_)) (hE : E.length <= 400) :
  ∃ H', CoJ B 58 (coEC 1712 wholeX [(sO "sets", H.reg, H.nxt + 1), (sO "both", H.reg, H.nxt + 2)]) (H5.push (.list [])) (compElt wholeX) (compG wholeX) (.lst re ie 0) H.reg (H.nxt + 4) (coEC 1712 wholeX [(sO "sets", H.reg, H.nxt + 1), (sO "both", H.reg, H.nxt + 2)], H') /\ MadeF rs is_ H H' [c0, .cell (some (.ref rd id)), .cell (some (.ref H.reg (H.nxt + 3))), .list (D.map nV), .list ((E.filter fun m => m ∈ D \/ m ∈ S "c").map nV)] := by
 obtain ⟨H', s1, pre, vn, x2, x3, M'⟩ := co_list (B := B) (d := 58) (e := coEC 1712 wholeX [(sO "sets", H.reg, H.nxt + 1), (sO "both", H.reg, H.nxt + 2)]) (elt := compElt wholeX) (g := compG wholeX) (ra := H.reg) (ia := H.nxt + 4) (r := re) (i := ie) (xs := E.map nV)
  (J := fun vs H' => ∃ (pre vn : List Nat), E = pre ++ vn /\ vs = vn.map nV /\ MadeF rs is_ H H' [c0, .cell (some (.ref rd id)), .cell (some (.ref H.reg (H.nxt + 3))), .list (D.map nV), .list ((pre.filter fun m => m ∈ D \/ m ∈ S "c").map nV)])
  (fun vs H' h => by obtain ⟨_, _, _, _, M⟩ := h; exact M.fr.keep _ _ _ ne ge) (fun H' v vs h => by
   obtain ⟨pre, vn, x2, x3, M'⟩ := h;cases vn with
   | nil => cases x3
   | cons k vn =>
    injection x3 with x31 x32
    subst x31 x32;have hlen : ((pre.filter fun m => m ∈ D \/ m ∈ S "c").map nV).length < limN := by
     have h1 : E.length = pre.length + (vn.length + 1) := by rw [x2, length_append]; rfl
     rw [length_map];exact lt_of_le_of_lt (le_trans (List.length_filter_le _ pre) (le_trans (Nat.le_add_right _ _) (le_trans (le_of_eq h1.symm) hE))) (by decide)
    have r0 := M'.ok0.pos;have y1 := M'.got 1 _ rfl;have y2 := M'.got 2 _ rfl;have gD := M'.got 3 _ rfl;have y4 := M'.got 4 _ rfl;have hd' := hd.fr M'.src0 M'.fr;obtain ⟨es, gd, _⟩ := hd';obtain ⟨rc, ic, ec, gc⟩ := Dn.at (hd.fr M'.src0 M'.fr) (x := "c") (by decide) gd
    have fin : (E = pre ++ k :: vn) -> E = (pre ++ [k]) ++ vn := fun h => by rw [h, List.append_assoc]; rfl
    by_cases hm : k ∈ D
    ·have il := inL_yes hm;obtain ⟨b2, t2, e2, M2⟩ : ∃ b t, _ = (⟨b, H.reg, t, H.nxt + 5⟩ : Hp) /\ MadeF rs is_ H ⟨b, H.reg, t, H.nxt + 5⟩ [_, _, _, _, _] := M'.set 4 (.list ((pre.filter fun m => m ∈ D \/ m ∈ S "c").map nV ++ [nV k])) (by show 4 < 5; decide)
     refine ⟨⟨b2, H.reg, t2, H.nxt + 5⟩, ?_, pre ++ [k], vn, fin x2, rfl, ?_⟩
     rotate_left
     ·rw [List.filter_append, List.filter_cons_of_pos (p := fun m => decide (m ∈ D \/ m ∈ S "c")) (decide_eq_true (.inl hm)), List.filter_nil, List.map_append]; exact M2
     ·exact cTurnJ_of K [.o y2, .o gD, .bo il, .o y4, .y hlen, .y r0, .h e2] (by kernel_rfl)
    ·have il := inL_no hm;by_cases hm2 : k ∈ S "c"
     ·have il2 := inL_yes hm2;obtain ⟨b2, t2, e2, M2⟩ : ∃ b t, _ = (⟨b, H.reg, t, H.nxt + 5⟩ : Hp) /\ MadeF rs is_ H ⟨b, H.reg, t, H.nxt + 5⟩ [_, _, _, _, _] := M'.set 4 (.list ((pre.filter fun m => m ∈ D \/ m ∈ S "c").map nV ++ [nV k])) (by show 4 < 5; decide)
      refine ⟨⟨b2, H.reg, t2, H.nxt + 5⟩, ?_, pre ++ [k], vn, fin x2, rfl, ?_⟩
      rotate_left
      ·rw [List.filter_append, List.filter_cons_of_pos (p := fun m => decide (m ∈ D \/ m ∈ S "c")) (decide_eq_true (.inr hm2)), List.filter_nil, List.map_append]; exact M2
      ·exact cTurnJ_of K [.o y2, .o gD, .bo il, .o y1, .o gd, .c, .v ec, .o gc, .bo il2, .o y4, .y hlen, .y r0, .h e2] (by kernel_rfl)
     ·have il2 := inL_no hm2;refine ⟨H', ?_, pre ++ [k], vn, fin x2, rfl, ?_⟩
      ·exact cTurnJ_of K [.o y2, .o gD, .bo il, .o y1, .o gd, .c, .v ec, .o gc, .bo il2] (by kernel_rfl)
      ·rw [List.filter_append, List.filter_cons_of_neg (p := fun m => decide (m ∈ D \/ m ∈ S "c")) (by rw [decide_eq_false (fun z => z.elim hm hm2)]; exact Bool.false_ne_true), List.filter_nil, List.append_nil]; exact M'
    )
  ⟨[], E, rfl, rfl, M.push _⟩
 cases vn with
 | cons k vn => cases x3
 | nil =>
  rw [List.append_nil] at x2;subst x2;exact ⟨H', s1, M'⟩
end
theorem up1 {f : Int} {k : Nat} (f0 : 0 <= f) (f1 : f < ((k + 1 : Nat) : Int)) : ∃ p : Nat, 1 + f = p /\ 1 <= p /\ p <= k + 1 := by
 obtain ⟨n, rfl⟩ := Int.eq_ofNat_of_zero_le f0;exact ⟨n + 1, Int.add_comm 1 n, Nat.succ_pos n, Int.ofNat_lt.1 f1⟩
noncomputable def pE (H : Hp) (l : List (Str × V)) : En := ⟨l, [(sO "both", H.reg, H.nxt + 2), (sO "sets", H.reg, H.nxt + 1), (sO "context", H.reg, H.nxt)], (fnOf 1712).scope.names, (fnOf 1712).qual ++ ".<locals>."⟩
noncomputable abbrev pB (i j : Nat) : List Stmt := ((bodyOf 1712).drop i).take j
section
variable {B : Bs} (K : BOk B) {H : Hp} {rs is_ : Nat} {S : String -> List Nat} {E : List Nat}
include K
theorem p_A {rc ic rd id re ie : Nat} {b : Nat -> Nat -> Option O} {t : T} (M : MadeF rs is_ H ⟨b, H.reg, t, H.nxt + 3⟩ [.cell (some (.ref rc ic)), .cell (some (.ref rd id)), .cell none]) (hd : Dn H rs is_ rd id S) (ge : H.get re ie = some (.list (E.map nV))) (ne : ¬ (re = rs /\ ie = is_)) (hE : E.length <= 400) :
  ∃ H' D W, D = E.filter (fun m => m ∈ S "a" \/ m ∈ S "b") /\ W = E.filter (fun m => m ∈ D \/ m ∈ S "c") /\
   SegJ B 58 (pE H [(sO "source", .ref rs is_), (sO "every", .ref re ie)]) ⟨b, H.reg, t, H.nxt + 3⟩ (pB 0 2) (pE H [(sO "source", .ref rs is_), (sO "every", .ref re ie), (sO "whole", .ref H.reg (H.nxt + 4))], H') /\
   MadeF rs is_ H H' [.cell (some (.ref rc ic)), .cell (some (.ref rd id)), .cell (some (.ref H.reg (H.nxt + 3))), .list (D.map nV), .list (W.map nV)] := by
 have r0 := M.ok0.pos;have ge1 := M.fr.keep _ _ _ ne ge;obtain ⟨H4, s4, M4⟩ := p_both K M hd ge ne hE;have c4 := M4.got 2 _ rfl;obtain ⟨b5, t5, e5, M5⟩ : ∃ b t, _ = (⟨b, H.reg, t, H.nxt + 4⟩ : Hp) /\ MadeF rs is_ H ⟨b, H.reg, t, H.nxt + 4⟩ [_, _, _, _] := M4.set 2 (.cell (some (.ref H.reg (H.nxt + 3)))) (by show 2 < 4; decide)
 have ge5 := M5.fr.keep _ _ _ ne ge;obtain ⟨H6, s6, M6⟩ := p_whole K M5 hd ge ne hE;refine ⟨H6, _, _, rfl, rfl, ?_, M6⟩;exact segJ_of K [sO "source", sO "every", sO "whole"] [.o ge1, .c, .co s4, .o c4, .y r0, .h e5, .o ge5, .c, .co s6] (by kernel_rfl)
theorem p_B {H6 : Hp} {os : List O} (hz : os.length = 5) (M : MadeF rs is_ H H6 os) {re ie : Nat} {w : V} : ∃ p o : Nat, ∃ b t, 1 <= p /\ p <= 4 /\ 1 <= o /\ o <= 3 /\
   SegJ B 58 (pE H [(sO "source", .ref rs is_), (sO "every", .ref re ie), (sO "whole", w)]) H6 (pB 2 1) (pE H [(sO "source", .ref rs is_), (sO "every", .ref re ie), (sO "whole", w), (sO "place", nV p), (sO "other", nV o)], ⟨b, H.reg, t, H.nxt + 6⟩) /\
   MadeF rs is_ H ⟨b, H.reg, t, H.nxt + 6⟩ (os ++ [.tup [nV p, nV o]]) := by
 obtain ⟨a6, b6, s6⟩ := M.fr.src;obtain ⟨f, H7, c7, f0, f1, m7⟩ := l_take K s6 (top := 4) (by decide) (by decide) (d := 57)
 obtain ⟨b7, t7, rfl, M7⟩ := M.smod m7;obtain ⟨a7, b7', s7⟩ := M7.fr.src;obtain ⟨g, H8, c8, g0, g1, m8⟩ := l_take K s7 (top := 3) (by decide) (by decide) (d := 57)
 obtain ⟨b8, t8, rfl, M8⟩ := M7.smod m8;obtain ⟨p, hp, p1, p4⟩ := up1 (k := 3) f0 f1;obtain ⟨o, ho, o1, o3⟩ := up1 (k := 2) g0 g1;have M9 := M8.push (.tup [.int (1 + f), .int (1 + g)]);have u9 := get_push_new (⟨b8, H.reg, t8, H.nxt + os.length⟩ : Hp) (.tup [.int (1 + f), .int (1 + g)]);rw [hz] at c7 c8 M9 u9;have w : SegJ B 58 (pE H [(sO "source", .ref rs is_), (sO "every", .ref re ie), (sO "whole", w)]) H6 (pB 2 1) (pE H [(sO "source", .ref rs is_), (sO "every", .ref re ie), (sO "whole", w), (sO "place", .int (1 + f)), (sO "other", .int (1 + g))], Hp.push ⟨b8, H.reg, t8, H.nxt + 5⟩ (.tup [.int (1 + f), .int (1 + g)])) := by
  exact segJ_of K [sO "source", sO "every", sO "whole", sO "place", sO "other"] [.vh c7, .vh c8, .c, .c, .o u9] (by kernel_rfl)
 rw [hp, ho] at w M9;exact ⟨p, o, _, _, p1, p4, o1, o3, w, M9⟩
end
noncomputable abbrev txP (p : Nat) : Str := ofString "($a | $b | $c)[" ++ strI (p : Nat) ++ ofString "]"
noncomputable abbrev txQ (p o : Nat) : Str := ofString "($c | $b | $a)[position() > " ++ strI (p : Nat) ++ ofString "][" ++ strI (o : Nat) ++ ofString "]"
theorem txP_len : ∀ p < 5, (ofString "($a | $b | $c)[" ++ strI (p : Nat)).cps.size <= limN /\ (txP p).cps.size <= limN := fun p hp => by
 have := (by decide +kernel : ∀ p < 5, (ofString "($a | $b | $c)[" ++ strI (p : Nat)).cps.size <= 100 /\ (txP p).cps.size <= 100) p hp
 exact ⟨le_trans this.1 (by decide), le_trans this.2 (by decide)⟩
theorem txQ_len : ∀ p < 5, ∀ o < 5, (ofString "($c | $b | $a)[position() > " ++ strI (p : Nat)).cps.size <= limN /\ (ofString "($c | $b | $a)[position() > " ++ strI (p : Nat) ++ ofString "][").cps.size <= limN /\ (ofString "($c | $b | $a)[position() > " ++ strI (p : Nat) ++ ofString "][" ++ strI (o : Nat)).cps.size <= limN /\ (txQ p o).cps.size <= limN := fun p hp o ho => by
 have := (by decide +kernel : ∀ p < 5, ∀ o < 5, (ofString "($c | $b | $a)[position() > " ++ strI (p : Nat)).cps.size <= 100 /\ (ofString "($c | $b | $a)[position() > " ++ strI (p : Nat) ++ ofString "][").cps.size <= 100 /\ (ofString "($c | $b | $a)[position() > " ++ strI (p : Nat) ++ ofString "][" ++ strI (o : Nat)).cps.size <= 100 /\ (txQ p o).cps.size <= 100) p hp o ho
 exact ⟨le_trans this.1 (by decide), le_trans this.2.1 (by decide), le_trans this.2.2.1 (by decide), le_trans this.2.2.2 (by decide)⟩
theorem cut_len {α : Type} (xs : List α) (a b : Nat) : (cut xs a b).length <= xs.length := by unfold cut; rw [List.length_take, List.length_drop]; exact le_trans (Nat.min_le_right _ _) (Nat.sub_le _ _)
noncomputable def sl1 (xs : List V) : List V := cut xs 0 (clipAt xs.length 1)
noncomputable def slz (xs : List V) : List V := cut xs (clipAt xs.length (-1)) xs.length
noncomputable def slp (xs : List V) (p : Nat) : List V := cut xs (clipAt xs.length ((p : Int) - 1)) (clipAt xs.length p)
noncomputable def slg (xs : List V) (p : Nat) : List V := cut xs (clipAt xs.length p) xs.length
noncomputable abbrev rwsO (R n ra ia : Nat) (D W : List V) (p o : Nat) : List O := [
 .tup [.str (sO "$a | $b"), .ref R (n + 3)], .tup [.str (sO "$b|$a"), .ref R (n + 3)], .tup [.str (sO "$c | $a | $b"), .ref R (n + 4)], .tup [.str (sO "($a | $b) | $c"), .ref R (n + 4)], .list [.ref R (n + 6), .ref R (n + 7), .ref R (n + 8), .ref R (n + 9)],
 .tup [.str (sO "$a | $a"), .ref ra ia], .list (sl1 D), .tup [.str (sO "($b | $a)[1]"), .ref R (n + 12)], .list (slz W), .tup [.str (sO "($c | $b | $a)[last()]"), .ref R (n + 14)], .list [.ref R (n + 11), .ref R (n + 13), .ref R (n + 15)],
 .list [.ref R (n + 6), .ref R (n + 7), .ref R (n + 8), .ref R (n + 9), .ref R (n + 11), .ref R (n + 13), .ref R (n + 15), .ref R (n + 19), .ref R (n + 21), .ref R (n + 24)],
 .tup [.int D.length, .int 1], .tup [.str (sO "count($a | $b)"), .ref R (n + 18)], .list (slp W p), .tup [.str (txP p), .ref R (n + 20)], .list (slg W p), .list (slp (slg W p) o), .tup [.str (txQ p o), .ref R (n + 23)]]
section
variable {B : Bs} (K : BOk B) {H : Hp} {rs is_ : Nat} {S : String -> List Nat}
include K
theorem p_C {c0 c5 : O} {rd id ra ia re ie : Nat} {b : Nat -> Nat -> Option O} {t : T} {D W : List Nat} {p o : Nat} (hp : 1 <= p /\ p <= 4) (ho : 1 <= o /\ o <= 3) (hD : D.length <= 400) (hW : W.length <= 400) (hd : Dn H rs is_ rd id S) {es : List (V × V)} (gd : H.get rd id = some (.dict es)) (nd : ¬ (rd = rs /\ id = is_)) (ea : inD (.str (ofString "a")) es = some (.ref ra ia))
  (M9 : MadeF rs is_ H ⟨b, H.reg, t, H.nxt + 6⟩ [c0, .cell (some (.ref rd id)), .cell (some (.ref H.reg (H.nxt + 3))), .list (D.map nV), .list (W.map nV), c5]) :
  ∃ H', SegJ B 58 (pE H [(sO "source", .ref rs is_), (sO "every", .ref re ie), (sO "whole", .ref H.reg (H.nxt + 4)), (sO "place", nV p), (sO "other", nV o)]) ⟨b, H.reg, t, H.nxt + 6⟩ (pB 3 5) (pE H [(sO "rows", .ref H.reg (H.nxt + 17))], H') /\
   MadeF rs is_ H H' ([c0, .cell (some (.ref rd id)), .cell (some (.ref H.reg (H.nxt + 3))), .list (D.map nV), .list (W.map nV), c5] ++ rwsO H.reg H.nxt ra ia (D.map nV) (W.map nV) p o) := by
 have r0 := M9.ok0.pos;have hp5 : p < 5 := Nat.lt_succ_of_le hp.2;have ho5 : o < 5 := Nat.lt_trans (Nat.lt_succ_of_le ho.2) (by decide)
 have zp : (0 : Int) <= (p : Nat) /\ ((p : Nat) : Int) < 10 := ⟨Int.natCast_nonneg p, Int.ofNat_lt.2 (Nat.lt_trans hp5 (by decide))⟩
 have zo : (0 : Int) <= (o : Nat) /\ ((o : Nat) : Int) < 10 := ⟨Int.natCast_nonneg o, Int.ofNat_lt.2 (Nat.lt_trans ho5 (by decide))⟩
 obtain ⟨t1, t2⟩ := txP_len p hp5;obtain ⟨t3, t4, t5, t6⟩ := txQ_len p hp5 o ho5;have lD : (D.map nV).length <= limN := by rw [length_map]; exact le_trans hD (by decide)
 have lW : (W.map nV).length <= limN := by rw [length_map]; exact le_trans hW (by decide)
 have l1 : (sl1 (D.map nV)).length <= limN := le_trans (cut_len _ _ _) lD;have l2 : (slz (W.map nV)).length <= limN := le_trans (cut_len _ _ _) lW;have l3 : (slp (W.map nV) p).length <= limN := le_trans (cut_len _ _ _) lW;have l4 : (slg (W.map nV) p).length <= limN := le_trans (cut_len _ _ _) lW;have l5 : (slp (slg (W.map nV) p) o).length <= limN := le_trans (cut_len _ _ _) l4;have q1 := M9.got 2 _ rfl;have M10 : MadeF rs is_ H _ [_, _, _, _, _, _, _] := M9.push (.tup [.str (sO "$a | $b"), .ref H.reg (H.nxt + 3)])
 have q2 := M10.got 2 _ rfl;have M11 : MadeF rs is_ H _ [_, _, _, _, _, _, _, _] := M10.push (.tup [.str (sO "$b|$a"), .ref H.reg (H.nxt + 3)])
 have M12 : MadeF rs is_ H _ [_, _, _, _, _, _, _, _, _] := M11.push (.tup [.str (sO "$c | $a | $b"), .ref H.reg (H.nxt + 4)])
 have M13 : MadeF rs is_ H _ [_, _, _, _, _, _, _, _, _, _] := M12.push (.tup [.str (sO "($a | $b) | $c"), .ref H.reg (H.nxt + 4)])
 have M14 : MadeF rs is_ H _ [_, _, _, _, _, _, _, _, _, _, _] := M13.push (.list [.ref H.reg (H.nxt + 6), .ref H.reg (H.nxt + 7), .ref H.reg (H.nxt + 8), .ref H.reg (H.nxt + 9)]);have q3 := M14.got 1 _ rfl;have gd14 := M14.fr.keep _ _ _ nd gd;have M15 : MadeF rs is_ H _ [_, _, _, _, _, _, _, _, _, _, _, _] := M14.push (.tup [.str (sO "$a | $a"), .ref ra ia])
 have q4 := M15.got 2 _ rfl;have q5 := M15.got 3 _ rfl;have M16 : MadeF rs is_ H _ [_, _, _, _, _, _, _, _, _, _, _, _, _] := M15.push (.list (sl1 (D.map nV)));have M17 : MadeF rs is_ H _ [_, _, _, _, _, _, _, _, _, _, _, _, _, _] := M16.push (.tup [.str (sO "($b | $a)[1]"), .ref H.reg (H.nxt + 12)])
 have q6 := M17.got 4 _ rfl;have M18 : MadeF rs is_ H _ [_, _, _, _, _, _, _, _, _, _, _, _, _, _, _] := M17.push (.list (slz (W.map nV)));have M19 : MadeF rs is_ H _ [_, _, _, _, _, _, _, _, _, _, _, _, _, _, _, _] := M18.push (.tup [.str (sO "($c | $b | $a)[last()]"), .ref H.reg (H.nxt + 14)])
 have M20 : MadeF rs is_ H _ [_, _, _, _, _, _, _, _, _, _, _, _, _, _, _, _, _] := M19.push (.list [.ref H.reg (H.nxt + 11), .ref H.reg (H.nxt + 13), .ref H.reg (H.nxt + 15)]);have q7 := M20.got 10 _ rfl;have q8 := M20.got 16 _ rfl;have M21 : MadeF rs is_ H _ [_, _, _, _, _, _, _, _, _, _, _, _, _, _, _, _, _, _] := M20.push (.list [.ref H.reg (H.nxt + 6), .ref H.reg (H.nxt + 7), .ref H.reg (H.nxt + 8), .ref H.reg (H.nxt + 9), .ref H.reg (H.nxt + 11), .ref H.reg (H.nxt + 13), .ref H.reg (H.nxt + 15)]);have q9 := M21.got 2 _ rfl;have q10 := M21.got 3 _ rfl;have qa21 := M21.got 17 _ rfl;have M22 : MadeF rs is_ H _ [_, _, _, _, _, _, _, _, _, _, _, _, _, _, _, _, _, _, _] := M21.push (.tup [.int (D.map nV).length, .int 1]);have M23 : MadeF rs is_ H _ [_, _, _, _, _, _, _, _, _, _, _, _, _, _, _, _, _, _, _, _] := M22.push (.tup [.str (sO "count($a | $b)"), .ref H.reg (H.nxt + 18)])
 have q11 := M23.got 17 _ rfl;obtain ⟨b24, t24, e24, M24⟩ : ∃ b t, _ = (⟨b, H.reg, t, H.nxt + 20⟩ : Hp) /\ MadeF rs is_ H ⟨b, H.reg, t, H.nxt + 20⟩ [_, _, _, _, _, _, _, _, _, _, _, _, _, _, _, _, _, _, _, _] := M23.set 17 (.list [.ref H.reg (H.nxt + 6), .ref H.reg (H.nxt + 7), .ref H.reg (H.nxt + 8), .ref H.reg (H.nxt + 9), .ref H.reg (H.nxt + 11), .ref H.reg (H.nxt + 13), .ref H.reg (H.nxt + 15), .ref H.reg (H.nxt + 19)]) (by show 17 < 20; decide)
 have q12 := M24.got 4 _ rfl;have qa24 := M24.got 17 _ rfl;have M25 : MadeF rs is_ H _ [_, _, _, _, _, _, _, _, _, _, _, _, _, _, _, _, _, _, _, _, _] := M24.push (.list (slp (W.map nV) p));have M26 : MadeF rs is_ H _ [_, _, _, _, _, _, _, _, _, _, _, _, _, _, _, _, _, _, _, _, _, _] := M25.push (.tup [.str (txP p), .ref H.reg (H.nxt + 20)]);have q13 := M26.got 17 _ rfl;obtain ⟨b27, t27, e27, M27⟩ : ∃ b t, _ = (⟨b, H.reg, t, H.nxt + 22⟩ : Hp) /\ MadeF rs is_ H ⟨b, H.reg, t, H.nxt + 22⟩ [_, _, _, _, _, _, _, _, _, _, _, _, _, _, _, _, _, _, _, _, _, _] := M26.set 17 (.list [.ref H.reg (H.nxt + 6), .ref H.reg (H.nxt + 7), .ref H.reg (H.nxt + 8), .ref H.reg (H.nxt + 9), .ref H.reg (H.nxt + 11), .ref H.reg (H.nxt + 13), .ref H.reg (H.nxt + 15), .ref H.reg (H.nxt + 19), .ref H.reg (H.nxt + 21)]) (by show 17 < 22; decide)
 have q14 := M27.got 4 _ rfl;have qa27 := M27.got 17 _ rfl;have M28 : MadeF rs is_ H _ [_, _, _, _, _, _, _, _, _, _, _, _, _, _, _, _, _, _, _, _, _, _, _] := M27.push (.list (slg (W.map nV) p));have q15 := M28.got 22 _ rfl;have M29 : MadeF rs is_ H _ [_, _, _, _, _, _, _, _, _, _, _, _, _, _, _, _, _, _, _, _, _, _, _, _] := M28.push (.list (slp (slg (W.map nV) p) o));have M30 : MadeF rs is_ H _ [_, _, _, _, _, _, _, _, _, _, _, _, _, _, _, _, _, _, _, _, _, _, _, _, _] := M29.push (.tup [.str (txQ p o), .ref H.reg (H.nxt + 23)]);have q16 := M30.got 17 _ rfl;obtain ⟨b31, t31, e31, M31⟩ : ∃ b t, _ = (⟨b, H.reg, t, H.nxt + 25⟩ : Hp) /\ MadeF rs is_ H ⟨b, H.reg, t, H.nxt + 25⟩ [_, _, _, _, _, _, _, _, _, _, _, _, _, _, _, _, _, _, _, _, _, _, _, _, _] := M30.set 17 (.list [.ref H.reg (H.nxt + 6), .ref H.reg (H.nxt + 7), .ref H.reg (H.nxt + 8), .ref H.reg (H.nxt + 9), .ref H.reg (H.nxt + 11), .ref H.reg (H.nxt + 13), .ref H.reg (H.nxt + 15), .ref H.reg (H.nxt + 19), .ref H.reg (H.nxt + 21), .ref H.reg (H.nxt + 24)]) (by show 17 < 25; decide)
 refine ⟨_, ?_, M31⟩;exact segJ_of K [sO "rows"] [.o q1, .c, .c, .o q2, .c, .c, .c, .c, .c, .c, .c, .c, .o q3, .o gd14, .c, .v ea, .c, .c, .o q4, .o q5, .y lD, .y l1, .c, .c, .c, .o q6, .y lW, .y l2, .c, .c, .c, .c, .c, .o q7, .o q8, .c, .c, .o qa21, .o q9, .o q10, .y lD, .c, .c, .c, .c, .o q11, .c, .y r0, .h e24, .o qa24, .y zp, .y t1, .y t2, .o q12, .y lW, .y l3, .c, .c, .c, .o q13, .c, .y r0, .h e27, .o qa27, .y zp, .y t3, .y t4, .y zo, .y t5, .y t6, .o q14, .y lW, .y l4, .c, .o q15, .y l4, .y l5, .c, .c, .c, .o q16, .c, .y r0, .h e31] (by kernel_rfl)
end
theorem cut_map (xs : List Nat) (a b : Nat) : cut (xs.map nV) a b = ((xs.drop a).take (b - a)).map nV := by unfold cut; rw [List.map_take, List.map_drop]
theorem clip_of (n a : Nat) : (max 0 (min (a : Int) n)).toNat = min a n := by
 rcases Nat.le_total a n with h | h
 ·rw [Int.min_eq_left (Int.ofNat_le.2 h), Int.max_eq_right (Int.natCast_nonneg _), Int.toNat_natCast, Nat.min_eq_left h]
 ·rw [Int.min_eq_right (Int.ofNat_le.2 h), Int.max_eq_right (Int.natCast_nonneg _), Int.toNat_natCast, Nat.min_eq_right h]
theorem clip_nat (n a : Nat) : clipAt n (a : Int) = min a n := by
 unfold clipAt;rw [if_neg (Int.not_lt.2 (Int.natCast_nonneg a)), clip_of]
theorem clip_pred (n p : Nat) (h : 1 <= p) : clipAt n ((p : Int) - 1) = min (p - 1) n := by
 cases p with
 | zero => cases h
 | succ q => rw [Int.natCast_succ, Int.add_sub_cancel, clip_nat]; rfl
theorem clip_last (n : Nat) : clipAt n (-1) = n - 1 := by
 cases n with
 | zero => rfl
 | succ k =>
  unfold clipAt;rw [if_pos (by decide), show -1 + ((k + 1 : Nat) : Int) = k by rw [Int.natCast_succ, Int.add_comm, Int.add_neg_cancel_right], clip_of]
  exact Nat.min_eq_left (Nat.le_succ k)
theorem sl1_eq (xs : List Nat) : sl1 (xs.map nV) = ((xs.drop (1 - 1)).take 1).map nV := by
 unfold sl1;rw [show (1 : Int) = ((1 : Nat) : Int) from rfl, clip_nat, cut_map, length_map]
 cases xs with
 | nil => rfl
 | cons x xs => rw [Nat.min_eq_left (show 1 <= (x :: xs).length from Nat.succ_pos xs.length)]
theorem slz_eq (xs : List Nat) : slz (xs.map nV) = (xs.drop (xs.length - 1)).map nV := by
 unfold slz;rw [cut_map, length_map];rw [clip_last, List.take_of_length_le (by rw [List.length_drop]; exact Nat.le_refl _)]
theorem slp_eq (xs : List Nat) (p : Nat) (h : 1 <= p) : slp (xs.map nV) p = ((xs.drop (p - 1)).take 1).map nV := by
 unfold slp;rw [clip_nat, clip_pred _ _ h, cut_map, length_map];by_cases q : p - 1 < xs.length
 ·rw [Nat.min_eq_left (Nat.le_of_lt q), Nat.min_eq_left (Nat.le_of_pred_lt (m := p) q), Nat.sub_sub_self h]
 ·have q' := Nat.not_lt.1 q;rw [Nat.min_eq_right q', List.drop_of_length_le (Nat.le_refl _), List.drop_of_length_le q', List.take_nil, List.take_nil]
theorem slg_eq (xs : List Nat) (p : Nat) : slg (xs.map nV) p = (xs.drop p).map nV := by
 unfold slg;rw [clip_nat, cut_map, length_map, List.take_of_length_le (by rw [List.length_drop]; exact Nat.le_refl _)]
 by_cases q : p <= xs.length
 ·rw [Nat.min_eq_left q]
 ·have q' := Nat.le_of_not_le q;rw [Nat.min_eq_right q', List.drop_of_length_le (Nat.le_refl _), List.drop_of_length_le q']
noncomputable def t12 : Nat -> String
 | 1 => "($a | $b | $c)[1]"
 | 2 => "($a | $b | $c)[2]"
 | 3 => "($a | $b | $c)[3]"
 | _ => "($a | $b | $c)[4]"
noncomputable def t13 : Nat -> Nat -> String
 | 1, 1 => "($c | $b | $a)[position() > 1][1]"
 | 1, 2 => "($c | $b | $a)[position() > 1][2]"
 | 1, _ => "($c | $b | $a)[position() > 1][3]"
 | 2, 1 => "($c | $b | $a)[position() > 2][1]"
 | 2, 2 => "($c | $b | $a)[position() > 2][2]"
 | 2, _ => "($c | $b | $a)[position() > 2][3]"
 | 3, 1 => "($c | $b | $a)[position() > 3][1]"
 | 3, 2 => "($c | $b | $a)[position() > 3][2]"
 | 3, _ => "($c | $b | $a)[position() > 3][3]"
 | _, 1 => "($c | $b | $a)[position() > 4][1]"
 | _, 2 => "($c | $b | $a)[position() > 4][2]"
 | _, _ => "($c | $b | $a)[position() > 4][3]"
theorem tx12 : ∀ p < 5, 1 <= p -> txP p = ofString (t12 p) := by decide +kernel
theorem tx13 : ∀ p < 5, 1 <= p -> ∀ o < 4, 1 <= o -> txQ p o = ofString (t13 p o) := by decide +kernel
noncomputable abbrev vA : NE := .var "a"
noncomputable abbrev vB : NE := .var "b"
noncomputable abbrev vC : NE := .var "c"
noncomputable def rowT (p o : Nat) : List (String × Ex) := [("$a | $b", .ne (.un vA vB)), ("$b|$a", .ne (.un vB vA)), ("$c | $a | $b", .ne (.un (.un vC vA) vB)), ("($a | $b) | $c", .ne (.un (.un vA vB) vC)), ("$a | $a", .ne (.un vA vA)),
 ("($b | $a)[1]", .fil (.un vB vA) [.num 1]), ("($c | $b | $a)[last()]", .fil (.un (.un vC vB) vA) [.last]), ("count($a | $b)", .cnt (.un vA vB)), (t12 p, .fil (.un (.un vA vB) vC) [.num p]), (t13 p o, .fil (.un (.un vC vB) vA) [.gt p, .num o])]
def HPS (B : Bs) : Prop := ∀ p o, 1 <= p -> p <= 4 -> 1 <= o -> o <= 3 -> ∀ (k : Nat) (te : String × Ex), (rowT p o)[k]? = some te -> Parses B 58 (4 + k) te.1 te.2
section
variable {T : List Row} {S : String -> List Nat} {D W : List Nat}
theorem sem_all (hsub : ∀ x ∈ abcL, (everyOf T).filter (· ∈ S x) = S x) (hD : D = (everyOf T).filter (fun m => m ∈ S "a" \/ m ∈ S "b")) (hW : W = (everyOf T).filter (fun m => m ∈ D \/ m ∈ S "c")) :
  (NE.un vA vB).sem S T = D /\ (NE.un vB vA).sem S T = D /\ (NE.un (.un vA vB) vC).sem S T = W /\ (NE.un (.un vC vA) vB).sem S T = W /\ (NE.un (.un vC vB) vA).sem S T = W /\ (NE.un vA vA).sem S T = S "a" := by
 have sE : ∀ a b : NE, (NE.un a b).sem S T = (everyOf T).filter fun m => decide (m ∈ a.sem S T \/ m ∈ b.sem S T) := fun _ _ => rfl;have vA' : vA.sem S T = S "a" := rfl;have vB' : vB.sem S T = S "b" := rfl;have vC' : vC.sem S T = S "c" := rfl;have sD : (NE.un vA vB).sem S T = D := hD.symm;have inD_ : ∀ m ∈ everyOf T, (m ∈ D ↔ m ∈ S "a" \/ m ∈ S "b") := fun m hm => by
  rw [hD, List.mem_filter, decide_eq_true_eq];exact ⟨fun h => h.2, fun h => ⟨hm, h⟩⟩
 refine ⟨sD, ?_, ?_, ?_, ?_, ?_⟩
 ·rw [sE, vA', vB', hD];exact List.filter_congr fun m _ => decide_eq_decide.2 Or.comm
 ·rw [sE, sD, vC']; exact hW.symm
 ·rw [sE, hW];refine List.filter_congr fun m hm => decide_eq_decide.2 ?_;rw [inD_ m hm, sE, List.mem_filter, decide_eq_true_eq, vA', vB', vC'];exact ⟨fun h => h.elim (fun z => z.2.elim .inr fun z => .inl (.inl z)) fun z => .inl (.inr z), fun h => h.elim (fun z => z.elim (fun z => .inl ⟨hm, .inr z⟩) .inr) fun z => .inl ⟨hm, .inl z⟩⟩
 ·rw [sE, hW];refine List.filter_congr fun m hm => decide_eq_decide.2 ?_;rw [inD_ m hm, sE, List.mem_filter, decide_eq_true_eq, vA', vB', vC'];exact ⟨fun h => h.elim (fun z => z.2.elim .inr fun z => .inl (.inr z)) fun z => .inl (.inl z), fun h => h.elim (fun z => z.elim .inr fun z => .inl ⟨hm, .inr z⟩) fun z => .inl ⟨hm, .inl z⟩⟩
 ·rw [sE, vA'];exact (List.filter_congr fun m _ => decide_eq_decide.2 or_self_iff).trans (hsub "a" (by decide))
end
section
variable {B : Bs} (K : BOk B) {H : Hp} {rs is_ : Nat} {S : String -> List Nat} {T : List Row} {ad : Role -> Nat × Nat}
include K
theorem rows_ok {H' : Hp} {R n ra ia : Nat} {D W : List Nat} {p o : Nat} {c0 c1 c2 c5 : O} (hsub : ∀ x ∈ abcL, (everyOf T).filter (· ∈ S x) = S x) (hD : D = (everyOf T).filter (fun m => m ∈ S "a" \/ m ∈ S "b")) (hW : W = (everyOf T).filter (fun m => m ∈ D \/ m ∈ S "c")) (hp : 1 <= p /\ p <= 4) (ho : 1 <= o /\ o <= 3)
  (got : ∀ k x, ([c0, c1, c2, .list (D.map nV), .list (W.map nV), c5] ++ rwsO R n ra ia (D.map nV) (W.map nV) p o)[k]? = some x -> H'.get R (n + k) = some x) (ga : H'.get ra ia = some (.list ((S "a").map nV))) :
  ∀ (k : Nat) (v : V), ([.ref R (n + 6), .ref R (n + 7), .ref R (n + 8), .ref R (n + 9), .ref R (n + 11), .ref R (n + 13), .ref R (n + 15), .ref R (n + 19), .ref R (n + 21), .ref R (n + 24)] : List V)[k]? = some v ->
   ∃ r i te dr di, v = .ref r i /\ (rowT p o)[k]? = some te /\ H'.get r i = some (.tup [.str (ofString te.1), .ref dr di]) /\ H'.get dr di = some (te.2.res S T) /\ te.2.fits abcL := by
 obtain ⟨s1, s2, s3, s4, s5, s6⟩ := sem_all hsub hD hW;have q12 := got 12 _ rfl;have q14 := got 14 _ rfl;have q18 := got 18 _ rfl;have q20 := got 20 _ rfl;have q21 := got 21 _ rfl;have q22 := got 22 _ rfl;have q23 := got 23 _ rfl;have q24 := got 24 _ rfl;rw [sl1_eq, <- kept_num 1 D (Nat.le_refl 1), <- s2] at q12;rw [slz_eq, <- kept_last, <- s5] at q14;rw [length_map, <- s1] at q18;rw [slp_eq _ _ hp.1, <- kept_num p _ hp.1, <- s3] at q20;rw [slg_eq, slp_eq _ _ ho.1, <- kept_num o _ ho.1, <- kept_gt, <- s5] at q23;rw [tx12 p (Nat.lt_succ_of_le hp.2) hp.1] at q21;rw [tx13 p (Nat.lt_succ_of_le hp.2) hp.1 o (Nat.lt_succ_of_le ho.2) ho.1] at q24;have q3 := got 3 _ rfl;have q4 := got 4 _ rfl;intro k v h;have lS : ∀ {a b : List Nat}, a = b -> some (O.list (b.map nV)) = some (O.list (a.map nV)) := fun e => e ▸ rfl;have z := fun e => Each.get (n := 0) (P := fun k v => ∃ r i te dr di, v = .ref r i /\ (rowT p o)[k]? = some te /\ H'.get r i = some (.tup [.str (ofString te.1), .ref dr di]) /\ H'.get dr di = some (te.2.res S T) /\ te.2.fits abcL) e h;have z := z ⟨⟨R, n + 6, _, R, n + 3, rfl, rfl, got 6 _ rfl, q3.trans (lS s1), by decide, by decide⟩,
  ⟨R, n + 7, _, R, n + 3, rfl, rfl, got 7 _ rfl, q3.trans (lS s2), by decide, by decide⟩,
  ⟨R, n + 8, _, R, n + 4, rfl, rfl, got 8 _ rfl, q4.trans (lS s4), by decide, by decide⟩,
  ⟨R, n + 9, _, R, n + 4, rfl, rfl, got 9 _ rfl, q4.trans (lS s3), by decide, by decide⟩,
  ⟨R, n + 11, _, ra, ia, rfl, rfl, got 11 _ rfl, ga.trans (lS s6), by decide, by decide⟩,
  ⟨R, n + 13, _, R, n + 12, rfl, rfl, got 13 _ rfl, q12, by decide, by decide⟩,
  ⟨R, n + 15, _, R, n + 14, rfl, rfl, got 15 _ rfl, q14, by decide, by decide⟩,
  ⟨R, n + 19, _, R, n + 18, rfl, rfl, got 19 _ rfl, q18, by decide, by decide, trivial⟩,
  ⟨R, n + 21, _, R, n + 20, rfl, rfl, q21, q20, (by decide : ∀ x ∈ (NE.un (.un vA vB) vC).vars, x ∈ abcL), by decide⟩,
  ⟨R, n + 24, _, R, n + 23, rfl, rfl, q24, q23, (by decide : ∀ x ∈ (NE.un (.un vC vB) vA).vars, x ∈ abcL), by decide⟩, trivial⟩
 rw [Nat.zero_add] at z;exact z
theorem l_paths (w : Wf T) (hc : ∀ p, (kids T p).length <= 50) (hT : T.length <= 50) (so : SOk S T abcL) (hsub : ∀ x ∈ abcL, (everyOf T).filter (· ∈ S x) = S x) (hk : Hok H) (t : TreeL H ad T)
  (s : ∃ a b, SrcAt H rs is_ a b) (hs : Off ad T.length rs is_) {c : Cx} (htr : c.tr = ad .tree) {rc ic : Nat} (gc : H.get rc ic = some (.inst 1079 (cxF c))) (hv : Dn H rs is_ c.vs.1 c.vs.2 S) {rd id : Nat} (hd : Dn H rs is_ rd id S)
  {re ie : Nat} (ge : H.get re ie = some (.list ((everyOf T).map nV))) (ne : ¬ (re = rs /\ ie = is_)) (hR : H.reg + 1 = 4) (hps : HPS B) :
  ∃ H', FnJ B 59 1712 [.ref rs is_, .ref rc ic, .ref re ie, .ref rd id] H (.bool true, H') /\ Hok H' /\ ∀ r i o, ¬ (r = rs /\ i = is_) -> H.get r i = some o -> H'.get r i = some o := by
 have r0 := hk.pos;have nsrc : ∀ {r i : Nat} {o : O}, H.get r i = some o -> (∀ a b, o ≠ .list [.int a, .int b]) -> ¬ (r = rs /\ i = is_) := fun g h ⟨e1, e2⟩ => by
  obtain ⟨a, b, s'⟩ := s;have := s'.get;rw [<- e1, <- e2, g] at this;exact h a b (Option.some.inj this)
 have M3 : MadeF rs is_ H _ [_, _, _] := (((MadeF.start hk s).push (.cell none)).push (.cell none)).push (.cell none);have g1 := M3.got 0 _ rfl;obtain ⟨b4, t4, e4, M4⟩ : ∃ b t, _ = (⟨b, H.reg, t, H.nxt + 3⟩ : Hp) /\ MadeF rs is_ H ⟨b, H.reg, t, H.nxt + 3⟩ [_, _, _] := M3.set 0 (.cell (some (.ref rc ic))) (by show 0 < 3; decide)
 have g2 := M4.got 1 _ rfl;obtain ⟨b5, t5, e5, M5⟩ : ∃ b t, _ = (⟨b, H.reg, t, H.nxt + 3⟩ : Hp) /\ MadeF rs is_ H ⟨b, H.reg, t, H.nxt + 3⟩ [_, _, _] := M4.set 1 (.cell (some (.ref rd id))) (by show 1 < 3; decide)
 have el : (everyOf T).length <= 400 := le_trans (nodup_len _ _ (every_nodup w) fun x hx => (mem_every w).1 hx) (le_trans hT (by decide))
 obtain ⟨H6, D, W, hD, hW, segA, M6⟩ := p_A K M5 hd ge ne el;obtain ⟨p, o, b7, t7, p1, p4, o1, o3, segB, M7⟩ := p_B K rfl M6 (re := re) (ie := ie) (w := .ref H.reg (H.nxt + 4));have lD : D.length <= 400 := by rw [hD]; exact le_trans (List.length_filter_le _ _) el
 have lW : W.length <= 400 := by rw [hW]; exact le_trans (List.length_filter_le _ _) el
 have hd2 := hd;obtain ⟨es, gd, hes⟩ := hd2;obtain ⟨ra, ia, ea, ga, na⟩ := hes "a" (by decide)
 obtain ⟨H8, segC, M8⟩ := p_C K ⟨p1, p4⟩ ⟨o1, o3⟩ lD lW hd gd (nsrc gd nofun) ea M7 (re := re) (ie := ie)
 have hrows := rows_ok K hsub hD hW ⟨p1, p4⟩ ⟨o1, o3⟩ M8.got (M8.fr.keep _ _ _ na ga);obtain ⟨H9, s9, x9⟩ := l_rowsC K w hc hT so M8.fr.ok (M8.fr.tree t hs) htr (M8.fr.keep _ _ _ (nsrc gc nofun) gc) (hv.fr s M8.fr).vars (M8.got 17 _ rfl) (M8.got 0 _ rfl) (a0 := 4) (by rw [M8.fr.reg]; exact hR) hrows (hps p o p1 p4 o1 o3)
 have q1 := M8.got 17 _ rfl;have q2 := get_push_old x9.ok (.list []) (x9.keep _ _ _ (get_push_new H8 (.list [])));have q3 := get_push_new H9 (.list []);have last : ExsJ B 58 (pE H [(sO "rows", .ref H.reg (H.nxt + 17))]) H8 (pB 8 1) (.ret (.bool true), pE H [(sO "rows", .ref H.reg (H.nxt + 17))], H9.push (.list [])) := by
  clear segA segB segC hrows M8 M7 M6 M5 M4 M3;exact exsJ_of K [.o q1, .c, .co s9, .c, .c, .o q2, .o q3, .c, .c] (by kernel_rfl)
 have body := segA _ _ (segB _ _ (segC _ _ last));have fin : FnJ B 59 1712 [.ref rs is_, .ref rc ic, .ref re ie, .ref rd id] H (.bool true, H9.push (.list [])) := by
  clear last segA segB segC hrows s9 hsub;have body : ExsJ B 58 (pE H [(sO "source", .ref rs is_), (sO "every", .ref re ie)]) ⟨b5, H.reg, t5, H.nxt + 3⟩ (bodyOf 1712) _ := body;exact fnA_of K rfl [.c, .c, .c, .o g1, .y r0, .h e4, .o g2, .y r0, .h e5, .xs body] (by kernel_rfl)
 exact ⟨_, fin, x9.ok.push _, fun r i o n g => get_push_old x9.ok _ (x9.keep _ _ _ (get_push_old M8.fr.ok _ (M8.fr.keep _ _ _ n g)))⟩
end
section
variable {B : Bs} (K : BOk B) {H : Hp} {d : Nat}
include K
theorem l_ctx5 (hk : Hok H) (tr vs : Nat × Nat) (nd : Nat) : ∃ H' c, FnJ B (d + 1) 1055 [.ref H.reg H.nxt, rf tr, nV nd, .int 1, .int 1, rf vs] (H.push (.inst 1079 [])) (.none, H') /\ Ext H H' /\ H'.get H.reg H.nxt = some (.inst 1079 (cxF c)) /\ c.tr = tr /\ c.vs = vs := by
 have r0 := hk.pos;have m0 : Made H _ [_] := (Made.start hk).push (.inst 1079 []);have g0 := m0.got 0 _ rfl;obtain ⟨b1, t1, e1, m1⟩ : ∃ b t, _ = (⟨b, H.reg, t, H.nxt + 1⟩ : Hp) /\ Made H ⟨b, H.reg, t, H.nxt + 1⟩ [_] := m0.set 0 (.inst 1079 [(sO "tree", rf tr)]) (by show 0 < 1; decide)
 have g1 := m1.got 0 _ rfl;obtain ⟨b2, t2, e2, m2⟩ : ∃ b t, _ = (⟨b, H.reg, t, H.nxt + 1⟩ : Hp) /\ Made H ⟨b, H.reg, t, H.nxt + 1⟩ [_] := m1.set 0 (.inst 1079 [(sO "tree", rf tr), (sO "node", nV nd)]) (by show 0 < 1; decide)
 have g2 := m2.got 0 _ rfl;obtain ⟨b3, t3, e3, m3⟩ : ∃ b t, _ = (⟨b, H.reg, t, H.nxt + 1⟩ : Hp) /\ Made H ⟨b, H.reg, t, H.nxt + 1⟩ [_] := m2.set 0 (.inst 1079 [(sO "tree", rf tr), (sO "node", nV nd), (sO "position", .int 1)]) (by show 0 < 1; decide)
 have g3 := m3.got 0 _ rfl;obtain ⟨b4, t4, e4, m4⟩ : ∃ b t, _ = (⟨b, H.reg, t, H.nxt + 1⟩ : Hp) /\ Made H ⟨b, H.reg, t, H.nxt + 1⟩ [_] := m3.set 0 (.inst 1079 [(sO "tree", rf tr), (sO "node", nV nd), (sO "position", .int 1), (sO "size", .int 1)]) (by show 0 < 1; decide)
 have g4 := m4.got 0 _ rfl;obtain ⟨b5, t5, e5, m5⟩ : ∃ b t, _ = (⟨b, H.reg, t, H.nxt + 1⟩ : Hp) /\ Made H ⟨b, H.reg, t, H.nxt + 1⟩ [_] := m4.set 0 (.inst 1079 [(sO "tree", rf tr), (sO "node", nV nd), (sO "position", .int 1), (sO "size", .int 1), (sO "variables", rf vs)]) (by show 0 < 1; decide)
 have g5 := m5.got 0 _ rfl;have m6 : Made H _ [_, _] := m5.push (.dict []);have g6 := m6.got 0 _ rfl;obtain ⟨b7, t7, e7, m7⟩ : ∃ b t, _ = (⟨b, H.reg, t, H.nxt + 2⟩ : Hp) /\ Made H ⟨b, H.reg, t, H.nxt + 2⟩ [_, _] := m6.set 0 (.inst 1079 [(sO "tree", rf tr), (sO "node", nV nd), (sO "position", .int 1), (sO "size", .int 1), (sO "variables", rf vs), (sO "names", .ref H.reg (H.nxt + 1))]) (by show 0 < 2; decide)
 have g7 := m7.got 0 _ rfl;have m8 : Made H _ [_, _, _] := m7.push (.dict []);have g8 := m8.got 0 _ rfl;obtain ⟨b9, t9, e9, m9⟩ : ∃ b t, _ = (⟨b, H.reg, t, H.nxt + 3⟩ : Hp) /\ Made H ⟨b, H.reg, t, H.nxt + 3⟩ [_, _, _] := m8.set 0 (.inst 1079 [(sO "tree", rf tr), (sO "node", nV nd), (sO "position", .int 1), (sO "size", .int 1), (sO "variables", rf vs), (sO "names", .ref H.reg (H.nxt + 1)), (sO "calls", .ref H.reg (H.nxt + 2))]) (by show 0 < 3; decide)
 have g9 := m9.got 0 _ rfl;obtain ⟨b10, t10, e10, m10⟩ : ∃ b t, _ = (⟨b, H.reg, t, H.nxt + 3⟩ : Hp) /\ Made H ⟨b, H.reg, t, H.nxt + 3⟩ [_, _, _] := m9.set 0 (.inst 1079 [(sO "tree", rf tr), (sO "node", nV nd), (sO "position", .int 1), (sO "size", .int 1), (sO "variables", rf vs), (sO "names", .ref H.reg (H.nxt + 1)), (sO "calls", .ref H.reg (H.nxt + 2)), (sO "current", nV nd)]) (by show 0 < 3; decide)
 have g10 := m10.got 0 _ rfl;have m11 : Made H _ [_, _, _, _] := m10.push (.dict []);have g11 := m11.got 0 _ rfl;obtain ⟨b12, t12, e12, m12⟩ : ∃ b t, _ = (⟨b, H.reg, t, H.nxt + 4⟩ : Hp) /\ Made H ⟨b, H.reg, t, H.nxt + 4⟩ [_, _, _, _] := m11.set 0 (.inst 1079 [(sO "tree", rf tr), (sO "node", nV nd), (sO "position", .int 1), (sO "size", .int 1), (sO "variables", rf vs), (sO "names", .ref H.reg (H.nxt + 1)), (sO "calls", .ref H.reg (H.nxt + 2)), (sO "current", nV nd), (sO "ids", .ref H.reg (H.nxt + 3))]) (by show 0 < 4; decide)
 have g12 := m12.got 0 _ rfl;have w : FnJ B (d + 1) 1055 [.ref H.reg H.nxt, rf tr, nV nd, .int 1, .int 1, rf vs] (H.push (.inst 1079 [])) (.none, ⟨b12, H.reg, t12, H.nxt + 4⟩) := by
  exact fnJ_of K rfl [.o g0, .y r0, .h e1, .o g1, .y r0, .h e2, .o g2, .y r0, .h e3, .o g3, .y r0, .h e4, .o g4, .y r0, .h e5, .c, .o g6, .y r0, .h e7, .c, .o g8, .y r0, .h e9, .o g9, .y r0, .h e10, .c, .o g11, .y r0, .h e12] (by kernel_rfl)
 exact ⟨_, ⟨tr, nd, 1, 1, vs, (H.reg, H.nxt + 1), (H.reg, H.nxt + 2), nd, (H.reg, H.nxt + 3)⟩, w, m12.ext, g12, rfl, rfl⟩
noncomputable def adZ (r i : Nat) : Role -> Nat × Nat
 | .tree => (r, i)
 | _ => (r, i + 1)
theorem l_tree (hk : Hok H) : ∃ H', FnJ B (d + 1) 1119 [.ref H.reg H.nxt] (H.push (.inst 1290 [])) (.none, H') /\ Ext H H' /\ TreeL H' (adZ H.reg H.nxt) [] /\ ∀ q : Role, q.ok 0 -> H.get (adZ H.reg H.nxt q).1 (adZ H.reg H.nxt q).2 = none := by
 have r0 := hk.pos;have m0 : Made H _ [_] := (Made.start hk).push (.inst 1290 []);have m1 : Made H _ [_, _] := m0.push (.list []);have g1 := m1.got 0 _ rfl;obtain ⟨b2, t2, e2, m2⟩ : ∃ b t, _ = (⟨b, H.reg, t, H.nxt + 2⟩ : Hp) /\ Made H ⟨b, H.reg, t, H.nxt + 2⟩ [_, _] := m1.set 0 (.inst 1290 [(sO "rows", .ref H.reg (H.nxt + 1))]) (by show 0 < 2; decide)
 have w : FnJ B (d + 1) 1119 [.ref H.reg H.nxt] (H.push (.inst 1290 [])) (.none, ⟨b2, H.reg, t2, H.nxt + 2⟩) := by
  exact fnJ_of K rfl [.c, .c, .o g1, .y r0, .h e2] (by kernel_rfl)
 have nn : H.nxt ≠ H.nxt + 1 := Nat.ne_of_lt (Nat.lt_succ_self _);refine ⟨_, w, m2.ext, ⟨fun q o h => ?_, fun p q o o' hp hq e => ?_, Nat.zero_le _, fun q o h => ?_⟩, fun q hq => ?_⟩
 ·cases q with
  | tree => cases h; exact m2.got 0 _ rfl
  | rows => cases h; exact m2.got 1 _ rfl
  | _ k => cases h
 ·cases p with
  | tree => cases q with
   | tree => rfl
   | rows => exact absurd (congrArg Prod.snd e) nn
   | _ k => cases hq
  | rows => cases q with
   | tree => exact absurd (congrArg Prod.snd e).symm nn
   | rows => rfl
   | _ k => cases hq
  | _ k => cases hp
 ·cases q <;> exact r0
 ·cases q with
  | tree => exact hk.new
  | rows => exact hk.next 1
  | _ k => exact absurd hq (Nat.not_lt_zero _)
end
noncomputable def Ta : List Row := addCh [rootR] 0 (rowN (ofString "element") (ofString "t") (ofString "") (ofString "t") (ofString "") (some 0))
noncomputable def Tb : List Row := addAt Ta 1 (rowN (ofString "attribute") (ofString "k") (ofString "") (ofString "k") (ofString "v") (some 1))
noncomputable def Tc : List Row := addNs Tb 1 (rowN (ofString "namespace") (ofString "p") (ofString "") (ofString "p") (ofString "u") (some 1))
theorem kids_Tc : kids Tc 0 = [1] /\ kids Tc 1 = [3, 2] /\ kids Tc 2 = [] /\ kids Tc 3 = [] /\ ∀ k, kids Tc (k + 4) = [] := ⟨rfl, rfl, rfl, rfl, fun _ => rfl⟩
theorem par_Tc : par Tc 0 = none /\ par Tc 1 = some 0 /\ par Tc 2 = some 1 /\ par Tc 3 = some 1 /\ ∀ k, par Tc (k + 4) = none := ⟨rfl, rfl, rfl, rfl, fun _ => rfl⟩
theorem wf_Tc : Wf Tc := by
 obtain ⟨a0, a1, a2, a3, a4⟩ := kids_Tc;obtain ⟨b0, b1, b2, b3, b4⟩ := par_Tc;have hl : Tc.length = 4 := rfl;refine ⟨fun k c h => ?_, fun c p h => ?_, fun k => ?_⟩
 ·match k with
  | 0 =>
   rw [a0] at h;obtain rfl : c = 1 := by simpa using h
   exact ⟨by decide, by decide, b1⟩
  | 1 =>
   rw [a1] at h;rcases List.mem_cons.1 h with rfl | h
   ·exact ⟨by decide, by decide, b3⟩
   ·obtain rfl : c = 2 := by simpa using h
    exact ⟨by decide, by decide, b2⟩
  | 2 => rw [a2] at h; cases h
  | 3 => rw [a3] at h; cases h
  | k + 4 => rw [a4] at h; cases h
 ·match c with
  | 0 => rw [b0] at h; cases h
  | 1 => rw [b1] at h; cases h; rw [a0]; simp
  | 2 => rw [b2] at h; cases h; rw [a1]; simp
  | 3 => rw [b3] at h; cases h; rw [a1]; simp
  | c + 4 => rw [b4] at h; cases h
 ·match k with
  | 0 => rw [a0]; simp
  | 1 => rw [a1]; simp
  | 2 => rw [a2]; simp
  | 3 => rw [a3]; simp
  | k + 4 => rw [a4]; simp
theorem every_Tc : (everyOf Tc).filter (fun m => decide (m ∈ [2] \/ m ∈ [3])) = [3, 2] := by decide +kernel
theorem kl_Tc (p : Nat) : (kids Tc p).length <= 50 := by
 obtain ⟨a0, a1, a2, a3, a4⟩ := kids_Tc
 match p with
 | 0 => rw [a0]; decide
 | 1 => rw [a1]; decide
 | 2 => rw [a2]; decide
 | 3 => rw [a3]; decide
 | k + 4 => rw [a4]; decide
structure Fk (r0 i0 : Nat) (H H' : Hp) : Prop where
 ok : Hok H'
 keep : ∀ r i o, ¬ (r = r0 /\ i = i0) -> H.get r i = some o -> H'.get r i = some o
 reg : H'.reg = H.reg

noncomputable def lE (cr ci : Nat) (l : List (Str × V)) : En := ⟨l, [(sO "source", cr, ci + 1), (sO "tree", cr, ci)], (fnOf 1717).scope.names, (fnOf 1717).qual ++ ".<locals>."⟩
noncomputable abbrev lB (i j : Nat) : List Stmt := ((bodyOf 1717).drop i).take j
noncomputable def Sab : String -> List Nat := fun x => if x = "a" then [2] else if x = "b" then [3] else []
theorem soab : SOk Sab Tc ["a", "b"] := fun x hx => by
 rcases List.mem_cons.1 hx with rfl | hx
 ·exact ⟨fun m hm => by rw [List.mem_singleton.1 hm]; decide, by decide⟩
 ·obtain rfl : x = "b" := List.mem_singleton.1 hx;exact ⟨fun m hm => by rw [List.mem_singleton.1 hm]; decide, by decide⟩
section
variable {B : Bs} (K : BOk B) {H : Hp} {d : Nat}
include K
theorem lawA (hk : Hok H) (hR : H.reg + 1 = 3) (hp0 : Parses B 58 3 "$a | $b" (.ne (.un vA vB))) {cr ci : Nat} (gT : H.get cr ci = some (.cell none)) (r0 : cr ≠ 0) {v : V} :
  ∃ H', SegJ B 59 (lE cr ci [(sO "script", v)]) H (lB 0 5) (lE cr ci [(sO "script", v)], H') /\ Hok H' /\ H'.reg + 1 = 4 /\ (∃ o, H'.get cr ci = some (.cell o)) /\ ∀ r i o, ¬ (r = cr /\ i = ci) -> H.get r i = some o -> H'.get r i = some o := by
 refine Classical.byContradiction fun nogo => ?_;obtain ⟨H1, s1, x1, t1, n1⟩ := l_tree K hk (d := 57);have gT1 := x1.keep _ _ _ gT;have offH : ∀ r i o, H.get r i = some o -> Off (adZ H.reg H.nxt) 0 r i := fun r i o g q hq e => by
  have := n1 q hq;rw [e, g] at this; cases this
 have k2 := x1.ok.upd (.cell (some (.ref H.reg H.nxt))) gT1 r0;have t2 : TreeL (H1.upd cr ci (.cell (some (.ref H.reg H.nxt)))) (adZ H.reg H.nxt) [] := t1.off (offH _ _ _ gT) fun r' i' n => by rw [Hp.get_upd, if_neg n]
 have gT2 : (H1.upd cr ci (.cell (some (.ref H.reg H.nxt)))).get cr ci = some (.cell (some (.ref H.reg H.nxt))) := by rw [Hp.get_upd, if_pos ⟨rfl, rfl⟩]
 have x2 : ∀ r i o, ¬ (r = cr /\ i = ci) -> H.get r i = some o -> (H1.upd cr ci (.cell (some (.ref H.reg H.nxt)))).get r i = some o := fun r i o n g => by rw [Hp.get_upd, if_neg n]; exact x1.keep _ _ _ g
 have g2 : (H1.upd cr ci (.cell (some (.ref H.reg H.nxt)))).reg = H.reg := (Hp.upd_reg ..).trans x1.reg;obtain ⟨H2, e2⟩ : ∃ H2, H1.upd cr ci (.cell (some (.ref H.reg H.nxt))) = H2 := ⟨_, rfl⟩;rw [e2] at k2 t2 gT2 x2 g2;clear t1 x1;obtain ⟨ad3, H3, c3, m3⟩ := t_newroot K k2 t2 (by decide) (d := 55)
 have a3 : rf (ad3 .tree) = .ref H.reg H.nxt := congrArg rf (m3.old .tree trivial);obtain ⟨ad4, H4, c4, m4'⟩ := t_addelement K m3.ok m3.tree (p := 0) (r := rootR) (by decide) rfl (by decide) (Or.inl rfl) (sO "t") (sO "") (sO "t") (d := 54)
 rw [a3] at c4;have m4 : TMod H2 (adZ H.reg H.nxt) [] H4 ad4 Ta := m3.trans m4';clear m4';have a4 : rf (ad4 .tree) = .ref H.reg H.nxt := congrArg rf (m4.old .tree trivial);have oT := offH _ _ _ gT;have gT4 := m4.keep _ _ _ oT gT2;obtain ⟨ad5, H5, c5, m5'⟩ := t_setattr K m4.ok m4.tree (p := 1) (by decide) (r := rowN (sO "element") (sO "t") (sO "") (sO "t") (sO "") (some 0)) rfl (by decide) rfl (sO "k") (sO "") (sO "k") (sO "v") (fun a ha => by cases ha) (d := 55)
 rw [a4] at c5;have m5 : TMod H2 (adZ H.reg H.nxt) [] H5 ad5 Tb := m4.trans m5';clear m5' ;have a5 : rf (ad5 .tree) = .ref H.reg H.nxt := congrArg rf (m5.old .tree trivial);have gT5 := m5.keep _ _ _ oT gT2;obtain ⟨ad6, H6, c6, m6'⟩ := t_addns K m5.ok m5.tree (p := 1) (by decide) (r := { rowN (sO "element") (sO "t") (sO "") (sO "t") (sO "") (some 0) with ats := [2] }) rfl (by decide) rfl (sO "p") (sO "u") (fun a ha => by cases ha) (d := 55)
 rw [a5] at c6;have m6 : TMod H2 (adZ H.reg H.nxt) [] H6 ad6 Tc := m5.trans m6';clear m6';have gT6 := m6.keep _ _ _ oT gT2;have gt3 := m3.tree.get .tree _ rfl;have gt4 := m4.tree.get .tree _ rfl;have gt5 := m5.tree.get .tree _ rfl;have gt2 := t2.get .tree _ rfl;have b3 : ad3 .tree = (H.reg, H.nxt) := m3.old .tree trivial;have b4 : ad4 .tree = (H.reg, H.nxt) := m4.old .tree trivial;have b5 : ad5 .tree = (H.reg, H.nxt) := m5.old .tree trivial;have b6 : ad6 .tree = (H.reg, H.nxt) := m6.old .tree trivial;rw [b3] at gt3;rw [b4] at gt4;rw [b5] at gt5;have m7 : Made H6 _ [_] := (Made.start m6.ok).push (.tup [nV 2, nV 3]);have u7 := m7.got 0 _ rfl;have gT7 := m7.ext.keep _ _ _ gT6;have m8 : Made H6 _ [_, _] := m7.push (.list [nV 2]);have m9 : Made H6 _ [_, _, _] := m8.push (.list [nV 3]);have m10 : Made H6 _ [_, _, _, _] := m9.push (.dict [(.str (sO "a"), .ref H6.reg (H6.nxt + 1)), (.str (sO "b"), .ref H6.reg (H6.nxt + 2))]);obtain ⟨H11, c, c11, x11, gc, ctr, cvs⟩ := l_ctx5 K m10.ext.ok (H.reg, H.nxt) (H6.reg, H6.nxt + 3) 1 (d := 57);have z11 := m10.ext.trans x11;obtain ⟨v12, H12, c12, k12, r12, hex⟩ := l_parse K z11.ok (by rw [z11.reg, m6.reg, g2]; exact hR) hp0
 have hva : VarsAt H11 c.vs Sab ["a", "b"] := by
  rw [cvs];refine ⟨_, x11.keep _ _ _ (m10.got 3 _ rfl), fun x hx => ?_⟩;rcases List.mem_cons.1 hx with rfl | hx
  ·exact ⟨Or.inl rfl, H6.reg, H6.nxt + 1, by kernel_rfl, x11.keep _ _ _ (m10.got 1 _ rfl)⟩
  ·obtain rfl : x = "b" := List.mem_singleton.1 hx;exact ⟨Or.inr (Or.inl rfl), H6.reg, H6.nxt + 2, by kernel_rfl, x11.keep _ _ _ (m10.got 2 _ rfl)⟩
 obtain ⟨r13, i13, H13, c13, z13, g13⟩ := l_evalEx K wf_Tc kl_Tc (by decide) soab k12.ok ((m6.tree.ext z11).kq k12) (ctr.trans b6.symm) (k12.keep _ _ _ gc) (hva.kq k12) (e := .ne (.un vA vB)) ⟨by decide, by decide⟩ hex
 have es : (Ex.ne (.un vA vB)).res Sab Tc = .list [nV 3, nV 2] := by
  show O.list ((List.filter (fun m => decide (m ∈ [2] \/ m ∈ [3])) (everyOf Tc)).map nV) = _;rw [every_Tc]; rfl
 rw [es] at g13;have z14 := (Ext.refl z13.ok).push (.list [nV 3, nV 2]);have g14 := get_push_new H13 (.list [nV 3, nV 2]);have g134 := z14.keep _ _ _ g13;have c12 := c12.up (Nat.le_succ _);have c13 := c13.up (Nat.le_succ _);have kk : Kq H6 (H13.push (.list [nV 3, nV 2])) := ⟨z14.ok, fun r i o g => z14.keep _ _ _ (z13.keep _ _ _ (k12.keep _ _ _ (z11.keep _ _ _ g)))⟩;refine nogo ⟨H13.push (.list [nV 3, nV 2]), ?_, kk.ok, by rw [z14.reg, z13.reg, r12], ⟨_, kk.keep _ _ _ gT6⟩, fun r i o n g => kk.keep _ _ _ (m6.keep _ _ _ (offH _ _ _ g) (x2 _ _ _ n g))⟩
 clear kk es hva k12 z11 z13 hex x2 offH n1 m3 m4 m5 m6;exact segJ_of K [sO "script"] [.c, .vh s1, .o gT1, .y r0, .h e2, .o gT2, .o gt2, .o gT2, .o gt2, .vh c3, .vh c4, .o gT4, .o gt4, .vh c5, .o gT5, .o gt5, .vh c6, .c, .c, .o u7, .o gT7, .c, .c, .c, .c, .c, .c, .vh c11, .vh c12, .vh c13, .c, .c, .o g134, .o g14, .c, .c] (by kernel_rfl)
end
theorem TreeL.offN {H : Hp} {ad : Role -> Nat × Nat} {T : List Row} (t : TreeL H ad T) {r i : Nat} (n : H.get r i = none) : Off ad T.length r i := fun q hq e => by
 obtain ⟨o, hc⟩ := ok_cont ad hq;have h2 := t.get q o hc;rw [e] at h2;rw [n] at h2; cases h2
structure Doc (H : Hp) (ad : Role -> Nat × Nat) (T : List Row) (rs is_ re ie ro io : Nat) : Prop where
 ok : Hok H
 t : TreeL H ad T
 w : Wf T
 hc : ∀ p, (kids T p).length <= 50
 hT : T.length <= 50
 src : ∃ a b, SrcAt H rs is_ a b
 offS : Off ad T.length rs is_
 every : H.get re ie = some (.list ((everyOf T).map nV))
 nev : ¬ (re = rs /\ ie = is_)
 roots : H.get ro io = some (.list [nV 0, nV 1])
 nro : ¬ (ro = rs /\ io = is_)
noncomputable def Tz : List Row := addCh (addCh [rootR, rootR] 0 (rowN (ofString "element") (ofString "t") (ofString "") (ofString "t") (ofString "") (some 0))) 1 (rowN (ofString "element") (ofString "t") (ofString "") (ofString "t") (ofString "") (some 1))
theorem gz : Gr Tz 0 := Gr.addCh (r := rootR) (Gr.addCh (r := rootR) gr0 (Nat.le_refl 0) rfl (Or.inl rfl) _ _ _ _ _) (Nat.le_refl 0) rfl (Or.inl rfl) _ _ _ _ _
section
variable {B : Bs} (K : BOk B) {H : Hp}
include K
theorem lawB (hk : Hok H) (hR : H.reg + 1 = 4) {cr ci : Nat} {o0 : Option V} (gT : H.get cr ci = some (.cell o0)) (gS : H.get cr (ci + 1) = some (.cell none)) (r0 : cr ≠ 0) {ra ia : Nat} {xs : List Int} (g : H.get ra ia = some (.list (xs.map V.int))) (hl : xs.length <= 1000) :
  ∃ H' ad T rs is_ re ie ro io, SegJ B 59 (lE cr ci [(sO "script", .ref ra ia)]) H (lB 5 4) (lE cr ci [(sO "every", .ref re ie), (sO "roots", .ref ro io)], H') /\ H'.reg + 1 = 4 /\ Doc H' ad T rs is_ re ie ro io /\ H'.get cr ci = some (.cell (some (rf (ad .tree)))) /\ H'.get cr (ci + 1) = some (.cell (some (.ref rs is_))) := by
 refine Classical.byContradiction fun nogo => ?_;have nTS : ¬ (cr = cr /\ ci = ci + 1) := fun e => Nat.ne_of_lt (Nat.lt_succ_self _) e.2;have nST : ¬ (cr = cr /\ ci + 1 = ci) := fun e => Nat.ne_of_lt (Nat.lt_succ_self _) e.2.symm;obtain ⟨a, b, c1, ha, hb⟩ := l_pool K g hl (d := 58);have x1 := (Ext.refl hk).push (.list [.int a, .int b]);have g1 := get_push_new H (.list [.int a, .int b]);obtain ⟨H1, e1⟩ : ∃ H1, H.push (.list [.int a, .int b]) = H1 := ⟨_, rfl⟩;rw [e1] at x1 g1 c1;obtain ⟨rs, hrs⟩ : ∃ rs, H.reg = rs := ⟨_, rfl⟩;obtain ⟨is_, his⟩ : ∃ is_, H.nxt = is_ := ⟨_, rfl⟩;rw [hrs, his] at g1 c1;have rs0 : rs ≠ 0 := hrs ▸ hk.pos;have gT1 := x1.keep _ _ _ gT;have gS1 := x1.keep _ _ _ gS;obtain ⟨H2, c2, x2, t2, n2⟩ := l_tree K x1.ok (d := 57);have off1 : ∀ r i o, H1.get r i = some o -> Off (adZ H1.reg H1.nxt) 0 r i := fun r i o g q hq e => by
  have := n2 q hq;rw [e, g] at this; cases this
 obtain ⟨ad, had⟩ : ∃ ad, adZ H1.reg H1.nxt = ad := ⟨_, rfl⟩;have hadt : ad .tree = (H1.reg, H1.nxt) := by rw [<- had]; rfl
 rw [had] at t2 off1;have x3 := x2.push (.tup [.ref rs is_, .ref H1.reg H1.nxt]);have g3 := get_push_new H2 (.tup [.ref rs is_, .ref H1.reg H1.nxt]);have t3 := t2.ext ((Ext.refl x2.ok).push (.tup [.ref rs is_, .ref H1.reg H1.nxt]));obtain ⟨H3, e3⟩ : ∃ H3, H2.push (.tup [.ref rs is_, .ref H1.reg H1.nxt]) = H3 := ⟨_, rfl⟩;rw [e3] at x3 g3 t3;have gT3 := x3.keep _ _ _ gT1;have gS3 := x3.keep _ _ _ gS1;have t4 : TreeL (H3.upd cr (ci + 1) (.cell (some (.ref rs is_)))) ad [] := t3.off (off1 _ _ _ gS1) fun r' i' n => by rw [Hp.get_upd, if_neg n]
 have k4 : Hok (H3.upd cr (ci + 1) (.cell (some (.ref rs is_)))) := x3.ok.upd _ gS3 r0;have gS4 : (H3.upd cr (ci + 1) (.cell (some (.ref rs is_)))).get cr (ci + 1) = some (.cell (some (.ref rs is_))) := by rw [Hp.get_upd, if_pos ⟨rfl, rfl⟩]
 have gT4 : (H3.upd cr (ci + 1) (.cell (some (.ref rs is_)))).get cr ci = some (.cell o0) := by rw [Hp.get_upd, if_neg nTS]; exact gT3
 have g4 : (H3.upd cr (ci + 1) (.cell (some (.ref rs is_)))).get rs is_ = some (.list [.int a, .int b]) := by
  have := x3.keep _ _ _ g1;rw [Hp.get_upd, if_neg (fun ⟨e1, e2⟩ => by rw [e1, e2, gS3] at this; cases this)]; exact this
 have r4 : (H3.upd cr (ci + 1) (.cell (some (.ref rs is_)))).reg + 1 = 4 := by rw [Hp.upd_reg, x3.reg, x1.reg]; exact hR
 obtain ⟨H4, e4⟩ : ∃ H4, H3.upd cr (ci + 1) (.cell (some (.ref rs is_))) = H4 := ⟨_, rfl⟩;rw [e4] at t4 k4 gT4 gS4 g4 r4;have t5 : TreeL (H4.upd cr ci (.cell (some (.ref H1.reg H1.nxt)))) ad [] := t4.off (off1 _ _ _ gT1) fun r' i' n => by rw [Hp.get_upd, if_neg n]
 have k5 : Hok (H4.upd cr ci (.cell (some (.ref H1.reg H1.nxt)))) := k4.upd _ gT4 r0;have gS5 : (H4.upd cr ci (.cell (some (.ref H1.reg H1.nxt)))).get cr (ci + 1) = some (.cell (some (.ref rs is_))) := by rw [Hp.get_upd, if_neg nST]; exact gS4
 have gT5 : (H4.upd cr ci (.cell (some (.ref H1.reg H1.nxt)))).get cr ci = some (.cell (some (.ref H1.reg H1.nxt))) := by rw [Hp.get_upd, if_pos ⟨rfl, rfl⟩]
 have g5 : (H4.upd cr ci (.cell (some (.ref H1.reg H1.nxt)))).get rs is_ = some (.list [.int a, .int b]) := by
  rw [Hp.get_upd, if_neg (fun ⟨e1, e2⟩ => by rw [e1, e2, gT4] at g4; cases g4)]; exact g4
 have r5 : (H4.upd cr ci (.cell (some (.ref H1.reg H1.nxt)))).reg + 1 = 4 := by rw [Hp.upd_reg]; exact r4
 obtain ⟨H5, e5⟩ : ∃ H5, H4.upd cr ci (.cell (some (.ref H1.reg H1.nxt))) = H5 := ⟨_, rfl⟩;rw [e5] at t5 k5 gT5 gS5 g5 r5;have oT := off1 _ _ _ gT1;have oS := off1 _ _ _ gS1;have oR := off1 _ _ _ g1;have seg1 : SegJ B 59 (lE cr ci [(sO "script", .ref ra ia)]) H (lB 5 1) (lE cr ci [], H5) := by
  clear t2 t3 t4 t5 x1 x2 x3 off1 n2;exact segJ_of K [] [.vh c1, .c, .vh c2, .c, .h e3, .o g3, .o gS3, .y r0, .h e4, .o gT4, .y r0, .h e5] (by kernel_rfl)
 clear t2 t3 t4 x1 x2 x3 off1 n2 c1 c2 gT1 gT3 gT4 gS1 gS3 gS4 g1 g3 g4 k4 e1 e3 e4 e5 gT gS g r4;obtain ⟨ad6, H6, c6, m6⟩ := t_newroot K k5 t5 (by decide) (d := 55)
 have a6 : ad6 .tree = (H1.reg, H1.nxt) := (m6.old .tree trivial).trans hadt;rw [hadt] at c6;obtain ⟨ad7, H7, c7, m7'⟩ := t_newroot K m6.ok m6.tree (by decide) (d := 55)
 rw [a6] at c7;have gT6 := m6.keep _ _ _ oT gT5;have m7 : TMod H5 ad [] H7 ad7 [rootR, rootR] := m6.trans m7';have gt5 := t5.get .tree _ rfl;rw [hadt] at gt5;have gt6 := m6.tree.get .tree _ rfl;rw [a6] at gt6;have a7 : ad7 .tree = (H1.reg, H1.nxt) := (m7.old .tree trivial).trans hadt;have nn := m7.ok.new;have oL : Off ad7 2 H7.reg H7.nxt := m7.tree.offN nn;have x8 := (Ext.refl m7.ok).push (.list [nV 0, nV 1]);have g8 := get_push_new H7 (.list [nV 0, nV 1]);have gT7 := m7.keep _ _ _ oT gT5;have gS7 := m7.keep _ _ _ oS gS5;have gR7 := m7.keep _ _ _ oR g5;have seg2 : SegJ B 59 (lE cr ci []) H5 (lB 6 1) (lE cr ci [(sO "roots", .ref H7.reg H7.nxt)], H7.push (.list [nV 0, nV 1])) := by
  clear m7 m7' m6 x8 seg1;exact segJ_of K [sO "roots"] [.o gT5, .o gt5, .vh c6, .o gT6, .o gt6, .vh c7, .c, .c] (by kernel_rfl)
 clear m7' m6 c6 c7 gt5 gt6 a6 gT6;obtain ⟨H8, e8⟩ : ∃ H8, H7.push (.list [nV 0, nV 1]) = H8 := ⟨_, rfl⟩;rw [e8] at x8 g8 seg2;have oT7 := m7.off oT gT5;have oS7 := m7.off oS gS5;have oR7 := m7.off oR g5;have gT8 := x8.keep _ _ _ gT7;have gS8 := x8.keep _ _ _ gS7;have gR8 := x8.keep _ _ _ gR7;have t8 := m7.tree.ext x8;have r8 : H8.reg + 1 = 4 := by rw [x8.reg, m7.reg]; exact r5
 have nro : ¬ (H7.reg = rs /\ H7.nxt = is_) := fun ⟨e1, e2⟩ => by rw [e1, e2, gR7] at nn; cases nn
 obtain ⟨ro, hro⟩ : ∃ ro, H7.reg = ro := ⟨_, rfl⟩;obtain ⟨io, hio⟩ : ∃ io, H7.nxt = io := ⟨_, rfl⟩;rw [hro, hio] at g8 nro oL seg2;clear m7 gT7 gS7 gR7 gT5 gS5 g5 t5 k5 oT oS oR nn e8 r5;have n8 := x8.ok.new;have x9 := (Ext.refl x8.ok).push (.list []);have gA9 := get_push_new H8 (.list []);obtain ⟨H9, e9⟩ : ∃ H9, H8.push (.list []) = H9 := ⟨_, rfl⟩;rw [e9] at x9 gA9;obtain ⟨rA, hrA⟩ : ∃ rA, H8.reg = rA := ⟨_, rfl⟩;obtain ⟨iA, hiA⟩ : ∃ iA, H8.nxt = iA := ⟨_, rfl⟩;have rA0 : H8.reg ≠ 0 := x8.ok.pos;have nT : ¬ (cr = H8.reg /\ ci = H8.nxt) := fun ⟨e1, e2⟩ => by rw [e1, e2, n8] at gT8; cases gT8
 have nS : ¬ (cr = H8.reg /\ ci + 1 = H8.nxt) := fun ⟨e1, e2⟩ => by rw [e1, e2, n8] at gS8; cases gS8
 have nR : ¬ (rs = H8.reg /\ is_ = H8.nxt) := fun ⟨e1, e2⟩ => by rw [e1, e2, n8] at gR8; cases gR8
 have nL : ¬ (ro = H8.reg /\ io = H8.nxt) := fun ⟨e1, e2⟩ => by rw [e1, e2, n8] at g8; cases g8
 have t9 := t8.ext x9;have gT9 := x9.keep _ _ _ gT8;have gS9 := x9.keep _ _ _ gS8;have gR9 := x9.keep _ _ _ gR8;have gL9 := x9.keep _ _ _ g8;have oA9 := t8.offN n8;obtain ⟨ad10, H10, c10, m10⟩ := t_addelement K x9.ok t9 (p := 0) (by decide) (r := rootR) rfl (by decide) (Or.inl rfl) (sO "t") (sO "") (sO "t") (d := 54)
 have a10 : ad10 .tree = (H1.reg, H1.nxt) := (m10.old .tree trivial).trans a7;rw [a7] at c10;have gA10 := m10.keep _ _ _ oA9 gA9;have gt9 := t9.get .tree _ rfl;rw [a7] at gt9;have t11 := m10.tree.off (m10.off oA9 gA9) (H' := H10.upd H8.reg H8.nxt (.list ([nV 2]))) fun r' i' n => by rw [Hp.get_upd, if_neg n]
 have k11 : Hok (H10.upd H8.reg H8.nxt (.list ([nV 2]))) := m10.ok.upd _ gA10 rA0;have gT11 : (H10.upd H8.reg H8.nxt (.list ([nV 2]))).get cr ci = some (.cell (some (.ref H1.reg H1.nxt))) := by rw [Hp.get_upd, if_neg nT]; exact m10.keep _ _ _ oT7 gT9
 have gS11 : (H10.upd H8.reg H8.nxt (.list ([nV 2]))).get cr (ci + 1) = some (.cell (some (.ref rs is_))) := by rw [Hp.get_upd, if_neg nS]; exact m10.keep _ _ _ oS7 gS9
 have gR11 : (H10.upd H8.reg H8.nxt (.list ([nV 2]))).get rs is_ = some (.list [.int a, .int b]) := by rw [Hp.get_upd, if_neg nR]; exact m10.keep _ _ _ oR7 gR9
 have gL11 : (H10.upd H8.reg H8.nxt (.list ([nV 2]))).get ro io = some (.list [nV 0, nV 1]) := by rw [Hp.get_upd, if_neg nL]; exact m10.keep _ _ _ oL gL9
 have gA11 : (H10.upd H8.reg H8.nxt (.list ([nV 2]))).get H8.reg H8.nxt = some (.list ([nV 2])) := by rw [Hp.get_upd, if_pos ⟨rfl, rfl⟩]
 have r11 : (H10.upd H8.reg H8.nxt (.list ([nV 2]))).reg + 1 = 4 := by rw [Hp.upd_reg, m10.reg, x9.reg]; exact r8
 have oT11 := m10.off oT7 gT9;have oS11 := m10.off oS7 gS9;have oR11 := m10.off oR7 gR9;have oL11 := m10.off oL gL9;have oA11 := m10.off oA9 gA9;obtain ⟨H11, e11⟩ : ∃ K, H10.upd H8.reg H8.nxt (.list ([nV 2])) = K := ⟨_, rfl⟩;rw [e11] at t11 k11 gT11 gS11 gR11 gL11 gA11 r11;obtain ⟨ad12, H12, c12, m12⟩ := t_addelement K k11 t11 (p := 1) (by decide) (r := rootR) rfl (by decide) (Or.inl rfl) (sO "t") (sO "") (sO "t") (d := 54)
 have a12 : ad12 .tree = (H1.reg, H1.nxt) := (m12.old .tree trivial).trans a10;rw [a10] at c12;have gA12 := m12.keep _ _ _ oA11 gA11;have gt11 := t11.get .tree _ rfl;rw [a10] at gt11;have t13 := m12.tree.off (m12.off oA11 gA11) (H' := H12.upd H8.reg H8.nxt (.list ([nV 2, nV 3]))) fun r' i' n => by rw [Hp.get_upd, if_neg n]
 have k13 : Hok (H12.upd H8.reg H8.nxt (.list ([nV 2, nV 3]))) := m12.ok.upd _ gA12 rA0;have gT13 : (H12.upd H8.reg H8.nxt (.list ([nV 2, nV 3]))).get cr ci = some (.cell (some (.ref H1.reg H1.nxt))) := by rw [Hp.get_upd, if_neg nT]; exact m12.keep _ _ _ oT11 gT11
 have gS13 : (H12.upd H8.reg H8.nxt (.list ([nV 2, nV 3]))).get cr (ci + 1) = some (.cell (some (.ref rs is_))) := by rw [Hp.get_upd, if_neg nS]; exact m12.keep _ _ _ oS11 gS11
 have gR13 : (H12.upd H8.reg H8.nxt (.list ([nV 2, nV 3]))).get rs is_ = some (.list [.int a, .int b]) := by rw [Hp.get_upd, if_neg nR]; exact m12.keep _ _ _ oR11 gR11
 have gL13 : (H12.upd H8.reg H8.nxt (.list ([nV 2, nV 3]))).get ro io = some (.list [nV 0, nV 1]) := by rw [Hp.get_upd, if_neg nL]; exact m12.keep _ _ _ oL11 gL11
 have gA13 : (H12.upd H8.reg H8.nxt (.list ([nV 2, nV 3]))).get H8.reg H8.nxt = some (.list ([nV 2, nV 3])) := by rw [Hp.get_upd, if_pos ⟨rfl, rfl⟩]
 have r13 : (H12.upd H8.reg H8.nxt (.list ([nV 2, nV 3]))).reg + 1 = 4 := by rw [Hp.upd_reg, m12.reg]; exact r11
 have oT13 := m12.off oT11 gT11;have oS13 := m12.off oS11 gS11;have oR13 := m12.off oR11 gR11;have oL13 := m12.off oL11 gL11;have oA13 := m12.off oA11 gA11;obtain ⟨H13, e13⟩ : ∃ K, H12.upd H8.reg H8.nxt (.list ([nV 2, nV 3])) = K := ⟨_, rfl⟩;rw [e13] at t13 k13 gT13 gS13 gR13 gL13 gA13 r13;have nTR : ¬ (cr = rs /\ ci = is_) := fun ⟨e1, e2⟩ => by rw [e1, e2, gR13] at gT13; cases gT13
 have nSR : ¬ (cr = rs /\ ci + 1 = is_) := fun ⟨e1, e2⟩ => by rw [e1, e2, gR13] at gS13; cases gS13
 obtain ⟨H14, rp, ip, ad', T', j, pl, c14, hj, st⟩ := l_grown K k13 t13 gz rfl ⟨gR13, ha, hb, rs0⟩ oR13 gA13 ⟨_, rfl, rfl⟩ ⟨_, rfl, rfl⟩ (d := 53);rw [a12] at c14;have seg3 : SegJ B 59 (lE cr ci [(sO "roots", .ref ro io)]) H8 (lB 7 1) (lE cr ci [(sO "roots", .ref ro io)], H14) := by
  clear seg1 seg2 m10 m12 t8 t9 t11 t13 x8 x9 st;exact segJ_of K [sO "roots"] [.o gS8, .o gT8, .o g8, .h e9, .c, .o gL9, .c, .o gT9, .o gt9, .vh c10, .o gA10, .c, .y rA0, .h e11, .c, .o gL11, .c, .o gT11, .o gt11, .vh c12, .o gA12, .c, .y rA0, .h e13, .c, .o gL13, .c, .vh c14] (by kernel_rfl)
 have a14 : ad' .tree = (H1.reg, H1.nxt) := st.tr.trans a12;have gT14 := st.keep _ _ _ oT13 nTR gT13;have gS14 := st.keep _ _ _ oS13 nSR gS13;have gL14 := st.keep _ _ _ oL13 nro gL13;have r14 : H14.reg + 1 = 4 := by rw [st.reg]; exact r13
 have ok14 := st.ok;have t14 := st.t;have G := st.G;have len := st.len;have src := st.src;have offS := st.offS;clear st gT13 gS13 gL13 gA13 gR13 r13 t13 k13 oT13 oS13 oL13 oR13 oA13 hl m10 m12 c10 c12 c14 e13 e11 e9 t8 t9 t11 gT11 gS11 gR11 gL11 gA11 gA12 gA10 gT9 gS9 gR9 gL9 gA9 gT8 gS8 gR8 g8 oT11 oS11 oR11 oL11 oA11 oT7 oS7 oR7 oL oA9 k11 r11 x8 x9 gt9 gt11;have hT : T'.length <= 50 := by rw [len]; exact le_trans (Nat.add_le_add_left hj 4) (by decide)
 have hcc : ∀ p, (kids T' p).length <= 50 := fun p => le_trans (G.kids_len p) hT;have lf : Leafy T' := G.leafy;have hge : 2 <= T'.length := by rw [len]; exact le_trans (by decide) (Nat.le_add_right 4 _)
 have hle : T'.length + 3 <= 59 := le_trans (Nat.add_le_add_right hT 3) (by decide)
 clear len;obtain ⟨r1, i1, H15, c15, x15, g15⟩ := l_walk K G.wf lf hcc hT T'.length 0 H14 (le_of_eq (Nat.zero_add _).symm) (lt_of_lt_of_le (by decide) hge) ok14 t14
 have c15 := c15.up hle;rw [a14] at c15;have gT15 := x15.keep _ _ _ gT14;have gL15 := x15.keep _ _ _ gL14;obtain ⟨r2, i2, H16, c16, x16, g16⟩ := l_walk K G.wf lf hcc hT T'.length 1 H15 (Nat.le_add_left ..) (lt_of_lt_of_le (by decide) hge) x15.ok (t14.ext x15)
 have c16 := c16.up hle;rw [a14] at c16;have y16 := x15.trans x16;have g15' := x16.keep _ _ _ g15;have ev : everyOf T' = wk T' T'.length 0 ++ wk T' T'.length 1 := by
  unfold everyOf; rw [G.roots]; simp
 have hlen : ((wk T' T'.length 0).map nV ++ (wk T' T'.length 1).map nV).length <= limN := by
  have h1 := wk_len G.wf (k := 0) (lt_of_lt_of_le (by decide) hge)
  have h2 := wk_len G.wf (k := 1) (lt_of_lt_of_le (by decide) hge)
  rw [length_append, length_map, length_map]; exact le_trans (Nat.add_le_add h1 h2) (le_trans (Nat.add_le_add hT hT) (by decide))
 have n16 := y16.ok.new;have y17 := y16.push (.list ((wk T' T'.length 0).map nV ++ (wk T' T'.length 1).map nV));have g17 := get_push_new H16 (.list ((wk T' T'.length 0).map nV ++ (wk T' T'.length 1).map nV));have seg4 : SegJ B 59 (lE cr ci [(sO "roots", .ref ro io)]) H14 (lB 8 1) (lE cr ci [(sO "every", .ref H16.reg H16.nxt), (sO "roots", .ref ro io)], H16.push (.list ((wk T' T'.length 0).map nV ++ (wk T' T'.length 1).map nV))) := by
  clear seg1 seg2 seg3 t14 G hcc lf;exact segJ_of K [sO "every", sO "roots"] [.o gT14, .o gL14, .c, .vh c15, .o gT15, .o gL15, .c, .vh c16, .o g15', .o g16, .y hlen, .c] (by kernel_rfl)
 obtain ⟨H17, hH17⟩ : ∃ K, H16.push (.list ((wk T' T'.length 0).map nV ++ (wk T' T'.length 1).map nV)) = K := ⟨_, rfl⟩;rw [hH17] at y17 g17 seg4;have gE : H17.get H16.reg H16.nxt = some (.list ((everyOf T').map nV)) := by rw [g17, ev, List.map_append]
 have nev : ¬ (H16.reg = rs /\ H16.nxt = is_) := fun ⟨e1, e2⟩ => by
  obtain ⟨_, _, s'⟩ := src;have := y16.keep _ _ _ s'.get;rw [<- e1, <- e2, n16] at this; cases this
 have hdoc : Doc H17 ad' T' rs is_ H16.reg H16.nxt ro io := ⟨y17.ok, t14.ext y17, G.wf, hcc, hT, let ⟨x, y, s'⟩ := src; ⟨x, y, s'.ext y17⟩, offS, gE, nev, y17.keep _ _ _ gL14, nro⟩;exact nogo ⟨H17, ad', T', rs, is_, H16.reg, H16.nxt, ro, io, fun rest r h => seg1 _ _ (seg2 _ _ (seg3 _ _ (seg4 _ _ h))), by rw [y17.reg]; exact r14, hdoc, by rw [show rf (ad' .tree) = .ref H1.reg H1.nxt from congrArg rf a14]; exact y17.keep _ _ _ gT14, y17.keep _ _ _ gS14⟩
end
theorem ofString_inj {a b : String} : ofString a = ofString b ↔ a = b := by
 constructor
 ·intro h;rw [Str.ofString_eq_toList, Str.ofString_eq_toList] at h;injection h with h
  have h2 : a.toList.map Char.toNat = b.toList.map Char.toNat := by simpa using congrArg Array.toList h
  have h3 : a.toList = b.toList := by
   have inj : Function.Injective Char.toNat := fun x y e => by
    have : x.val = y.val := UInt32.toNat_inj.mp e;exact Char.ext this
   exact (List.map_inj_right inj).1 h2
  exact String.toList_inj.mp h3
 ·intro h; rw [h]
noncomputable abbrev cFor : Stmt := stAt (bodyOf 1717) 10
noncomputable abbrev cX : Expr := asV (stAt (forB cFor) 0)
section
variable {B : Bs} (K : BOk B) {H : Hp} {rs is_ : Nat} {E : List Nat}
include K
theorem c_comp (hk : Hok H) (s : ∃ a b, SrcAt H rs is_ a b) {cr ci : Nat} (gS : H.get cr ci = some (.cell (some (.ref rs is_)))) {re ie : Nat} (ge : H.get re ie = some (.list (E.map nV))) (ne : ¬ (re = rs /\ ie = is_)) (hE : E.length <= 400) :
  ∃ (H' : Hp) (L : List Nat), CoJ B 59 (coEC 1717 cX [(sO "source", cr, ci)]) (H.push (.list [])) (compElt cX) (compG cX) (.lst re ie 0) H.reg H.nxt (coEC 1717 cX [(sO "source", cr, ci)], H') /\ Fr rs is_ H H' /\ H'.get H.reg H.nxt = some (.list (L.map nV)) /\ L.Sublist E := by
 have nS : ¬ (cr = rs /\ ci = is_) := fun ⟨e1, e2⟩ => by
  obtain ⟨_, _, s'⟩ := s;have := s'.get;rw [<- e1, <- e2, gS] at this; cases this
 have nA : ¬ (H.reg = rs /\ H.nxt = is_) := fun ⟨e1, e2⟩ => by
  obtain ⟨_, _, s'⟩ := s;have := s'.get;rw [<- e1, <- e2, hk.new] at this; cases this
 have r0 := hk.pos;obtain ⟨H', s1, y, pre, vn, L, z1, z2, z3, z4⟩ := co_list (B := B) (d := 59) (e := coEC 1717 cX [(sO "source", cr, ci)]) (elt := compElt cX) (g := compG cX) (ra := H.reg) (ia := H.nxt) (r := re) (i := ie) (xs := E.map nV)
  (J := fun vs H' => Fr rs is_ H H' /\ ∃ (pre vn L : List Nat), E = pre ++ vn /\ vs = vn.map nV /\ H'.get H.reg H.nxt = some (.list (L.map nV)) /\ L.Sublist pre)
  (fun vs H' h => h.1.keep _ _ _ ne ge) (fun H' v vs h => by
   obtain ⟨y, pre, vn, L, z1, z2, z3, z4⟩ := h;cases vn with
   | nil => cases z2
   | cons k vn =>
    injection z2 with z21 z22
    subst z21 z22;have hL : (L.map nV).length < limN := by
     have h1 : E.length = pre.length + (vn.length + 1) := by rw [z1, length_append]; rfl
     rw [length_map];exact lt_of_le_of_lt (le_trans z4.length_le (le_trans (Nat.le_add_right _ _) (le_trans (le_of_eq h1.symm) hE))) (by decide)
    have gS' := y.keep _ _ _ nS gS;obtain ⟨a, b, sr⟩ := y.src;obtain ⟨f, H'', c1, f0, f1, m⟩ := l_take K sr (top := 3) (by decide) (by decide) (d := 58)
    have y2 := y.smod m;have z3' : H''.get H.reg H.nxt = some (.list (L.map nV)) := by rw [m.get nA]; exact z3
    have fin : E = (pre ++ [k]) ++ vn := by rw [z1, List.append_assoc]; rfl
    by_cases h0 : f = 0
    ·subst h0;refine ⟨H''.upd H.reg H.nxt (.list (L.map nV ++ [nV k])), ?_, y2.upd hk s _ hk.new z3', pre ++ [k], vn, L ++ [k], fin, rfl, ?_, z4.append (List.Sublist.refl _)⟩
     ·clear y2 y m sr;exact cTurnJ_of K [.o gS', .vh c1, .c, .o z3', .y hL, .y r0, .c] (by kernel_rfl)
     ·rw [Hp.get_upd, if_pos ⟨rfl, rfl⟩, List.map_append]; rfl
    ·refine ⟨H'', ?_, y2, pre ++ [k], vn, L, fin, rfl, z3', z4.trans (List.sublist_append_left _ _)⟩;clear y2 y m sr;exact cTurnJ_of K [.o gS', .vh c1, .n h0] (by kernel_rfl)
    )
  ⟨(Fr.refl hk s).push _, [], E, [], rfl, rfl, get_push_new _ _, List.Sublist.refl _⟩
 cases vn with
 | cons k vn => cases z2
 | nil =>
  rw [List.append_nil] at z1;subst z1;exact ⟨H', L, s1, y, z3, z4⟩
noncomputable def c3 : List V := [.str (sO "a"), .str (sO "b"), .str (sO "c")]
theorem lawC {ad : Role -> Nat × Nat} {T : List Row} {re ie ro io : Nat} (D : Doc H ad T rs is_ re ie ro io) {cr ci : Nat} (gS : H.get cr (ci + 1) = some (.cell (some (.ref rs is_)))) :
  ∃ H' S rd id, SegJ B 59 (lE cr ci [(sO "every", .ref re ie), (sO "roots", .ref ro io)]) H (lB 9 2) (lE cr ci [(sO "every", .ref re ie), (sO "roots", .ref ro io), (sO "sets", .ref rd id)], H') /\ Fr rs is_ H H' /\ Dn H' rs is_ rd id S /\ ∀ x ∈ abcL, (S x).Sublist (everyOf T) := by
 refine Classical.byContradiction fun nogo => ?_;have hk := D.ok;have s := D.src;have ge := D.every;have nev := D.nev;have hE : (everyOf T).length <= 400 := le_trans (nodup_len _ _ (every_nodup D.w) fun x hx => (mem_every D.w).1 hx) (le_trans D.hT (by decide))
 clear D;have r0 := hk.pos;have nsrc : ∀ {r i : Nat} {o : O}, H.get r i = some o -> (∀ a b, o ≠ .list [.int a, .int b]) -> ¬ (r = rs /\ i = is_) := fun g h ⟨e1, e2⟩ => by
  obtain ⟨a, b, s'⟩ := s;have := s'.get;rw [<- e1, <- e2, g] at this;exact h a b (Option.some.inj this)
 have nnew : ∀ k, ¬ (H.reg = rs /\ H.nxt + k = is_) := fun k ⟨e1, e2⟩ => by
  obtain ⟨_, _, s'⟩ := s;have := s'.get;rw [<- e1, <- e2, hk.next k] at this; cases this
 have x1 := (Fr.refl hk s).push (.dict []);have gd1 := get_push_new H (.dict []);have x2 := x1.push (.list c3);have gn2 := get_push_new (H.push (.dict [])) (.list c3);have gd2 := get_push_old x1.ok (.list c3) gd1;obtain ⟨e', H', s1, rfl, done, rest, S, es, h1, h2, x, gd, hko, hle, hin, hsb, gn⟩ := fo_list (B := B) (d := 59) (t := forT cFor) (b := forB cFor) (r := H.reg) (i := H.nxt + 1) (xs := c3)
  (J := fun vs e' H' => e' = lE cr ci [(sO "every", .ref re ie), (sO "roots", .ref ro io), (sO "sets", .ref H.reg H.nxt)] /\ ∃ (done rest : List String) (S : String -> List Nat) (es : List (V × V)), abcL = done ++ rest /\ vs = rest.map (fun x => V.str (ofString x)) /\ Fr rs is_ H H' /\ H'.get H.reg H.nxt = some (.dict es) /\ KeysOk es /\ es.length <= done.length /\
   (∀ x ∈ done, ∃ r' i', inD (.str (ofString x)) es = some (.ref r' i') /\ H'.get r' i' = some (.list ((S x).map nV)) /\ ¬ (r' = rs /\ i' = is_) /\ ¬ (r' = H.reg /\ i' = H.nxt)) /\ (∀ x ∈ done, (S x).Sublist (everyOf T)) /\ H'.get H.reg (H.nxt + 1) = some (.list c3))
  (fun vs e' H' h => by obtain ⟨_, _, _, _, _, _, _, _, _, _, _, _, _, h⟩ := h; exact h) (fun e' K0 v vs h => by
   obtain ⟨rfl, done, rest, S, es, h1, h2, x, gd, hko, hle, hin, hsb, gn⟩ := h;cases rest with
   | nil => cases h2
   | cons nm rest =>
    injection h2 with h21 h22
    subst h21 h22;have hdl : done.length < 3 := by
     rw [show 3 = (done ++ nm :: rest).length from congrArg List.length h1, length_append]
     exact Nat.lt_add_of_pos_right (Nat.succ_pos _)
    have hnm : nm ∉ done := fun z => by
     have : abcL.Nodup := by decide
     rw [h1] at this;exact (List.nodup_append.1 this).2.2 _ z _ (mem_cons_self ..) rfl
    have gS0 : K0.get cr (ci + 1) = some (.cell (some (.ref rs is_))) := x.keep _ _ _ (nsrc gS nofun) gS
    obtain ⟨K2, L, c2, y, z3, z4⟩ := c_comp K x.ok x.src gS0 (x.keep _ _ _ nev ge) nev hE;have ge0 := x.keep _ _ _ nev ge;have gd2 := y.keep _ _ _ (nnew 0) gd;have x2 := x.trans y;have hes : es.length < limN := lt_of_le_of_lt hle (Nat.lt_trans hdl (by decide))
    have nAs : ¬ (K0.reg = rs /\ K0.nxt = is_) := fun ⟨e1, e2⟩ => by
     obtain ⟨_, _, s'⟩ := x.src;have := s'.get;rw [<- e1, <- e2, x.ok.new] at this; cases this
    have nAd : ¬ (K0.reg = H.reg /\ K0.nxt = H.nxt) := fun ⟨e1, e2⟩ => by
     have := x.ok.new;rw [e1, e2, gd] at this; cases this
    have hne : ∀ z ∈ done, z ≠ nm := fun z hz e => hnm (e ▸ hz);refine ⟨.next, _, K2.upd H.reg H.nxt (.dict (putD (.str (ofString nm)) (.str (ofString nm)) (.ref K0.reg K0.nxt) es)), ?_, .inl rfl, rfl, done ++ [nm], rest, fun y => if y = nm then L else S y, _, by rw [h1, List.append_assoc]; rfl, rfl, x2.upd hk s _ hk.new gd2, by rw [Hp.get_upd, if_pos ⟨rfl, rfl⟩], keysOk_put rfl hko, ?_, fun z hz => ?_, fun z hz => ?_, ?_⟩
    ·clear x x2 y hin hsb hko hle;exact turnJ_of K [sO "every", sO "roots", sO "sets"] [.o ge0, .c, .co c2, .o gd2, .y hes, .c, .y r0, .c] (by kernel_rfl)
    ·rw [length_append]; exact le_trans putD_length_le (Nat.succ_le_succ hle)
    ·rw [inD_putD rfl hko];rcases List.mem_append.1 hz with hz | hz
     ·obtain ⟨r', i', b1, b2, b3, b4⟩ := hin z hz;refine ⟨r', i', ?_, ?_, b3, b4⟩
      ·rw [if_neg (fun e => by injection e with e; exact hne z hz (ofString_inj.1 e))]; exact b1
      ·rw [Hp.get_upd, if_neg b4, show (fun y => if y = nm then L else S y) z = S z from if_neg (hne z hz)]; exact y.keep _ _ _ b3 b2
     ·obtain rfl : z = nm := List.mem_singleton.1 hz;refine ⟨K0.reg, K0.nxt, if_pos rfl, ?_, nAs, nAd⟩;rw [Hp.get_upd, if_neg nAd, show (fun y => if y = z then L else S y) z = L from if_pos rfl]; exact z3
    ·rcases List.mem_append.1 hz with hz | hz
     ·rw [show (fun y => if y = nm then L else S y) z = S z from if_neg (hne z hz)]; exact hsb z hz
     ·obtain rfl : z = nm := List.mem_singleton.1 hz;rw [show (fun y => if y = z then L else S y) z = L from if_pos rfl]; exact z4
    ·rw [Hp.get_upd, if_neg (fun e => Nat.ne_of_lt (Nat.lt_succ_self _) e.2.symm)]; exact y.keep _ _ _ (nnew 1) gn
    )
  (e := lE cr ci [(sO "every", .ref re ie), (sO "roots", .ref ro io), (sO "sets", .ref H.reg H.nxt)]) (H := (H.push (.dict [])).push (.list c3))
  ⟨rfl, [], abcL, fun _ => [], [], rfl, rfl, x2, gd2, fun p hp => (by cases hp), Nat.le_refl _, fun z hz => (by cases hz), fun z hz => (by cases hz), gn2⟩
 have hr : rest = [] := List.map_eq_nil_iff.1 h2.symm;subst hr;rw [List.append_nil] at h1;subst h1;refine nogo ⟨H', S, H.reg, H.nxt, ?_, x, ⟨es, gd, fun z hz => ?_⟩, hsb⟩
 ·clear x x1 x2 hin hsb;exact segJ_of K [sO "every", sO "roots", sO "sets"] [.c, .c, .c, .o gn2, .fo s1] (by kernel_rfl)
 ·obtain ⟨r', i', b1, b2, b3, -⟩ := hin z hz;exact ⟨r', i', b1, b2, b3⟩
end
theorem sub_filter : ∀ {xs L : List Nat}, L.Sublist xs -> xs.Nodup -> xs.filter (· ∈ L) = L := by
 intro xs
 induction xs with
 | nil => intro L h _; rw [List.sublist_nil.1 h]; rfl
 | cons x xs ih =>
  intro L h hn;obtain ⟨h1, h2⟩ := List.nodup_cons.1 hn;cases h with
  | cons _ h =>
   have hx : x ∉ L := fun z => h1 (h.subset z);rw [List.filter_cons_of_neg (by simpa using hx)]
   exact ih h h2
  | cons_cons _ h =>
   rename_i L;rw [List.filter_cons_of_pos (by simp)]
   congr 1
   refine Eq.trans (List.filter_congr fun y hy => ?_) (ih h h2);have : y ≠ x := fun z => h1 (z ▸ hy);simp [this]
section
variable {B : Bs} (K : BOk B) {H : Hp} {rs is_ : Nat}
include K
theorem lawD1 (hps : HPS B) {ad : Role -> Nat × Nat} {T : List Row} {re ie ro io : Nat} (D : Doc H ad T rs is_ re ie ro io) (hR : H.reg + 1 = 4) {cr ci : Nat} (gT : H.get cr ci = some (.cell (some (rf (ad .tree))))) (gS : H.get cr (ci + 1) = some (.cell (some (.ref rs is_))))
  {S : String -> List Nat} {rd id : Nat} (hd : Dn H rs is_ rd id S) (so : SOk S T abcL) (hfil : ∀ x ∈ abcL, (everyOf T).filter (· ∈ S x) = S x) :
  ∃ H', SegJ B 59 (lE cr ci [(sO "every", .ref re ie), (sO "roots", .ref ro io), (sO "sets", .ref rd id)]) H (lB 11 2) (lE cr ci [(sO "every", .ref re ie), (sO "sets", .ref rd id)], H') /\ Hok H' /\ ∀ r i o, ¬ (r = rs /\ i = is_) -> H.get r i = some o -> H'.get r i = some o := by
 have hk := D.ok;have s := D.src;have ge := D.every;have nev := D.nev;have gL := D.roots;have hd2 := hd;obtain ⟨es, gs, hes⟩ := hd2;obtain ⟨qa, ja, ea, ga, na⟩ := hes "a" (by decide)
 obtain ⟨qb, jb, eb, gb, nb⟩ := hes "b" (by decide)
 obtain ⟨qc, jc, ec, gc, nc⟩ := hes "c" (by decide)
 have lA : ((S "a").map nV).length <= limN := by rw [length_map]; exact le_trans (so "a" (by decide)).2 (by decide)
 have lB_ : ((S "b").map nV).length <= limN := by rw [length_map]; exact le_trans (so "b" (by decide)).2 (by decide)
 have lC : ((S "c").map nV).length <= limN := by rw [length_map]; exact le_trans (so "c" (by decide)).2 (by decide)
 have m1 : Made H _ [_] := (Made.start hk).push (.list ((S "a").map nV));have m2 : Made H _ [_, _] := m1.push (.list ((S "b").map nV));have m3 : Made H _ [_, _, _] := m2.push (.list ((S "c").map nV));have m4 : Made H _ [_, _, _, _] := m3.push (.dict [(.str (sO "a"), .ref H.reg H.nxt), (.str (sO "b"), .ref H.reg (H.nxt + 1)), (.str (sO "c"), .ref H.reg (H.nxt + 2))]);have gs1 := m1.ext.keep _ _ _ gs;have gb1 := m1.ext.keep _ _ _ gb;have gs2 := m2.ext.keep _ _ _ gs;have gc2 := m2.ext.keep _ _ _ gc;obtain ⟨H5, c, c5, x5, gcx, ctr, cvs⟩ := l_ctx5 K m4.ext.ok (ad .tree) (H.reg, H.nxt + 3) 0 (d := 57);have y5 := m4.ext.trans x5;have f5 : Fr rs is_ H H5 := (Fr.refl hk s).ext y5;have nsrc : ∀ k, ¬ (H.reg = rs /\ H.nxt + k = is_) := fun k ⟨e1, e2⟩ => by
  obtain ⟨_, _, s'⟩ := s;have := s'.get;rw [<- e1, <- e2, hk.next k] at this; cases this
 have hv : Dn H5 rs is_ c.vs.1 c.vs.2 S := by
  rw [cvs];refine ⟨_, x5.keep _ _ _ (m4.got 3 _ rfl), fun x hx => ?_⟩;rcases abc_of hx with rfl | rfl | rfl
  ·exact ⟨H.reg, H.nxt, by kernel_rfl, x5.keep _ _ _ (m4.got 0 _ rfl), nsrc 0⟩
  ·exact ⟨H.reg, H.nxt + 1, by kernel_rfl, x5.keep _ _ _ (m4.got 1 _ rfl), nsrc 1⟩
  ·exact ⟨H.reg, H.nxt + 2, by kernel_rfl, x5.keep _ _ _ (m4.got 2 _ rfl), nsrc 2⟩
 obtain ⟨H6, c6, ok6, k6⟩ := l_paths K D.w D.hc D.hT so hfil y5.ok (D.t.ext y5) f5.src D.offS ctr gcx hv (hd.fr s f5) (y5.keep _ _ _ ge) nev (by rw [y5.reg]; exact hR) hps
 have gS5 := y5.keep _ _ _ gS;refine ⟨H6, ?_, ok6, fun r i o n g => k6 r i o n (y5.keep _ _ _ g)⟩;clear k6 hv f5 y5 x5 m3 m2 m1 m4 hd D hes s so hfil gcx;exact segJ_of K [sO "every", sO "sets"] [.o gT, .o gL, .c, .o gs, .c, .v ea, .o ga, .y lA, .c, .o gs1, .c, .v eb, .o gb1, .y lB_, .c, .o gs2, .c, .v ec, .o gc2, .y lC, .c, .c, .c, .vh c5, .o gS5, .vh c6] (by kernel_rfl)
theorem lawD2 {ad : Role -> Nat × Nat} {T : List Row} {re ie : Nat} (w : Wf T) (hc : ∀ p, (kids T p).length <= 50) (hT : T.length <= 50) (hk : Hok H) (t : TreeL H ad T) (ge : H.get re ie = some (.list ((everyOf T).map nV))) {cr ci : Nat} (gT : H.get cr ci = some (.cell (some (rf (ad .tree)))))
  {S : String -> List Nat} {rd id : Nat} {es : List (V × V)} (gs : H.get rd id = some (.dict es)) (hes : ∀ x ∈ abcL, ∃ r' i', inD (.str (ofString x)) es = some (.ref r' i') /\ H.get r' i' = some (.list ((S x).map nV))) (so : SOk S T abcL) (hfil : ∀ x ∈ abcL, (everyOf T).filter (· ∈ S x) = S x) :
  ∃ H' e', ExsJ B 59 (lE cr ci [(sO "every", .ref re ie), (sO "sets", .ref rd id)]) H (lB 13 2) (.ret (.bool true), e', H') := by
 obtain ⟨qa, ja, ea, ga⟩ := hes "a" (by decide)
 obtain ⟨qb, jb, eb, gb⟩ := hes "b" (by decide)
 obtain ⟨qc, jc, ec, gc⟩ := hes "c" (by decide)
 have sA := so "a" (by decide)
 have sB := so "b" (by decide)
 have sC := so "c" (by decide)
 have el : (everyOf T).length <= 50 := le_trans (nodup_len _ _ (every_nodup w) fun x hx => (mem_every w).1 hx) hT;have h1 : ((everyOf T).map nV).length <= limN := by rw [length_map]; exact le_trans el (by decide)
 have h2 : ((everyOf T).map nV).reverse.length <= limN := by rw [List.length_reverse]; exact h1
 have h3 : ((S "c").map nV ++ ((everyOf T).map nV).reverse).length <= limN := by rw [length_append, List.length_reverse, length_map, length_map]; exact le_trans (Nat.add_le_add sC.2 el) (by decide)
 have h4 : ((S "c").map nV ++ ((everyOf T).map nV).reverse ++ (S "a").map nV).length <= limN := by rw [length_append, length_append, List.length_reverse, length_map, length_map, length_map]; exact le_trans (Nat.add_le_add (Nat.add_le_add sC.2 el) sA.2) (by decide)
 have h5 : ((S "b").map nV).length <= limN := by rw [length_map]; exact le_trans sB.2 (by decide)
 have h6 : ((S "b").map nV).reverse.length <= limN := by rw [List.length_reverse]; exact h5
 have h7 : (((S "b").map nV).reverse ++ ((S "b").map nV).reverse).length <= limN := by rw [length_append, List.length_reverse, length_map]; exact le_trans (Nat.add_le_add sB.2 sB.2) (by decide)
 have z1 : ((everyOf T).map nV).length = ((everyOf T).map nV).length := rfl;have z2 : ((S "b").map nV).length = ((S "b").map nV).length := rfl;have m1 : Made H _ [_] := (Made.start hk).push (.list ((everyOf T).map nV).reverse);have m2 : Made H _ [_, _] := m1.push (.list ((S "c").map nV ++ ((everyOf T).map nV).reverse));have m3 : Made H _ [_, _, _] := m2.push (.list ((S "c").map nV ++ ((everyOf T).map nV).reverse ++ (S "a").map nV));have gc1 := m1.ext.keep _ _ _ gc;have gr1 := m1.got 0 _ rfl;have gs2 := m2.ext.keep _ _ _ gs;have gr2 := m2.got 1 _ rfl;have ga2 := m2.ext.keep _ _ _ ga;have gT3 := m3.ext.keep _ _ _ gT;have gr3 := m3.got 2 _ rfl;have e3 : (S "c").map nV ++ ((everyOf T).map nV).reverse ++ (S "a").map nV = (S "c" ++ (everyOf T).reverse ++ S "a").map nV := by rw [List.map_append, List.map_append, List.map_reverse]
 have gr3' := gr3.trans (congrArg (fun l => some (O.list l)) e3);obtain ⟨r4, i4, H4, c4, x4, g4, -⟩ := l_inorder K m3.ext.ok (t.ext m3.ext) w hc hT gr3' (fun m hm => by
  rcases List.mem_append.1 hm with hm | hm
  ·rcases List.mem_append.1 hm with hm | hm
   ·exact sC.1 m hm
   ·exact (mem_every w).1 (List.mem_reverse.1 hm)
  ·exact sA.1 m hm) (by
  rw [length_append, length_append, List.length_reverse];have := sA.2;have := sC.2;omega) (d := 53)
 have ea4 : (everyOf T).filter (· ∈ S "c" ++ (everyOf T).reverse ++ S "a") = everyOf T := List.filter_eq_self.2 fun x hx => decide_eq_true (List.mem_append_left _ (List.mem_append_right _ (List.mem_reverse.2 hx)))
 rw [ea4] at g4;have y4 := m3.ext.trans x4;have ge4 := y4.keep _ _ _ ge;have gT4 := y4.keep _ _ _ gT;have gs4 := y4.keep _ _ _ gs;have gb4 := y4.keep _ _ _ gb;have q4 := eqL_self (everyOf T);have n1 : Made H4 _ [_] := (Made.start y4.ok).push (.list ((S "b").map nV).reverse);have n2 : Made H4 _ [_, _] := n1.push (.list (((S "b").map nV).reverse ++ ((S "b").map nV).reverse));have gb5 := n1.got 0 _ rfl;have gb6 := n2.got 1 _ rfl;have e6 : ((S "b").map nV).reverse ++ ((S "b").map nV).reverse = ((S "b").reverse ++ (S "b").reverse).map nV := by rw [List.map_append, List.map_reverse]
 have gb6' := gb6.trans (congrArg (fun l => some (O.list l)) e6);have y6 := y4.trans n2.ext;obtain ⟨r7, i7, H7, c7, x7, g7, -⟩ := l_inorder K n2.ext.ok (t.ext y6) w hc hT gb6' (fun m hm => by
  rcases List.mem_append.1 hm with hm | hm <;> exact sB.1 m (List.mem_reverse.1 hm)) (by
  rw [length_append, List.length_reverse];exact le_trans (Nat.add_le_add sB.2 sB.2) (by decide)) (d := 53)
 have eb7 : (everyOf T).filter (· ∈ (S "b").reverse ++ (S "b").reverse) = S "b" := Eq.trans (List.filter_congr fun x _ => decide_eq_decide.2 (by rw [List.mem_append, List.mem_reverse, or_self_iff])) (hfil "b" (by decide))
 rw [eb7] at g7;have y7 := y6.trans x7;have gs7 := y7.keep _ _ _ gs;have gb7 := y7.keep _ _ _ gb;have q7 := eqL_self (S "b");refine ⟨H7, lE cr ci [(sO "every", .ref re ie), (sO "sets", .ref rd id), (sO "some", .ref H.reg (H.nxt + 2))], ?_⟩;clear y7 x7 y6 x4 y4 m1 m2 m3 n1 n2 hes so hfil w hc t sA sB sC e3 e6 ea4 eb7 gr3' gb6';exact exsJ_of K [.o gs, .c, .v ec, .o ge, .y h1, .y h2, .c, .o gc1, .o gr1, .y h3, .c, .o gs2, .c, .v ea, .o gr2, .o ga2, .y h4, .c, .o gT3, .vh c4, .o g4, .o ge4, .y z1, .bo q4, .o gT4, .o gs4, .c, .v eb, .o gb4, .y h5, .y h6, .c, .o gb5, .y h7, .c, .vh c7, .o gs7, .c, .v eb, .o g7, .o gb7, .y z2, .bo q7] (by kernel_rfl)
theorem l_law (hk : Hok H) (hR : H.reg + 1 = 3) (hps : HPS B) (hp0 : Parses B 58 3 "$a | $b" (.ne (.un vA vB))) {ra ia : Nat} {xs : List Int} (g : H.get ra ia = some (.list (xs.map V.int))) (hl : xs.length <= 1000) :
  ∃ H', FnJ B 60 1717 [.ref ra ia] H (.bool true, H') := by
 have r0 := hk.pos;have m2 : Made H _ [_, _] := ((Made.start hk).push (.cell none)).push (.cell none);have gT := m2.got 0 _ rfl;have gS := m2.got 1 _ rfl;have g2 := m2.ext.keep _ _ _ g;obtain ⟨K1, segA, ok1, r1, ⟨o, gT1⟩, k1⟩ := lawA K m2.ext.ok (by rw [m2.ext.reg]; exact hR) hp0 gT r0 (v := .ref ra ia)
 have gS1 := k1 _ _ _ (fun e => Nat.ne_of_lt (Nat.lt_succ_self _) e.2.symm) gS;have g1 := k1 _ _ _ (fun ⟨a, b⟩ => by rw [a, b, hk.next 0] at g; cases g) g2
 obtain ⟨K2, ad, T, rs, is_, re, ie, ro, io, segB, r2, D, gT2, gS2⟩ := lawB K ok1 r1 gT1 gS1 r0 g1 hl;obtain ⟨K3, S, rd, id, segC, x3, dn, hsub⟩ := lawC K D gS2;have nl : ∀ {r i : Nat} {o : O}, K2.get r i = some o -> (∀ a b, o ≠ .list [.int a, .int b]) -> ¬ (r = rs /\ i = is_) := fun g h ⟨e1, e2⟩ => by
  obtain ⟨a, b, s'⟩ := D.src;have := s'.get;rw [<- e1, <- e2, g] at this;exact h a b (Option.some.inj this)
 have nl3 : ∀ {r i : Nat} {o : O}, K3.get r i = some o -> (∀ a b, o ≠ .list [.int a, .int b]) -> ¬ (r = rs /\ i = is_) := fun g h ⟨e1, e2⟩ => by
  obtain ⟨a, b, s'⟩ := x3.src;have := s'.get;rw [<- e1, <- e2, g] at this;exact h a b (Option.some.inj this)
 have gT3 := x3.keep _ _ _ (nl gT2 nofun) gT2
 have gS3 := x3.keep _ _ _ (nl gS2 nofun) gS2
 have D3 : Doc K3 ad T rs is_ re ie ro io := ⟨x3.ok, x3.tree D.t D.offS, D.w, D.hc, D.hT, x3.src, D.offS, x3.keep _ _ _ D.nev D.every, D.nev, x3.keep _ _ _ D.nro D.roots, D.nro⟩;have hnd := every_nodup D.w;have elen : (everyOf T).length <= 50 := le_trans (nodup_len _ _ hnd fun x hx => (mem_every D.w).1 hx) D.hT;have so : SOk S T abcL := fun x hx => ⟨fun m hm => (mem_every D.w).1 ((hsub x hx).subset hm), le_trans (hsub x hx).length_le (le_trans elen (by decide))⟩
 have hfil : ∀ x ∈ abcL, (everyOf T).filter (· ∈ S x) = S x := fun x hx => sub_filter (hsub x hx) hnd
 obtain ⟨K4, segD, ok4, k4⟩ := lawD1 K hps D3 (by rw [x3.reg]; exact r2) gT3 gS3 dn so hfil
 have t4 : TreeL K4 ad T := ⟨fun q o hq => k4 _ _ _ (fun ⟨a, b⟩ => D3.offS q (cont_ok hq) (Prod.ext a b)) (D3.t.get q o hq), D3.t.inj, D3.t.few, D3.t.pos⟩;obtain ⟨es, gs, hes⟩ := dn;obtain ⟨K5, e5, fin⟩ := lawD2 K D.w D.hc D.hT ok4 t4 (k4 _ _ _ D3.nev D3.every) (k4 _ _ _ (nl3 gT3 nofun) gT3) (k4 _ _ _ (nl3 gs nofun) gs) (fun x hx => by
  obtain ⟨r', i', h1, h2, h3⟩ := hes x hx;exact ⟨r', i', h1, k4 _ _ _ h3 h2⟩) so hfil
 have body : ExsJ B 59 (lE H.reg H.nxt [(sO "script", .ref ra ia)]) ((H.push (.cell none)).push (.cell none)) (bodyOf 1717) _ := segA _ _ (segB _ _ (segC _ _ (segD _ _ fin)));refine ⟨K5, ?_⟩;clear segA segB segC segD fin D3 D x3 so hfil hsub t4 hes nl nl3 m2 k1 k4;exact fnA_of K rfl [.c, .c, .xs body] (by kernel_rfl)
end
def Runs (B : Bs) (R : Nat) (t : String) (X : XA) : Prop := ∀ f, look (X.want R) (prs B f 58 R t) = some (.ref R X.i, bsOf f, R, true, (X.want R).map (fun p => some p.2), [.all], [])
theorem Runs.is {B : Bs} {R : Nat} {t : String} {X : XA} (h : Runs B R t X) : Parses B 58 R t X.ex := ⟨X, rfl, h⟩
section
variable {B : Bs}
theorem ps0 : Runs B 3 "$a | $b" (.ne (.un 19 (.var 10 "a") (.var 15 "b"))) := fun f => by kernel_rfl
theorem ps1 : Runs B 4 "$a | $b" (.ne (.un 19 (.var 10 "a") (.var 15 "b"))) := fun f => by kernel_rfl
theorem ps2 : Runs B 5 "$b|$a" (.ne (.un 19 (.var 10 "b") (.var 15 "a"))) := fun f => by kernel_rfl
theorem ps3 : Runs B 6 "$c | $a | $b" (.ne (.un 29 (.un 23 (.var 14 "c") (.var 19 "a")) (.var 25 "b"))) := fun f => by kernel_rfl
theorem ps4 : Runs B 7 "($a | $b) | $c" (.ne (.un 38 (.un 27 (.var 18 "a") (.var 23 "b")) (.var 34 "c"))) := fun f => by kernel_rfl
theorem ps5 : Runs B 8 "$a | $a" (.ne (.un 19 (.var 10 "a") (.var 15 "a"))) := fun f => by kernel_rfl
theorem ps6 : Runs B 9 "($b | $a)[1]" (.fil 48 46 (.un 28 (.var 19 "b") (.var 24 "a")) [.num 40 39 1]) := fun f => by kernel_rfl
theorem ps7 : Runs B 10 "($c | $b | $a)[last()]" (.fil 58 56 (.un 44 (.un 38 (.var 29 "c") (.var 34 "b")) (.var 40 "a")) [.last 50 49]) := fun f => by kernel_rfl
theorem ps8 : Runs B 11 "count($a | $b)" (.cnt 31 30 (.un 27 (.var 18 "a") (.var 23 "b"))) := fun f => by kernel_rfl
theorem ps9 : Runs B 12 "($a | $b | $c)[1]" (.fil 58 56 (.un 38 (.un 32 (.var 23 "a") (.var 28 "b")) (.var 34 "c")) [.num 50 49 1]) := fun f => by kernel_rfl
theorem ps10 : Runs B 12 "($a | $b | $c)[2]" (.fil 58 56 (.un 38 (.un 32 (.var 23 "a") (.var 28 "b")) (.var 34 "c")) [.num 50 49 2]) := fun f => by kernel_rfl
theorem ps11 : Runs B 12 "($a | $b | $c)[3]" (.fil 58 56 (.un 38 (.un 32 (.var 23 "a") (.var 28 "b")) (.var 34 "c")) [.num 50 49 3]) := fun f => by kernel_rfl
theorem ps12 : Runs B 12 "($a | $b | $c)[4]" (.fil 58 56 (.un 38 (.un 32 (.var 23 "a") (.var 28 "b")) (.var 34 "c")) [.num 50 49 4]) := fun f => by kernel_rfl
theorem ps13 : Runs B 13 "($c | $b | $a)[position() > 1][1]" (.fil 96 94 (.un 52 (.un 46 (.var 37 "c") (.var 42 "b")) (.var 48 "a")) [.gt 78 58 72 57 71 1, .num 88 87 1]) := fun f => by kernel_rfl
theorem ps14 : Runs B 13 "($c | $b | $a)[position() > 1][2]" (.fil 96 94 (.un 52 (.un 46 (.var 37 "c") (.var 42 "b")) (.var 48 "a")) [.gt 78 58 72 57 71 1, .num 88 87 2]) := fun f => by kernel_rfl
theorem ps15 : Runs B 13 "($c | $b | $a)[position() > 1][3]" (.fil 96 94 (.un 52 (.un 46 (.var 37 "c") (.var 42 "b")) (.var 48 "a")) [.gt 78 58 72 57 71 1, .num 88 87 3]) := fun f => by kernel_rfl
theorem ps16 : Runs B 13 "($c | $b | $a)[position() > 2][1]" (.fil 96 94 (.un 52 (.un 46 (.var 37 "c") (.var 42 "b")) (.var 48 "a")) [.gt 78 58 72 57 71 2, .num 88 87 1]) := fun f => by kernel_rfl
theorem ps17 : Runs B 13 "($c | $b | $a)[position() > 2][2]" (.fil 96 94 (.un 52 (.un 46 (.var 37 "c") (.var 42 "b")) (.var 48 "a")) [.gt 78 58 72 57 71 2, .num 88 87 2]) := fun f => by kernel_rfl
theorem ps18 : Runs B 13 "($c | $b | $a)[position() > 2][3]" (.fil 96 94 (.un 52 (.un 46 (.var 37 "c") (.var 42 "b")) (.var 48 "a")) [.gt 78 58 72 57 71 2, .num 88 87 3]) := fun f => by kernel_rfl
theorem ps19 : Runs B 13 "($c | $b | $a)[position() > 3][1]" (.fil 96 94 (.un 52 (.un 46 (.var 37 "c") (.var 42 "b")) (.var 48 "a")) [.gt 78 58 72 57 71 3, .num 88 87 1]) := fun f => by kernel_rfl
theorem ps20 : Runs B 13 "($c | $b | $a)[position() > 3][2]" (.fil 96 94 (.un 52 (.un 46 (.var 37 "c") (.var 42 "b")) (.var 48 "a")) [.gt 78 58 72 57 71 3, .num 88 87 2]) := fun f => by kernel_rfl
theorem ps21 : Runs B 13 "($c | $b | $a)[position() > 3][3]" (.fil 96 94 (.un 52 (.un 46 (.var 37 "c") (.var 42 "b")) (.var 48 "a")) [.gt 78 58 72 57 71 3, .num 88 87 3]) := fun f => by kernel_rfl
theorem ps22 : Runs B 13 "($c | $b | $a)[position() > 4][1]" (.fil 96 94 (.un 52 (.un 46 (.var 37 "c") (.var 42 "b")) (.var 48 "a")) [.gt 78 58 72 57 71 4, .num 88 87 1]) := fun f => by kernel_rfl
theorem ps23 : Runs B 13 "($c | $b | $a)[position() > 4][2]" (.fil 96 94 (.un 52 (.un 46 (.var 37 "c") (.var 42 "b")) (.var 48 "a")) [.gt 78 58 72 57 71 4, .num 88 87 2]) := fun f => by kernel_rfl
theorem ps24 : Runs B 13 "($c | $b | $a)[position() > 4][3]" (.fil 96 94 (.un 52 (.un 46 (.var 37 "c") (.var 42 "b")) (.var 48 "a")) [.gt 78 58 72 57 71 4, .num 88 87 3]) := fun f => by kernel_rfl
theorem hp0 : Parses B 58 3 "$a | $b" (.ne (.un vA vB)) := ps0.is
theorem upto4 : ∀ p < 5, 1 <= p -> p = 1 \/ p = 2 \/ p = 3 \/ p = 4 := by decide
theorem upto3 : ∀ p < 4, 1 <= p -> p = 1 \/ p = 2 \/ p = 3 := by decide
theorem hps : HPS B := by
 intro p o h1 h4 h5 h6 k te ht;have e9 : Parses B 58 (4 + 8) (t12 p) (.fil (.un (.un vA vB) vC) [.num p]) := by
  obtain rfl | rfl | rfl | rfl := upto4 p (Nat.lt_succ_of_le h4) h1
  ·exact ps9.is
  ·exact ps10.is
  ·exact ps11.is
  ·exact ps12.is
 have e13 : Parses B 58 (4 + 9) (t13 p o) (.fil (.un (.un vC vB) vA) [.gt p, .num o]) := by
  obtain rfl | rfl | rfl := upto3 o (Nat.lt_succ_of_le h6) h5
  ·obtain rfl | rfl | rfl | rfl := upto4 p (Nat.lt_succ_of_le h4) h1
   ·exact ps13.is
   ·exact ps16.is
   ·exact ps19.is
   ·exact ps22.is
  ·obtain rfl | rfl | rfl | rfl := upto4 p (Nat.lt_succ_of_le h4) h1
   ·exact ps14.is
   ·exact ps17.is
   ·exact ps20.is
   ·exact ps23.is
  ·obtain rfl | rfl | rfl | rfl := upto4 p (Nat.lt_succ_of_le h4) h1
   ·exact ps15.is
   ·exact ps18.is
   ·exact ps21.is
   ·exact ps24.is
 have z := fun e => Each.get (n := 0) (P := fun k te => Parses B 58 (4 + k) te.1 te.2) e ht;have z := z ⟨ps1.is, ps2.is, ps3.is, ps4.is, ps5.is, ps6.is, ps7.is, ps8.is, e9, e13, trivial⟩;rw [Nat.zero_add] at z;exact z
end
end Mine
set_option maxRecDepth 1000000
namespace MineH
open Mine
noncomputable abbrev pw : Program := PySem.Challenge.pw_sm0080_01
noncomputable def hst (k : Nat) : Stmt := match pw.main.body[k]? with
 | some s => s
 | none => .Pass ⟨0, 0, 0, 0⟩
noncomputable def hmt (k j : Nat) : Stmt := match hst k with
 | .ClassDef _ _ _ b _ _ _ _ _ _ _ => (match b[j]? with
  | some s => s
  | none => .Pass ⟨0, 0, 0, 0⟩)
 | s => s
noncomputable def xs (s : String) (t : Nat) : Value := .str (ofString s) t
noncomputable def xi (i : Int) (t : Nat) : Value := .int i t
noncomputable def xr (a : Nat) : Value := .ref a
noncomputable def xf (t : Nat) : Value := xs "/claim/cut.py" t
noncomputable def tp (l : List Value) : Obj := { cls := .type "tuple", data := .seq ⟨l⟩ }
noncomputable def fl (l : List Value) : Obj := { cls := .none, data := .fields ⟨l⟩ }
noncomputable def ob (c : String) (l : List Value) : Obj := { cls := .type c, data := .fields ⟨l⟩ }
noncomputable def fr (l : List (Option Value)) : Obj := { cls := .type "frame", slots := ⟨l⟩ }
noncomputable def en (P : Params) (s : String) (t : Nat) (v : Value) : DictEntry := ⟨PyData.keyHash P (ofString s), xs s t, v⟩
noncomputable def dc (l : List DictEntry) (n : Nat) : Obj := { cls := .type "dict", data := .dict ⟨l⟩ n }
noncomputable def ty (n : String) (bs mro : List Value) (ns : Nat) (q : String) (sub : List Value) (sl : List (Option Value)) : Obj := { cls := .type "type", data := .cls { name := ofString n, bases := bs, mro := mro, ns := ns, qualname := ofString q, subclasses := sub }, slots := ⟨sl⟩ }
noncomputable def vns (st : Stmt) : List Str := match st with
 | .FunctionDef _ _ _ _ _ _ sc _ _ _ => sc.names.filterMap fun x => if x.2 == .local then some x.1 else none
 | _ => []
noncomputable def fdI (st : Stmt) (q : Str) : FuncData := match st with
 | .FunctionDef name args body _ _ _ scope _ _ _ => { name := name, qualname := q, params := args, body := .stmts body, scope := scope, globals := 0, closure := [], defaults := .none, kwdefaults := .none }
 | _ => default
noncomputable def sts : Nat -> List Str -> List Value
 | _, [] => []
 | t, x :: r => .str x t :: sts (t + 1) r
noncomputable def lnOf (st : Stmt) : Nat := match st with
 | .FunctionDef _ _ _ _ _ _ _ _ _ p => p.line
 | _ => 0
noncomputable def cd (n q : Str) (t l ac f a b : Nat) (bo : Bool) (x y z : Value) (t2 : Nat) : Obj := ob "code" [.str n t, .str q (t + 1), xf (t + 2), xi l 0, xi ac 0, xi 0 0, xi 0 0, xi f 0, xr a, .bool bo, xi 181 0, xr b, .none, x, y, z, xi t2 0, xi l 0, xf (t2 + 1)]
noncomputable def fi (st : Stmt) (q : Str) : Obj := { cls := .none, data := .func (fdI st q) }
noncomputable def fo (st : Stmt) (q : Str) (m d : Value) (c : Nat) : Obj := { cls := .type "function", data := .func { fdI st q with globals := 3, defaults := d, pyModule := m, code := xr c } }
noncomputable def nmOf (st : Stmt) : Str := match st with
 | .FunctionDef name _ _ _ _ _ _ _ _ _ => name
 | _ => ⟨#[]⟩
noncomputable def acOf (st : Stmt) : Nat := match st with
 | .FunctionDef _ a _ _ _ _ _ _ _ _ => a.args.length
 | _ => 0
noncomputable def g7 (st : Stmt) (q : Str) (b t : Nat) (m d : Value) : List Obj := [tp [], fl [], tp (sts (t + 3) (vns st)), tp [], fi st q, cd (nmOf st) q t (lnOf st) (acOf st) 3 b (b + 1) true (xr (b + 2)) (xr (b + 3)) (xr (b + 4)) (t + 3 + (vns st).length), fo st q m d (b + 5)]
noncomputable def g5 (st : Stmt) (q : Str) (b t : Nat) (m d : Value) : List Obj := [tp [], fl [], fi st q, cd (nmOf st) q t (lnOf st) (acOf st) 3 b (b + 1) true .none .none (xr (b + 2)) (t + 3), fo st q m d (b + 3)]
noncomputable def gd (k b t : Nat) (m : Value) : List Obj := g7 (hst k) (nmOf (hst k)) b t m .none
noncomputable def gc (k b t : Nat) (m : Value) : List Obj := g5 (hst k) (nmOf (hst k)) b t m .none
noncomputable def gm (c : String) (k j b t : Nat) (m : Value) : List Obj := g7 (hmt k j) (ofString c ++ ("." ++ nmOf (hmt k j))) b t m .none
noncomputable def gn (c : String) (k j b t : Nat) (m : Value) : List Obj := g5 (hmt k j) (ofString c ++ ("." ++ nmOf (hmt k j))) b t m .none
noncomputable def cc (n : String) (t l a : Nat) : Obj := ob "code" [xs n t, xs n (t + 1), xf (t + 2), xi l 0, xi 0 0, xi 0 0, xi 0 0, xi 0 0, xr a, .bool false, xi 181 0, xr (a + 1), .none, .none, .none, .none, xi (t + 3 : Nat) 0, xi l 0, xf (t + 4)]
noncomputable def fc (c n : Nat) (m : Value) : Obj := fr [some (xr c), some (xr 3), some (xr n), none, some m, none, some (xr 0)]
noncomputable def pp0 : Obj := ob "builtin_function_or_method" [.builtin "type.__prepare__", .type "type"]
noncomputable def is0 (a : Nat) : Obj := ob "builtin_function_or_method" [.builtin "object.__init_subclass__", xr a]
noncomputable def su (a : Nat) : Obj := ob "super" [xr a, xr a, xr a]
noncomputable def gsd (t a : Nat) : Obj := ob "getset_descriptor" [xs "__dict__" t, xr a, .builtin "function.__dict__", .builtin "function.__dict__#set"]
noncomputable def gsw (t a : Nat) : Obj := ob "getset_descriptor" [xs "__weakref__" t, xr a, .builtin "ExceptionGroup.__weakref__", .none]
noncomputable def gdD (k b t : Nat) (m d : Value) : List Obj := g7 (hst k) (nmOf (hst k)) b t m d
noncomputable def gmD (c : String) (k j b t : Nat) (m d : Value) : List Obj := g7 (hmt k j) (ofString c ++ ("." ++ nmOf (hmt k j))) b t m d
noncomputable def M : Nat -> Value
 | 0 => xs "__main__" 164
 | 1 => xs "markupmill.numbers" 194
 | 2 => xs "markupmill.order" 402
 | 3 => xs "markupmill.compare" 446
 | 4 => xs "markupmill.errors" 541
 | 5 => xs "markupmill.chars" 604
 | 6 => xs "markupmill.functions_sets" 697
 | 7 => xs "markupmill.strings" 792
 | 8 => xs "markupmill.functions_texts" 868
 | 9 => xs "markupmill.functions" 913
 | 10 => xs "markupmill.axes" 999
 | 11 => xs "markupmill.node_tests" 1107
 | 12 => xs "markupmill.steps" 1149
 | 13 => xs "markupmill.xpath_nodes" 1213
 | 14 => xs "markupmill.evaluate" 1560
 | 15 => xs "markupmill.context" 1645
 | 16 => xs "markupmill.tree" 1724
 | 17 => xs "markupmill.xpath_words" 2024
 | 18 => xs "markupmill.xpath_grammar" 2287
 | _ => xs "law_sm0080_01" 2602
noncomputable def oc0 (P : Params) : List Obj := List.flatten [
 gd  0 15 187 (M 0), [tp [(xi 0 196), (xi 0 197)]], [tp [(xi 1 199), (xi 0 200)]], [tp [(xi 0 202), (xi 1 203)]], gd  9 25 214 (M 1), gd  10 32 224 (M 1), [tp [(xi 1 231)]], gdD  11 40 232 (M 1) (xr 39), gd  12 47 241 (M 1), gd  13 54 248 (M 1), gd  14 61 255 (M 1), gd  15 68 263 (M 1), gd  16 75 271 (M 1), gd  17 82 279 (M 1), gd  18 89 287 (M 1), gd  19 96 297 (M 1), gd  20 103 305 (M 1), gd  21 110 315 (M 1), gd  22 117 322 (M 1), gd  23 124 329 (M 1), gd  24 131 336 (M 1), gd  25 138 344 (M 1), gd  26 145 353 (M 1), gd  27 152 362 (M 1), gd  28 159 376 (M 1), [tp [(xi 15 387)]], gdD  29 167 388 (M 1) (xr 166), gd  31 174 404 (M 2), gc  32 181 417 (M 2), gc  33 186 423 (M 2), gd  34 191 429 (M 2), gc  35 198 440 (M 2), gd  37 203 448 (M 3), gd  38 210 456 (M 3), gd  39 217 464 (M 3), gd  40 224 472 (M 3), gd  41 231 479 (M 3), gd  42 238 488 (M 3), gc  43 245 498 (M 3), gd  44 250 504 (M 3), 
 gc  45 257 515 (M 3), gd  46 262 521 (M 3), gd  47 269 531 (M 3), [tp [(.type "Exception")]], [pp0], [dc [en P "__module__" 550 (M 4), en P "__qualname__" 552 (xs "MarkupError" 551), en P "__firstlineno__" 554 (xi 252 553), en P "__init__" 562 (xr 289), en P "__static_attributes__" 564 (xr 290)] 5], [tp []], [fl [(xi 254 0), (xi 4 0), (xr 288)]], [cc "MarkupError" 545 252 279], [fc 281 278 (M 4)], gm "MarkupError" 49 0 283 555 (M 4), [tp [(xs "message" 563)]], [dc [en P "__module__" 550 (M 4), en P "__firstlineno__" 554 (xi 252 553), en P "__init__" 562 (xr 289), en P "__static_attributes__" 564 (xr 290), en P "__weakref__" 566 (xr 293), en P "__doc__" 567 .none] 3], [ty "MarkupError" [(.type "Exception")] [(xr 292), (.type "Exception"), (.type "BaseException"), (.type "object")] 291 "MarkupError" [(xr 305), (xr 317)] [some (xr 276), none, some (xs "MarkupError" 543), some (xs "MarkupError" 551), some (.builtin "Exception.__new__"), some (.bool true)]], [gsw 565 292], [su 292], [is0 292], [tp [(xr 292)]], [pp0], [dc [en P "__module__" 579 (M 4), en P "__qualname__" 581 (xs "TreeFault" 580), en P "__firstlineno__" 583 (xi 257 582), en P "__static_attributes__" 584 (xr 303)] 4], [tp []], [fl []], [cc "TreeFault" 574 257 299], [fc 301 298 (M 4)], [tp []], [dc [en P "__module__" 579 (M 4), en P "__firstlineno__" 583 (xi 257 582), en P "__static_attributes__" 584 (xr 303), en P "__doc__" 585 .none] 2], [ty "TreeFault" [(xr 292)] [(xr 305), (xr 292), (.type "Exception"), (.type "BaseException"), (.type "object")] 304 "TreeFault" [] [some (xr 296), none, some (xs "TreeFault" 572), some (xs "TreeFault" 580), some (.builtin "Exception.__new__"), some (.bool true)]], [su 305], [is0 305], [tp [(xr 292)]], [pp0], [dc [en P "__module__" 595 (M 4), en P "__qualname__" 597 (xs "PathFault" 596), en P "__firstlineno__" 599 (xi 259 598), en P "__static_attributes__" 600 (xr 315)] 4], [tp []], [fl []], [cc "PathFault" 590 259 311], [fc 313 310 (M 4)], [tp []], [dc [en P "__module__" 595 (M 4), en P "__firstlineno__" 599 (xi 259 598), en P "__static_attributes__" 600 (xr 315), en P "__doc__" 601 .none] 2], [ty "PathFault" [(xr 292)] [(xr 317), (xr 292), (.type "Exception"), (.type "BaseException"), (.type "object")] 316 "PathFault" [] [some (xr 308), none, some (xs "PathFault" 588), some (xs "PathFault" 596), some (.builtin "Exception.__new__"), some (.bool true)]], [su 317], 
 [is0 317], [tp [(xi 192 608), (xi 214 609)]], [tp [(xi 216 610), (xi 246 611)]], [tp [(xi 248 612), (xi 767 613)]], [tp [(xi 880 614), (xi 893 615)]], [tp [(xi 895 616), (xi 8191 617)]], [tp [(xi 8204 618), (xi 8205 619)]], [tp [(xi 8304 620), (xi 8591 621)]], [tp [(xi 11264 622), (xi 12271 623)]], [tp [(xi 12289 624), (xi 55295 625)]], [tp [(xi 63744 626), (xi 64975 627)]], [tp [(xi 65008 628), (xi 65533 629)]], [tp [(xi 65536 630), (xi 983039 631)]], [tp [(xr 320), (xr 321), (xr 322), (xr 323), (xr 324), (xr 325), (xr 326), (xr 327), (xr 328), (xr 329), (xr 330), (xr 331)]], [tp [(xi 183 633), (xi 183 634)]], [tp [(xi 768 635), (xi 879 636)]], [tp [(xi 8255 637), (xi 8256 638)]], [tp [(xr 333), (xr 334), (xr 335)]], gd  57 337 642 (M 5), gd  58 344 652 (M 5), gd  59 351 659 (M 5), gd  60 358 666 (M 5), gd  61 365 673 (M 5), gd  62 372 680 (M 5), gd  63 379 690 (M 5), gd  65 386 699 (M 6), gd  66 393 706 (M 6), gd  67 400 713 (M 6), gd  68 407 723 (M 6), gd  69 414 732 (M 6), gd  70 421 742 (M 6), gd  71 428 752 (M 6), gd  72 435 765 (M 6), gd  73 442 774 (M 6), gd  74 449 783 (M 6), gd  76 456 794 (M 7), gd  77 463 802 (M 7), gd  78 470 810 (M 7), gd  79 477 819 (M 7), gd  80 484 828 (M 7)]
noncomputable def oc1 (P : Params) : List Obj := List.flatten [
 [tp [.none]], gdD  81 492 837 (M 7) (xr 491), gd  82 499 849 (M 7), gd  83 506 861 (M 7), gd  85 513 870 (M 8), gd  86 520 878 (M 8), gd  87 527 888 (M 8), gd  88 534 898 (M 8), gc  89 541 907 (M 8), [tp [(xs "last" 915), (xs "position" 916), (xs "count" 917), (xs "id" 918), (xs "local-name" 919), (xs "namespace-uri" 920), (xs "name" 921), (xs "sum" 922), (xs "lang" 923)]], [tp [(xs "boolean" 925), (xs "not" 926), (xs "true" 927), (xs "false" 928)]], [tp [(xs "number" 930), (xs "floor" 931), (xs "ceiling" 932), (xs "round" 933)]], [tp [(xs "string" 935), (xs "concat" 936), (xs "starts-with" 937), (xs "contains" 938), (xs "substring-before" 939), (xs "substring-after" 940), (xs "substring" 941), (xs "string-length" 942), (xs "normalize-space" 943), (xs "translate" 944)]], [tp [(xs "last" 946), (xs "position" 947), (xs "true" 948), (xs "false" 949)]], [tp [(xs "local-name" 951), (xs "namespace-uri" 952), (xs "name" 953), (xs "string" 954), (xs "number" 955), (xs "string-length" 956), (xs "normalize-space" 957)]], [tp [(xs "starts-with" 959), (xs "contains" 960), (xs "substring-before" 961), (xs "substring-after" 962)]], gd  99 553 966 (M 9), gd  100 560 973 (M 9), gd  101 567 980 (M 9), gd  102 574 990 (M 9), gd  104 581 1001 (M 10), gd  105 588 1009 (M 10), gd  106 595 1020 (M 10), gd  107 602 1030 (M 10), gd  108 609 1040 (M 10), gd  109 616 1050 (M 10), gd  110 623 1060 (M 10), gd  111 630 1070 (M 10), gc  112 637 1081 (M 10), gd  113 642 1087 (M 10), gd  114 649 1097 (M 10), gd  116 656 1109 (M 11), gd  117 663 1116 (M 11), gd  118 670 1124 (M 11), gd  119 677 1136 (M 11), gd  121 684 1151 (M 12), gd  122 691 1159 (M 12), gc  123 698 1173 (M 12), gd  124 703 1179 (M 12), gd  125 710 1188 (M 12), 
 gd  126 717 1201 (M 12), gc  128 724 1215 (M 13), [tp []], [pp0], [dc [en P "__module__" 1228 (M 13), en P "__qualname__" 1230 (xs "Literal" 1229), en P "__firstlineno__" 1232 (xi 641 1231), en P "__init__" 1240 (xr 742), en P "row" 1247 (xr 749), en P "__static_attributes__" 1249 (xr 750)] 6], [tp []], [fl [(xi 643 0), (xi 4 0), (xr 741), (xi 646 0), (xi 4 0), (xr 748)]], [cc "Literal" 1223 641 732], [fc 734 731 (M 13)], gm "Literal" 129 0 736 1233 (M 13), gm "Literal" 129 1 743 1241 (M 13), [tp [(xs "value" 1248)]], [dc [en P "__module__" 1228 (M 13), en P "__firstlineno__" 1232 (xi 641 1231), en P "__init__" 1240 (xr 742), en P "row" 1247 (xr 749), en P "__static_attributes__" 1249 (xr 750), en P "__dict__" 1251 (xr 753), en P "__weakref__" 1253 (xr 754), en P "__doc__" 1254 .none] 4], [ty "Literal" [(.type "object")] [(xr 752), (.type "object")] 751 "Literal" [] [none, none, some (xs "Literal" 1221), some (xs "Literal" 1229), some (.builtin "object.__new__"), some (.bool true)]], [gsd 1250 752], [gsw 1252 752], [su 752], [is0 752], [tp []], [pp0], [dc [en P "__module__" 1264 (M 13), en P "__qualname__" 1266 (xs "NumberNode" 1265), en P "__firstlineno__" 1268 (xi 648 1267), en P "__init__" 1276 (xr 770), en P "row" 1283 (xr 777), en P "__static_attributes__" 1285 (xr 778)] 6], [tp []], [fl [(xi 650 0), (xi 4 0), (xr 769), (xi 653 0), (xi 4 0), (xr 776)]], [cc "NumberNode" 1259 648 760], [fc 762 759 (M 13)], gm "NumberNode" 130 0 764 1269 (M 13), gm "NumberNode" 130 1 771 1277 (M 13), [tp [(xs "value" 1284)]], [dc [en P "__module__" 1264 (M 13), en P "__firstlineno__" 1268 (xi 648 1267), en P "__init__" 1276 (xr 770), en P "row" 1283 (xr 777), en P "__static_attributes__" 1285 (xr 778), en P "__dict__" 1287 (xr 781), en P "__weakref__" 1289 (xr 782), en P "__doc__" 1290 .none] 4], [ty "NumberNode" [(.type "object")] [(xr 780), (.type "object")] 779 "NumberNode" [] [none, none, some (xs "NumberNode" 1257), some (xs "NumberNode" 1265), some (.builtin "object.__new__"), some (.bool true)]], [gsd 1286 780], [gsw 1288 780], [su 780], [is0 780], [tp []], [pp0], [dc [en P "__module__" 1300 (M 13), en P "__qualname__" 1302 (xs "VariableNode" 1301), en P "__firstlineno__" 1304 (xi 655 1303), en P "__init__" 1312 (xr 798), en P "row" 1319 (xr 805), en P "__static_attributes__" 1321 (xr 806)] 6], [tp []], [fl [(xi 657 0), (xi 4 0), (xr 797), (xi 660 0), (xi 4 0), (xr 804)]], [cc "VariableNode" 1295 655 788], 
 [fc 790 787 (M 13)], gm "VariableNode" 131 0 792 1305 (M 13), gm "VariableNode" 131 1 799 1313 (M 13), [tp [(xs "name" 1320)]], [dc [en P "__module__" 1300 (M 13), en P "__firstlineno__" 1304 (xi 655 1303), en P "__init__" 1312 (xr 798), en P "row" 1319 (xr 805), en P "__static_attributes__" 1321 (xr 806), en P "__dict__" 1323 (xr 809), en P "__weakref__" 1325 (xr 810), en P "__doc__" 1326 .none] 4], [ty "VariableNode" [(.type "object")] [(xr 808), (.type "object")] 807 "VariableNode" [] [none, none, some (xs "VariableNode" 1293), some (xs "VariableNode" 1301), some (.builtin "object.__new__"), some (.bool true)]], [gsd 1322 808], [gsw 1324 808], [su 808], [is0 808], [tp []], [pp0], [dc [en P "__module__" 1336 (M 13), en P "__qualname__" 1338 (xs "Call" 1337), en P "__firstlineno__" 1340 (xi 662 1339), en P "__init__" 1349 (xr 826), en P "row" 1356 (xr 833), en P "__static_attributes__" 1359 (xr 834)] 6], [tp []], [fl [(xi 664 0), (xi 4 0), (xr 825), (xi 668 0), (xi 4 0), (xr 832)]], [cc "Call" 1331 662 816], [fc 818 815 (M 13)], gm "Call" 132 0 820 1341 (M 13), gm "Call" 132 1 827 1350 (M 13), [tp [(xs "arguments" 1357), (xs "name" 1358)]], [dc [en P "__module__" 1336 (M 13), en P "__firstlineno__" 1340 (xi 662 1339), en P "__init__" 1349 (xr 826), en P "row" 1356 (xr 833), en P "__static_attributes__" 1359 (xr 834), en P "__dict__" 1361 (xr 837), en P "__weakref__" 1363 (xr 838), en P "__doc__" 1364 .none] 4], [ty "Call" [(.type "object")] [(xr 836), (.type "object")] 835 "Call" [] [none, none, some (xs "Call" 1329), some (xs "Call" 1337), some (.builtin "object.__new__"), some (.bool true)]], [gsd 1360 836], [gsw 1362 836], [su 836], [is0 836]]
noncomputable def oc2 (P : Params) : List Obj := List.flatten [
 [tp []], [pp0], [dc [en P "__module__" 1374 (M 13), en P "__qualname__" 1376 (xs "Binary" 1375), en P "__firstlineno__" 1378 (xi 670 1377), en P "__init__" 1388 (xr 854), en P "row" 1395 (xr 861), en P "__static_attributes__" 1399 (xr 862)] 6], [tp []], [fl [(xi 672 0), (xi 4 0), (xr 853), (xi 677 0), (xi 4 0), (xr 860)]], [cc "Binary" 1369 670 844], [fc 846 843 (M 13)], gm "Binary" 133 0 848 1379 (M 13), gm "Binary" 133 1 855 1389 (M 13), [tp [(xs "left" 1396), (xs "op" 1397), (xs "right" 1398)]], [dc [en P "__module__" 1374 (M 13), en P "__firstlineno__" 1378 (xi 670 1377), en P "__init__" 1388 (xr 854), en P "row" 1395 (xr 861), en P "__static_attributes__" 1399 (xr 862), en P "__dict__" 1401 (xr 865), en P "__weakref__" 1403 (xr 866), en P "__doc__" 1404 .none] 4], [ty "Binary" [(.type "object")] [(xr 864), (.type "object")] 863 "Binary" [] [none, none, some (xs "Binary" 1367), some (xs "Binary" 1375), some (.builtin "object.__new__"), some (.bool true)]], [gsd 1400 864], [gsw 1402 864], [su 864], [is0 864], [tp []], [pp0], [dc [en P "__module__" 1414 (M 13), en P "__qualname__" 1416 (xs "Negated" 1415), en P "__firstlineno__" 1418 (xi 679 1417), en P "__init__" 1426 (xr 882), en P "row" 1433 (xr 889), en P "__static_attributes__" 1435 (xr 890)] 6], [tp []], [fl [(xi 681 0), (xi 4 0), (xr 881), (xi 684 0), (xi 4 0), (xr 888)]], [cc "Negated" 1409 679 872], [fc 874 871 (M 13)], gm "Negated" 134 0 876 1419 (M 13), gm "Negated" 134 1 883 1427 (M 13), [tp [(xs "value" 1434)]], [dc [en P "__module__" 1414 (M 13), en P "__firstlineno__" 1418 (xi 679 1417), en P "__init__" 1426 (xr 882), en P "row" 1433 (xr 889), en P "__static_attributes__" 1435 (xr 890), en P "__dict__" 1437 (xr 893), en P "__weakref__" 1439 (xr 894), en P "__doc__" 1440 .none] 4], [ty "Negated" [(.type "object")] [(xr 892), (.type "object")] 891 "Negated" [] [none, none, some (xs "Negated" 1407), some (xs "Negated" 1415), some (.builtin "object.__new__"), some (.bool true)]], [gsd 1436 892], [gsw 1438 892], [su 892], [is0 892], [tp []], [pp0], [dc [en P "__module__" 1450 (M 13), en P "__qualname__" 1452 (xs "Filter" 1451), en P "__firstlineno__" 1454 (xi 686 1453), en P "__init__" 1463 (xr 910), en P "row" 1470 (xr 917), en P "__static_attributes__" 1473 (xr 918)] 6], [tp []], [fl [(xi 688 0), (xi 4 0), (xr 909), (xi 692 0), (xi 4 0), (xr 916)]], [cc "Filter" 1445 686 900], [fc 902 899 (M 13)], gm "Filter" 135 0 904 1455 (M 13), 
 gm "Filter" 135 1 911 1464 (M 13), [tp [(xs "base" 1471), (xs "predicates" 1472)]], [dc [en P "__module__" 1450 (M 13), en P "__firstlineno__" 1454 (xi 686 1453), en P "__init__" 1463 (xr 910), en P "row" 1470 (xr 917), en P "__static_attributes__" 1473 (xr 918), en P "__dict__" 1475 (xr 921), en P "__weakref__" 1477 (xr 922), en P "__doc__" 1478 .none] 4], [ty "Filter" [(.type "object")] [(xr 920), (.type "object")] 919 "Filter" [] [none, none, some (xs "Filter" 1443), some (xs "Filter" 1451), some (.builtin "object.__new__"), some (.bool true)]], [gsd 1474 920], [gsw 1476 920], [su 920], [is0 920], [tp []], [pp0], [dc [en P "__module__" 1488 (M 13), en P "__qualname__" 1490 (xs "Path" 1489), en P "__firstlineno__" 1492 (xi 694 1491), en P "__init__" 1501 (xr 938), en P "row" 1509 (xr 945), en P "__static_attributes__" 1512 (xr 946)] 6], [tp []], [fl [(xi 696 0), (xi 4 0), (xr 937), (xi 700 0), (xi 4 0), (xr 944)]], [cc "Path" 1483 694 928], [fc 930 927 (M 13)], gm "Path" 136 0 932 1493 (M 13), gm "Path" 136 1 939 1502 (M 13), [tp [(xs "start" 1510), (xs "steps" 1511)]], [dc [en P "__module__" 1488 (M 13), en P "__firstlineno__" 1492 (xi 694 1491), en P "__init__" 1501 (xr 938), en P "row" 1509 (xr 945), en P "__static_attributes__" 1512 (xr 946), en P "__dict__" 1514 (xr 949), en P "__weakref__" 1516 (xr 950), en P "__doc__" 1517 .none] 4], [ty "Path" [(.type "object")] [(xr 948), (.type "object")] 947 "Path" [] [none, none, some (xs "Path" 1481), some (xs "Path" 1489), some (.builtin "object.__new__"), some (.bool true)]], [gsd 1513 948], [gsw 1515 948], [su 948], [is0 948], [tp []], [pp0], [dc [en P "__module__" 1527 (M 13), en P "__qualname__" 1529 (xs "Step" 1528), en P "__firstlineno__" 1531 (xi 705 1530), en P "__init__" 1541 (xr 966), en P "row" 1548 (xr 973), en P "__static_attributes__" 1552 (xr 974)] 6], [tp []], [fl [(xi 707 0), (xi 4 0), (xr 965), (xi 712 0), (xi 4 0), (xr 972)]], [cc "Step" 1522 705 956], [fc 958 955 (M 13)], gm "Step" 137 0 960 1532 (M 13), gm "Step" 137 1 967 1542 (M 13), [tp [(xs "axis" 1549), (xs "predicates" 1550), (xs "test" 1551)]], [dc [en P "__module__" 1527 (M 13), en P "__firstlineno__" 1531 (xi 705 1530), en P "__init__" 1541 (xr 966), en P "row" 1548 (xr 973), en P "__static_attributes__" 1552 (xr 974), en P "__dict__" 1554 (xr 977), en P "__weakref__" 1556 (xr 978), en P "__doc__" 1557 .none] 4], [ty "Step" [(.type "object")] [(xr 976), (.type "object")] 975 "Step" [] [none, none, some (xs "Step" 1520), some (xs "Step" 1528), some (.builtin "object.__new__"), some (.bool true)]], [gsd 1553 976], [gsw 1555 976], [su 976], [is0 976], 
 [tp [(xs "=" 1562), (xs "!=" 1563), (xs "<" 1564), (xs "<=" 1565), (xs ">" 1566), (xs ">=" 1567)]], gd  140 982 1569 (M 14), gd  141 989 1576 (M 14), gc  142 996 1585 (M 14), [tp []], [fl []], [tp [(xs "context" 1594), (xs "value_of" 1595)]], [tp [(xs "context" 1596)]], [fi (hst 143) "asker"], [ob "code" [(xs "asker" 1591), (xs "asker" 1592), (xs "/claim/cut.py" 1593), (xi 730 0), (xi 1 0), (xi 0 0), (xi 0 0), (xi 3 0), (xr 1001), (.bool true), (xi 181 0), (xr 1002), .none, (xr 1003), (xr 1004), (xr 1005), (xi 1597 0), (xi 730 0), (xs "/claim/cut.py" 1598)]], [fo (hst 143) "asker" (M 14) .none 1006], gd  144 1008 1600 (M 14), gc  145 1015 1612 (M 14), gd  146 1020 1618 (M 14), gd  147 1027 1627 (M 14), gd  148 1034 1637 (M 14), [tp []], [pp0], [dc [en P "__module__" 1654 (M 15), en P "__qualname__" 1656 (xs "Context" 1655), en P "__firstlineno__" 1658 (xi 784 1657), en P "__init__" 1676 (xr 1055), en P "at" 1686 (xr 1062), en P "variable" 1698 (xr 1069), en P "uri_of" 1706 (xr 1076), en P "__static_attributes__" 1716 (xr 1077)] 8], [tp []], [fl [(xi 786 0), (xi 4 0), (xr 1054), (xi 797 0), (xi 4 0), (xr 1061), (xi 800 0), (xi 4 0), (xr 1068), (xi 807 0), (xi 4 0), (xr 1075)]], [cc "Context" 1649 784 1044], [fc 1046 1043 (M 15)], [tp [(xi 1 1659), (xi 1 1660), .none, .none, .none, .none, .none]], gmD "Context" 150 0 1049 1661 (M 15) (xr 1048), gm "Context" 150 1 1056 1677 (M 15), gm "Context" 150 2 1063 1687 (M 15), gm "Context" 150 3 1070 1699 (M 15), [tp [(xs "calls" 1707), (xs "current" 1708), (xs "ids" 1709), (xs "names" 1710), (xs "node" 1711), (xs "position" 1712), (xs "size" 1713), (xs "tree" 1714), (xs "variables" 1715)]], [dc [en P "__module__" 1654 (M 15), en P "__firstlineno__" 1658 (xi 784 1657), en P "__init__" 1676 (xr 1055), en P "at" 1686 (xr 1062), en P "variable" 1698 (xr 1069), en P "uri_of" 1706 (xr 1076), en P "__static_attributes__" 1716 (xr 1077), en P "__dict__" 1718 (xr 1080), en P "__weakref__" 1720 (xr 1081), en P "__doc__" 1721 .none] 4], [ty "Context" [(.type "object")] [(xr 1079), (.type "object")] 1078 "Context" [] [none, none, some (xs "Context" 1647), some (xs "Context" 1655), some (.builtin "object.__new__"), some (.bool true)]], [gsd 1717 1079], [gsw 1719 1079], [su 1079], [is0 1079]]
noncomputable def oc3 (P : Params) : List Obj := List.flatten [
 [tp [(xs "root" 1726), (xs "element" 1727)]], [tp []], [pp0], [dc [en P "__module__" 1736 (M 16), en P "__qualname__" 1738 (xs "NodeRow" 1737), en P "__firstlineno__" 1740 (xi 813 1739), en P "__init__" 1753 (xr 1098), en P "__static_attributes__" 1763 (xr 1099)] 5], [tp []], [fl [(xi 815 0), (xi 4 0), (xr 1097)]], [cc "NodeRow" 1731 813 1088], [fc 1090 1087 (M 16)], gm "NodeRow" 153 0 1092 1741 (M 16), [tp [(xs "attributes" 1754), (xs "children" 1755), (xs "kind" 1756), (xs "local" 1757), (xs "name" 1758), (xs "namespaces" 1759), (xs "parent" 1760), (xs "uri" 1761), (xs "value" 1762)]], [dc [en P "__module__" 1736 (M 16), en P "__firstlineno__" 1740 (xi 813 1739), en P "__init__" 1753 (xr 1098), en P "__static_attributes__" 1763 (xr 1099), en P "__dict__" 1765 (xr 1102), en P "__weakref__" 1767 (xr 1103), en P "__doc__" 1768 .none] 4], [ty "NodeRow" [(.type "object")] [(xr 1101), (.type "object")] 1100 "NodeRow" [] [none, none, some (xs "NodeRow" 1729), some (xs "NodeRow" 1737), some (.builtin "object.__new__"), some (.bool true)]], [gsd 1764 1101], [gsw 1766 1101], [su 1101], [is0 1101], [tp []], [pp0], [dc [en P "__module__" 1778 (M 16), en P "__qualname__" 1780 (xs "Tree" 1779), en P "__firstlineno__" 1782 (xi 825 1781), en P "__init__" 1789 (xr 1119), en P "new_row" 1802 (xr 1126), en P "row" 1810 (xr 1133), en P "new_root" 1817 (xr 1140), en P "add_child" 1831 (xr 1147), en P "add_element" 1842 (xr 1154), en P "add_text" 1851 (xr 1161), en P "add_comment" 1860 (xr 1168), en P "add_instruction" 1870 (xr 1175), en P "element_row" 1879 (xr 1182), en P "set_attribute" 1894 (xr 1189), en P "add_namespace" 1906 (xr 1196), en P "set_value" 1915 (xr 1203), en P "kind" 1923 (xr 1210), en P "name" 1931 (xr 1217), en P "uri" 1939 (xr 1224), en P "local" 1947 (xr 1231), en P "value" 1955 (xr 1238), en P "parent" 1963 (xr 1245), en P "children" 1971 (xr 1252), en P "attributes" 1979 (xr 1259), en P "namespaces" 1987 (xr 1266), en P "root_of" 1995 (xr 1273), en P "is_above" 2004 (xr 1280), en P "attribute_value" 2014 (xr 1287), en P "__static_attributes__" 2016 (xr 1288)] 29], [tp []], [fl [(xi 827 0), (xi 4 0), (xr 1118), (xi 830 0), (xi 4 0), (xr 1125), (xi 834 0), (xi 4 0), (xr 1132), (xi 839 0), (xi 4 0), (xr 1139), (xi 842 0), (xi 4 0), (xr 1146), (xi 850 0), (xi 4 0), (xr 1153), (xi 853 0), (xi 4 0), (xr 1160), (xi 856 0), (xi 4 0), (xr 1167), (xi 859 0), (xi 4 0), (xr 1174), (xi 862 0), (xi 4 0), (xr 1181), (xi 868 0), (xi 4 0), (xr 1188), (xi 880 0), (xi 4 0), (xr 1195), (xi 890 0), (xi 4 0), (xr 1202), (xi 893 0), (xi 4 0), (xr 1209), (xi 896 0), (xi 4 0), (xr 1216), (xi 899 0), (xi 4 0), (xr 1223), (xi 902 0), (xi 4 0), (xr 1230), (xi 905 0), (xi 4 0), (xr 1237), (xi 908 0), (xi 4 0), (xr 1244), (xi 911 0), (xi 4 0), (xr 1251), (xi 914 0), (xi 4 0), (xr 1258), (xi 917 0), (xi 4 0), (xr 1265), (xi 920 0), (xi 4 0), (xr 1272), (xi 925 0), (xi 4 0), (xr 1279), (xi 928 0), (xi 4 0), (xr 1286)]], [cc "Tree" 1773 825 1109], [fc 1111 1108 (M 16)], gm "Tree" 154 0 1113 1783 (M 16), gm "Tree" 154 1 1120 1790 (M 16), gm "Tree" 154 2 1127 1803 (M 16), gm "Tree" 154 3 1134 1811 (M 16), gm "Tree" 154 4 1141 1818 (M 16), gm "Tree" 154 5 1148 1832 (M 16), gm "Tree" 154 6 1155 1843 (M 16), gm "Tree" 154 7 1162 1852 (M 16), gm "Tree" 154 8 1169 1861 (M 16), gm "Tree" 154 9 1176 1871 (M 16), gm "Tree" 154 10 1183 1880 (M 16), gm "Tree" 154 11 1190 1895 (M 16), gm "Tree" 154 12 1197 1907 (M 16), gm "Tree" 154 13 1204 1916 (M 16), gm "Tree" 154 14 1211 1924 (M 16), gm "Tree" 154 15 1218 1932 (M 16), gm "Tree" 154 16 1225 1940 (M 16), 
 gm "Tree" 154 17 1232 1948 (M 16), gm "Tree" 154 18 1239 1956 (M 16), gm "Tree" 154 19 1246 1964 (M 16), gm "Tree" 154 20 1253 1972 (M 16), gm "Tree" 154 21 1260 1980 (M 16), gm "Tree" 154 22 1267 1988 (M 16), gm "Tree" 154 23 1274 1996 (M 16), gm "Tree" 154 24 1281 2005 (M 16), [tp [(xs "rows" 2015)]], [dc [en P "__module__" 1778 (M 16), en P "__firstlineno__" 1782 (xi 825 1781), en P "__init__" 1789 (xr 1119), en P "new_row" 1802 (xr 1126), en P "row" 1810 (xr 1133), en P "new_root" 1817 (xr 1140), en P "add_child" 1831 (xr 1147), en P "add_element" 1842 (xr 1154), en P "add_text" 1851 (xr 1161), en P "add_comment" 1860 (xr 1168), en P "add_instruction" 1870 (xr 1175), en P "element_row" 1879 (xr 1182), en P "set_attribute" 1894 (xr 1189), en P "add_namespace" 1906 (xr 1196), en P "set_value" 1915 (xr 1203), en P "kind" 1923 (xr 1210), en P "name" 1931 (xr 1217), en P "uri" 1939 (xr 1224), en P "local" 1947 (xr 1231), en P "value" 1955 (xr 1238), en P "parent" 1963 (xr 1245), en P "children" 1971 (xr 1252), en P "attributes" 1979 (xr 1259), en P "namespaces" 1987 (xr 1266), en P "root_of" 1995 (xr 1273), en P "is_above" 2004 (xr 1280), en P "attribute_value" 2014 (xr 1287), en P "__static_attributes__" 2016 (xr 1288), en P "__dict__" 2018 (xr 1291), en P "__weakref__" 2020 (xr 1292), en P "__doc__" 2021 .none] 4], [ty "Tree" [(.type "object")] [(xr 1290), (.type "object")] 1289 "Tree" [] [none, none, some (xs "Tree" 1771), some (xs "Tree" 1779), some (.builtin "object.__new__"), some (.bool true)]], [gsd 2017 1290], [gsw 2019 1290], [su 1290], [is0 1290], [tp [(xs "//" 2028), (xs "!=" 2029), (xs "<=" 2030), (xs ">=" 2031), (xs ".." 2032), (xs "::" 2033)]], [tp [(xs "/" 2035), (xs "//" 2036), (xs "|" 2037), (xs "+" 2038), (xs "-" 2039), (xs "=" 2040), (xs "!=" 2041), (xs "<" 2042), (xs "<=" 2043), (xs ">" 2044), (xs ">=" 2045)]], [tp [(xs "(" 2047), (xs ")" 2048), (xs "[" 2049), (xs "]" 2050), (xs "." 2051), (xs ".." 2052), (xs "@" 2053), (xs "," 2054), (xs "::" 2055)]], [tp [(xs "and" 2057), (xs "or" 2058), (xs "mod" 2059), (xs "div" 2060)]], [tp [(xs "comment" 2062), (xs "text" 2063), (xs "processing-instruction" 2064), (xs "node" 2065)]], [tp [(xs "@" 2067), (xs "::" 2068), (xs "(" 2069), (xs "[" 2070), (xs "," 2071)]], [tp []], [pp0], [dc [en P "__module__" 2080 (M 17), en P "__qualname__" 2082 (xs "Word" 2081), en P "__firstlineno__" 2084 (xi 938 2083), en P "__init__" 2094 (xr 1314), en P "is_sign" 2102 (xr 1321), en P "is_operator" 2110 (xr 1328), en P "row" 2117 (xr 1335), en P "__static_attributes__" 2121 (xr 1336)] 8], [tp []], [fl [(xi 940 0), (xi 4 0), (xr 1313), (xi 945 0), (xi 4 0), (xr 1320), (xi 948 0), (xi 4 0), (xr 1327), (xi 951 0), (xi 4 0), (xr 1334)]], [cc "Word" 2075 938 1304], [fc 1306 1303 (M 17)], gm "Word" 163 0 1308 2085 (M 17), gm "Word" 163 1 1315 2095 (M 17), gm "Word" 163 2 1322 2103 (M 17), gm "Word" 163 3 1329 2111 (M 17), [tp [(xs "kind" 2118), (xs "place" 2119), (xs "text" 2120)]], [dc [en P "__module__" 2080 (M 17), en P "__firstlineno__" 2084 (xi 938 2083), en P "__init__" 2094 (xr 1314), en P "is_sign" 2102 (xr 1321), en P "is_operator" 2110 (xr 1328), en P "row" 2117 (xr 1335), en P "__static_attributes__" 2121 (xr 1336), en P "__dict__" 2123 (xr 1339), en P "__weakref__" 2125 (xr 1340), en P "__doc__" 2126 .none] 4], [ty "Word" [(.type "object")] [(xr 1338), (.type "object")] 1337 "Word" [] [none, none, some (xs "Word" 2073), some (xs "Word" 2081), some (.builtin "object.__new__"), some (.bool true)]], [gsd 2122 1338], [gsw 2124 1338], [su 1338], [is0 1338], [tp []], 
 [pp0], [dc [en P "__module__" 2136 (M 17), en P "__qualname__" 2138 (xs "PathScanner" 2137), en P "__firstlineno__" 2140 (xi 953 2139), en P "__init__" 2148 (xr 1356), en P "sign" 2158 (xr 1364), en P "add" 2168 (xr 1371), en P "run" 2175 (xr 1378), en P "skip" 2182 (xr 1385), en P "is_behind_operand" 2190 (xr 1392), en P "step" 2198 (xr 1399), en P "number" 2206 (xr 1406), en P "figures" 2213 (xr 1413), en P "literal" 2223 (xr 1420), en P "variable" 2232 (xr 1427), en P "plain_name" 2240 (xr 1434), en P "qualified" 2249 (xr 1441), en P "name" 2259 (xr 1448), en P "mark" 2268 (xr 1455), en P "__static_attributes__" 2272 (xr 1456)] 19], [tp []], [fl [(xi 955 0), (xi 4 0), (xr 1355), (xi 960 0), (xi 4 0), (xr 1363), (xi 964 0), (xi 4 0), (xr 1370), (xi 967 0), (xi 4 0), (xr 1377), (xi 975 0), (xi 4 0), (xr 1384), (xi 979 0), (xi 4 0), (xr 1391), (xi 987 0), (xi 4 0), (xr 1398), (xi 1003 0), (xi 4 0), (xr 1405), (xi 1011 0), (xi 4 0), (xr 1412), (xi 1015 0), (xi 4 0), (xr 1419), (xi 1023 0), (xi 4 0), (xr 1426), (xi 1031 0), (xi 4 0), (xr 1433), (xi 1039 0), (xi 4 0), (xr 1440), (xi 1052 0), (xi 4 0), (xr 1447), (xi 1071 0), (xi 4 0), (xr 1454)]], [cc "PathScanner" 2131 953 1346], [fc 1348 1345 (M 17)], gm "PathScanner" 164 0 1350 2141 (M 17), [tp [(xi 0 2149)]], gmD "PathScanner" 164 1 1358 2150 (M 17) (xr 1357), gm "PathScanner" 164 2 1365 2159 (M 17), gm "PathScanner" 164 3 1372 2169 (M 17), gm "PathScanner" 164 4 1379 2176 (M 17), gm "PathScanner" 164 5 1386 2183 (M 17), gm "PathScanner" 164 6 1393 2191 (M 17), gm "PathScanner" 164 7 1400 2199 (M 17), gm "PathScanner" 164 8 1407 2207 (M 17), gm "PathScanner" 164 9 1414 2214 (M 17), gm "PathScanner" 164 10 1421 2224 (M 17), gm "PathScanner" 164 11 1428 2233 (M 17), gm "PathScanner" 164 12 1435 2241 (M 17), gm "PathScanner" 164 13 1442 2250 (M 17), gm "PathScanner" 164 14 1449 2260 (M 17), [tp [(xs "at" 2269), (xs "found" 2270), (xs "text" 2271)]], [dc [en P "__module__" 2136 (M 17), en P "__firstlineno__" 2140 (xi 953 2139), en P "__init__" 2148 (xr 1356), en P "sign" 2158 (xr 1364), en P "add" 2168 (xr 1371), en P "run" 2175 (xr 1378), en P "skip" 2182 (xr 1385), en P "is_behind_operand" 2190 (xr 1392), en P "step" 2198 (xr 1399), en P "number" 2206 (xr 1406), en P "figures" 2213 (xr 1413), en P "literal" 2223 (xr 1420), en P "variable" 2232 (xr 1427), en P "plain_name" 2240 (xr 1434), en P "qualified" 2249 (xr 1441), en P "name" 2259 (xr 1448), en P "mark" 2268 (xr 1455), en P "__static_attributes__" 2272 (xr 1456), en P "__dict__" 2274 (xr 1459), en P "__weakref__" 2276 (xr 1460), en P "__doc__" 2277 .none] 4], [ty "PathScanner" [(.type "object")] [(xr 1458), (.type "object")] 1457 "PathScanner" [] [none, none, some (xs "PathScanner" 2129), some (xs "PathScanner" 2137), some (.builtin "object.__new__"), some (.bool true)]], [gsd 2273 1458], [gsw 2275 1458], [su 1458], [is0 1458], gd  165 1463 2280 (M 17), [tp [(xs "ancestor" 2296), (xs "ancestor-or-self" 2297), (xs "attribute" 2298), (xs "child" 2299), (xs "descendant" 2300), (xs "descendant-or-self" 2301), (xs "following" 2302), (xs "following-sibling" 2303), (xs "namespace" 2304), (xs "parent" 2305), (xs "preceding" 2306), (xs "preceding-sibling" 2307), (xs "self" 2308)]]]
noncomputable def oc4 (P : Params) : List Obj := List.flatten [
 [dc [en P "or" 2310 (xi 1 2311), en P "and" 2312 (xi 2 2313), en P "=" 2314 (xi 3 2315), en P "!=" 2316 (xi 3 2317), en P "<" 2318 (xi 4 2319), en P "<=" 2320 (xi 4 2321), en P ">" 2322 (xi 4 2323), en P ">=" 2324 (xi 4 2325), en P "+" 2326 (xi 5 2327), en P "-" 2328 (xi 5 2329), en P "*" 2330 (xi 6 2331), en P "div" 2332 (xi 6 2333), en P "mod" 2334 (xi 6 2335)] 13]]
noncomputable def oc5 (P : Params) : List Obj := List.flatten [
 [tp [(xs "literal" 2350), (xs "number" 2351), (xs "variable" 2352), (xs "function" 2353)]], gd  173 1473 2355 (M 18), gd  174 1480 2362 (M 18), gd  175 1487 2372 (M 18), gd  176 1494 2382 (M 18), gc  177 1501 2389 (M 18), [tp []], [pp0], [dc [en P "__module__" 2402 (M 18), en P "__qualname__" 2404 (xs "PathReader" 2403), en P "__firstlineno__" 2406 (xi 1123 2405), en P "__init__" 2414 (xr 1519), en P "here" 2421 (xr 1526), en P "go" 2429 (xr 1533), en P "refuse" 2437 (xr 1540), en P "need" 2445 (xr 1547), en P "whole" 2453 (xr 1554), en P "expression" 2467 (xr 1562), en P "counted" 2475 (xr 1569), en P "level" 2483 (xr 1576), en P "negated" 2493 (xr 1583), en P "union" 2502 (xr 1590), en P "path" 2510 (xr 1597), en P "from_primary" 2519 (xr 1604), en P "primary" 2525 (xr 1609), en P "arguments" 2533 (xr 1616), en P "is_step" 2541 (xr 1623), en P "steps" 2549 (xr 1630), en P "one_step" 2558 (xr 1637), en P "axis" 2566 (xr 1644), en P "test" 2575 (xr 1651), en P "predicates" 2583 (xr 1658), en P "__static_attributes__" 2587 (xr 1659)] 25], [tp []], [fl [(xi 1125 0), (xi 4 0), (xr 1518), (xi 1130 0), (xi 4 0), (xr 1525), (xi 1133 0), (xi 4 0), (xr 1532), (xi 1139 0), (xi 4 0), (xr 1539), (xi 1142 0), (xi 4 0), (xr 1546), (xi 1147 0), (xi 4 0), (xr 1553), (xi 1155 0), (xi 4 0), (xr 1561), (xi 1168 0), (xi 4 0), (xr 1568), (xi 1173 0), (xi 4 0), (xr 1575), (xi 1177 0), (xi 4 0), (xr 1582), (xi 1189 0), (xi 4 0), (xr 1589), (xi 1196 0), (xi 4 0), (xr 1596), (xi 1208 0), (xi 4 0), (xr 1603), (xi 1221 0), (xi 4 0), (xr 1608), (xi 1237 0), (xi 4 0), (xr 1615), (xi 1248 0), (xi 4 0), (xr 1622), (xi 1252 0), (xi 4 0), (xr 1629), (xi 1260 0), (xi 4 0), (xr 1636), (xi 1270 0), (xi 4 0), (xr 1643), (xi 1283 0), (xi 4 0), (xr 1650), (xi 1297 0), (xi 4 0), (xr 1657)]], [cc "PathReader" 2397 1123 1509], [fc 1511 1508 (M 18)], gm "PathReader" 178 0 1513 2407 (M 18), gm "PathReader" 178 1 1520 2415 (M 18), gm "PathReader" 178 2 1527 2422 (M 18), gm "PathReader" 178 3 1534 2430 (M 18), gm "PathReader" 178 4 1541 2438 (M 18), gm "PathReader" 178 5 1548 2446 (M 18), [tp [(xi 1 2454)]], gmD "PathReader" 178 6 1556 2455 (M 18) (xr 1555), gm "PathReader" 178 7 1563 2468 (M 18), gm "PathReader" 178 8 1570 2476 (M 18), gm "PathReader" 178 9 1577 2484 (M 18), gm "PathReader" 178 10 1584 2494 (M 18), gm "PathReader" 178 11 1591 2503 (M 18), gm "PathReader" 178 12 1598 2511 (M 18), gn "PathReader" 178 13 1605 2520 (M 18), gm "PathReader" 178 14 1610 2526 (M 18), gm "PathReader" 178 15 1617 2534 (M 18), gm "PathReader" 178 16 1624 2542 (M 18), gm "PathReader" 178 17 1631 2550 (M 18), gm "PathReader" 178 18 1638 2559 (M 18), gm "PathReader" 178 19 1645 2567 (M 18), gm "PathReader" 178 20 1652 2576 (M 18), [tp [(xs "at" 2584), (xs "depth" 2585), (xs "words" 2586)]], [dc [en P "__module__" 2402 (M 18), en P "__firstlineno__" 2406 (xi 1123 2405), en P "__init__" 2414 (xr 1519), en P "here" 2421 (xr 1526), en P "go" 2429 (xr 1533), en P "refuse" 2437 (xr 1540), en P "need" 2445 (xr 1547), en P "whole" 2453 (xr 1554), en P "expression" 2467 (xr 1562), en P "counted" 2475 (xr 1569), en P "level" 2483 (xr 1576), en P "negated" 2493 (xr 1583), en P "union" 2502 (xr 1590), en P "path" 2510 (xr 1597), en P "from_primary" 2519 (xr 1604), en P "primary" 2525 (xr 1609), en P "arguments" 2533 (xr 1616), en P "is_step" 2541 (xr 1623), en P "steps" 2549 (xr 1630), en P "one_step" 2558 (xr 1637), en P "axis" 2566 (xr 1644), en P "test" 2575 (xr 1651), en P "predicates" 2583 (xr 1658), en P "__static_attributes__" 2587 (xr 1659), en P "__dict__" 2589 (xr 1662), en P "__weakref__" 2591 (xr 1663), en P "__doc__" 2592 .none] 4], [ty "PathReader" [(.type "object")] [(xr 1661), (.type "object")] 1660 "PathReader" [] [none, none, some (xs "PathReader" 2395), some (xs "PathReader" 2403), some (.builtin "object.__new__"), some (.bool true)]], [gsd 2588 1661], [gsw 2590 1661], 
 [su 1661], [is0 1661], gd  179 1666 2595 (M 18), gd  181 1673 2604 (M 19), gd  182 1680 2615 (M 19), gd  183 1687 2624 (M 19), gd  184 1694 2632 (M 19), gd  185 1701 2645 (M 19), gc  186 1708 2655 (M 19), gc  187 1713 2661 (M 19)]
noncomputable def mainE (P : Params) : List DictEntry := [
 en P "__doc__" 166 .none, en P "__package__" 167 .none, en P "__loader__" 168 (.builtin "__main__.__loader__#opaque"), en P "__spec__" 169 .none, en P "__annotations__" 170 (xr 6), en P "__builtins__" 171 (xr 4), en P "__file__" 173 (xs "/claim/cut.py" 172), en P "__cached__" 174 .none, en P "_wall" 193 (xr 21), en P "NAN" 198 (xr 22), en P "INFINITY" 201 (xr 23), en P "ZERO" 204 (xr 24), en P "SPACES_numbers" 206 (xs " \t\n\x0d" 205), en P "DIGITS" 208 (xs "0123456789" 207), en P "MOST_FIGURES_numbers" 210 (xi 400 209), en P "MOST" 213 (xi 10000000000000000000000000000000000000000000000000000000000000000000000000000000000000000000000000000000000000000000000000000000000000000000000000000000000000000000000000000000000000000000000000000000000000000000000000000000000000000000000000000000000000000000000000000000000000000000000000000000000000000000000000000000000000000000000000000000000000000000000000000000000000000000000000000000000000000 212), en P "common_divisor" 223 (xr 31), en P "sign_of" 230 (xr 38), en P "number_of" 240 (xr 46), en P "is_nan" 247 (xr 53), en P "negated" 254 (xr 60), en P "plus" 262 (xr 67), en P "minus" 270 (xr 74), en P "times" 278 (xr 81), en P "divided" 286 (xr 88), en P "modulo" 296 (xr 95), en P "order_of" 304 (xr 102), en P "compared_numbers" 314 (xr 109), en P "floor_of" 321 (xr 116), en P "ceiling_of" 328 (xr 123), en P "rounded" 335 (xr 130), en P "digits_end" 343 (xr 137), en P "trimmed" 352 (xr 144), en P "whole_of" 361 (xr 151), en P "read_number" 375 (xr 158), en P "number_of_digits" 386 (xr 165), en P "write_number" 401 (xr 173), en P "lines_marked" 416 (xr 180), en P "sorted_beneath" 422 (xr 185), en P "in_order" 428 (xr 190), 
 en P "beneath" 439 (xr 197), en P "string_value" 445 (xr 202), en P "as_text" 455 (xr 209), en P "as_number" 463 (xr 216), en P "as_truth" 471 (xr 223), en P "is_equality" 478 (xr 230), en P "compared_texts" 487 (xr 237), en P "compared_plain" 497 (xr 244), en P "as_compared" 503 (xr 249), en P "some_pair" 514 (xr 256), en P "texts_of" 520 (xr 261), en P "listed" 530 (xr 268), en P "compared" 540 (xr 275), en P "MarkupError" 571 (xr 292), en P "TreeFault" 587 (xr 305), en P "PathFault" 603 (xr 317), en P "SPACES_chars" 607 (xs " \t\n\x0d" 606), en P "START_RANGES" 632 (xr 332), en P "MORE_RANGES" 639 (xr 336), en P "FIRST_BEYOND" 641 (xi 128 640), en P "is_in_ranges" 651 (xr 343), en P "is_space" 658 (xr 350), en P "is_small_letter" 665 (xr 357), en P "is_name_start" 672 (xr 364), en P "is_name_char" 679 (xr 371), en P "space_split" 689 (xr 378), en P "collapsed" 696 (xr 385), en P "nodes_of" 705 (xr 392), en P "counted" 712 (xr 399), en P "summed" 722 (xr 406), en P "told_node" 731 (xr 413), en P "name_part" 741 (xr 420), en P "id_texts" 751 (xr 427), en P "elements_by_ids" 764 (xr 434), en P "language_of" 773 (xr 441), en P "speaks" 782 (xr 448), en P "call_of_sets" 791 (xr 455), en P "starts_with" 801 (xr 462), en P "contains" 809 (xr 469), en P "before" 818 (xr 476), 
 en P "after" 827 (xr 483), en P "within" 836 (xr 490), en P "substring" 848 (xr 498), en P "translated" 860 (xr 505), en P "normalized" 867 (xr 512), en P "told_value" 877 (xr 519), en P "call_of_truths" 887 (xr 526), en P "call_of_numbers" 897 (xr 533), en P "call_of_two_texts" 906 (xr 540), en P "call_of_texts" 912 (xr 545), en P "SETS" 924 (xr 546), en P "TRUTHS" 929 (xr 547), en P "NUMBERS" 934 (xr 548), en P "TEXTS" 945 (xr 549), en P "NONE_LET" 950 (xr 550), en P "ONE_AT_MOST" 958 (xr 551), en P "TWO_WANTED" 963 (xr 552), en P "MANY" 965 (xi 1000 964), en P "is_core" 972 (xr 559), en P "bounds_of" 979 (xr 566), en P "check_many" 989 (xr 573), en P "call_core" 998 (xr 580), en P "is_beside" 1008 (xr 587), en P "descendants" 1019 (xr 594), en P "ancestors" 1029 (xr 601), en P "siblings_ahead" 1039 (xr 608), en P "siblings_behind" 1049 (xr 615), en P "with_descendants" 1059 (xr 622), en P "following" 1069 (xr 629), en P "preceding" 1080 (xr 636), en P "namespaces_in_scope" 1086 (xr 641), en P "short_axis" 1096 (xr 648), en P "axis" 1106 (xr 655), en P "principal_kind" 1115 (xr 662), en P "bound_uri" 1123 (xr 669), en P "is_named" 1135 (xr 676), en P "passes" 1148 (xr 683), en P "holds" 1158 (xr 690), en P "kept" 1172 (xr 697), en P "step_from" 1178 (xr 702), 
 en P "unlike" 1187 (xr 709), en P "after_step" 1200 (xr 716), en P "steps_from" 1212 (xr 723), en P "rows_of" 1220 (xr 728), en P "Literal" 1256 (xr 752), en P "NumberNode" 1292 (xr 780), en P "VariableNode" 1328 (xr 808), en P "Call" 1366 (xr 836), en P "Binary" 1406 (xr 864), en P "Negated" 1442 (xr 892), en P "Filter" 1480 (xr 920), en P "Path" 1519 (xr 948), en P "Step" 1559 (xr 976), en P "COMPARISONS" 1568 (xr 981), en P "needs_nodes" 1575 (xr 988), en P "reckoned" 1584 (xr 995), en P "united" 1590 (xr 1000), en P "asker" 1599 (xr 1007), en P "of_binary" 1611 (xr 1014), en P "of_call" 1617 (xr 1019), en P "of_filter" 1626 (xr 1026), en P "of_path" 1636 (xr 1033), en P "evaluate" 1644 (xr 1040), en P "Context" 1723 (xr 1079), en P "PARENTS" 1728 (xr 1084), en P "NodeRow" 1770 (xr 1101), en P "Tree" 2023 (xr 1290), en P "FIGURES" 2027 (xs "0123456789" 2026), en P "PAIRS" 2034 (xr 1295), en P "OPERATORS" 2046 (xr 1296), en P "SIGNS" 2056 (xr 1297), en P "WORD_OPERATORS" 2061 (xr 1298), en P "KINDS_OF_NODES" 2066 (xr 1299), en P "BEHIND_NO_OPERAND" 2072 (xr 1300), en P "Word" 2128 (xr 1338), en P "PathScanner" 2279 (xr 1458), en P "path_words" 2286 (xr 1469), en P "MOST_HEIGHT" 2290 (xi 60 2289), en P "MOST_DEPTH" 2293 (xi 180 2292), en P "MOST_FIGURES_xpath_grammar" 2295 (xi 400 2294), 
 en P "AXES" 2309 (xr 1470), en P "LEVELS" 2349 (xr 1471), en P "PRIMARY_KINDS" 2354 (xr 1472), en P "any_step" 2361 (xr 1479), en P "name_test" 2371 (xr 1486), en P "number_value" 2381 (xr 1493), en P "parts_of" 2388 (xr 1500), en P "height_of" 2394 (xr 1505), en P "PathReader" 2594 (xr 1661), en P "parse_path" 2601 (xr 1672), en P "_law_pool" 2614 (xr 1679), en P "_law_take" 2623 (xr 1686), en P "_law_one" 2631 (xr 1693), en P "_law_grown" 2644 (xr 1700), en P "_law_walk" 2654 (xr 1707), en P "_law_paths_right" 2660 (xr 1712), en P "law" 2666 (xr 1717)]
noncomputable def tabF : List (Nat × Nat) := [(1, 20), (12, 30), (17, 37), (23, 45), (33, 52), (35, 59), (37, 66), (47, 73), (49, 80), (55, 87), (65, 94), (72, 101), (76, 108), (91, 115), (93, 122), (95, 129), (97, 136), (101, 143), (108, 150), (113, 157), (126, 164), (135, 172), (152, 179), (162, 184), (168, 189), (178, 196), (186, 201), (191, 208), (199, 215), (205, 222), (213, 229), (215, 236), (217, 243), (224, 248), (228, 255), (237, 260), (239, 267), (245, 274), (252, 281), (257, 301), (259, 313), (266, 342), (273, 349), (275, 356), (277, 363), (281, 370), (287, 377), (295, 384), (298, 391), (302, 398), (304, 405), (309, 412), (314, 419), (322, 426), (329, 433), (337, 440), (345, 447), (351, 454), (366, 461), (368, 468), (370, 475), (373, 482), (376, 489), (380, 497), (389, 504), (398, 511), (401, 518), (403, 525), (408, 532), (415, 539), (421, 544), (446, 558), (448, 565), (460, 572), (464, 579), (476, 586), (478, 593), (485, 600), (491, 607), (497, 614), (503, 621), (509, 628), (519, 635), (529, 640), (542, 647), (560, 654), (578, 661), (580, 668), (586, 675), (591, 682), (606, 689), (612, 696), (621, 701), (624, 708), (629, 715), (634, 722), (639, 727), (641, 734), (648, 762), (655, 790), (662, 818), (670, 846), (679, 874), (686, 902), (694, 930), (705, 958), (716, 987), (720, 994), (728, 999), (730, 1006), (735, 1013), (748, 1018), (755, 1025), (758, 1032), (767, 1039), (784, 1046), (813, 1090), (825, 1111), (938, 1306), (953, 1348), (1083, 1468), (1092, 1478), (1094, 1485), (1101, 1492), (1104, 1499), (1116, 1504), (1123, 1511), (1304, 1671), (1307, 1678), (1312, 1685), (1319, 1692), (1321, 1699), (1335, 1706), (1340, 1711), (1350, 1716)]
noncomputable def tabV : List (Nat × Nat) -> List Value
 | [] => []
 | x :: r => xi x.1 0 :: xi 0 0 :: xr x.2 :: tabV r
noncomputable def alt {α : Type} : List α -> List α × List α
 | [] => ([], [])
 | x :: r => match alt r with
  | (a, b) => (x :: b, a)
noncomputable def ofL : Nat -> List Obj -> BT
 | 0, _ => .nil
 | _ + 1, [] => .nil
 | n + 1, o :: r => match alt r with
  | (a, b) => .node o (ofL n a) (ofL n b)
noncomputable def o13 : Obj := ob "code" [xs "<module>" 182, xs "<module>" 183, xf 184, xi 1 0, xi 0 0, xi 0 0, xi 0 0, xi 0 0, xr 11, .bool false, xi 181 0, xr 12, .none, .none, .none, .none, xi 185 0, xi 1 0, xf 186]
noncomputable def o14 : Obj := fr [some (xr 13), some (xr 3), some (xr 3), none, some (xs "__main__" 164), none, some (xr 0)]
noncomputable def hd15 (P : Params) (o2 o3 o12 : Obj) (l : List Obj) : List Obj := boot_o_0 P :: boot_o_1 P :: o2 :: o3 :: boot_o_4 P :: boot_o_5 P :: boot_o_6 P :: boot_o_7 P :: boot_o_8 P :: boot_o_9 P :: boot_o_10 P :: tp [] :: o12 :: o13 :: o14 :: l
noncomputable def stS (P : Params) : Obj := { cls := .none, data := .dict ⟨[en P "type.__subclasses__.Exception.0" 568 (xi 292 0), en P "type.__subclasses__.Exception.n" 569 (xi 1 0)]⟩ 2 }
noncomputable def mkS (w : World) (os : OsState) (m : Nat) (nm : Value) (k : Nat) (l : List Obj) (n t : Nat) : SharedT := ⟨ofL 12 (hd15 w.params (stS w.params) (dc (en w.params "__name__" 165 nm :: (mainE w.params).take (m - 1)) m) (fl (tabV (tabF.take k))) l), n, {}, #[], boot_drawn, t, os⟩
noncomputable def hS0 (w : World) (os : OsState) : SharedT := ⟨ofL 12 (hd15 w.params (boot_o_2 w.params) (boot_o_3 w.params) (fl []) []), 15, {}, #[], boot_drawn, 187, os⟩
noncomputable def hS1 (w : World) (os : OsState) : SharedT := mkS w os 83 (xs "markupmill.strings" 792) 63 (oc0 w.params) 491 837
noncomputable def hS2 (w : World) (os : OsState) : SharedT := mkS w os 129 (xs "markupmill.xpath_nodes" 1213) 101 (oc0 w.params ++ oc1 w.params) 841 1367
noncomputable def hS3 (w : World) (os : OsState) : SharedT := mkS w os 145 (xs "markupmill.context" 1645) 116 (oc0 w.params ++ (oc1 w.params ++ oc2 w.params)) 1084 1724
noncomputable def hS4 (w : World) (os : OsState) : SharedT := mkS w os 162 (xs "markupmill.xpath_grammar" 2287) 121 (oc0 w.params ++ (oc1 w.params ++ (oc2 w.params ++ oc3 w.params))) 1471 2310
noncomputable def ocA (P : Params) : List Obj := oc0 P ++ (oc1 P ++ (oc2 P ++ (oc3 P ++ oc4 P)))
noncomputable def hS5 (w : World) (os : OsState) : SharedT := mkS w os 163 (xs "markupmill.xpath_grammar" 2287) 121 (ocA w.params) 1472 2350
noncomputable def treeF (P : Params) : BT := ofL 12 (hd15 P (stS P) (dc (en P "__name__" 165 (xs "law_sm0080_01" 2602) :: mainE P) 178) (fl (tabV tabF)) (oc0 P ++ (oc1 P ++ (oc2 P ++ (oc3 P ++ (oc4 P ++ oc5 P))))))
noncomputable def hS6 (w : World) (os : OsState) : SharedT := ⟨treeF w.params, 1718, {}, #[], boot_drawn, 2667, os⟩
noncomputable abbrev hB : List Stmt := behindTheImports pw
noncomputable abbrev hEnv : Env := { scope := pw.main.scope, locals := mainNs, globals := mainNs, cells := [], code := .ref 13, frame := some 14 }
noncomputable abbrev hC : Code := .body hB hEnv
noncomputable abbrev hF : List Frame := [topFrame ⟨0, 0, 0, 0⟩]
noncomputable abbrev annV : Option Value := some (.ref 6)
noncomputable abbrev segW := PySem.W.Fast.tw10110043849684766642
noncomputable abbrev tabW := PySem.W.Fast.tw14364793385576792824
noncomputable def hPos : Nat -> Pos
 | 0 => ⟨0, 0, 0, 0⟩
 | 1 => ⟨376, 0, 379, 41⟩
 | 2 => ⟨662, 0, 669, 59⟩
 | 3 => ⟨784, 0, 810, 33⟩
 | 4 => ⟨1089, 0, 1089, 4⟩
 | 5 => ⟨1090, 0, 1090, 6⟩
 | _ => ⟨1350, 0, 1368, 93⟩
noncomputable def hSts : Nat -> List Stmt
 | 0 => hB.take 81
 | 1 => (hB.drop 81).take 52
 | 2 => (hB.drop 133).take 18
 | 3 => (hB.drop 151).take 20
 | 4 => (hB.drop 171).take 1
 | _ => hB.drop 172
noncomputable def hRun (w : World) (k : Nat) (s : SharedT) : Option (Flow × SharedT × Code × Pos) := segW tabW pw w 11 annV 1 4000 s (piecesOf (hSts k) hEnv hC (hPos k) hF)
theorem hseg0 (w : World) (os : OsState) : hRun w 0 (hS0 w os) = some (.next, hS1 w os, hC, hPos 1) := by
 kernel_rfl
theorem hseg1 (w : World) (os : OsState) : hRun w 1 (hS1 w os) = some (.next, hS2 w os, hC, hPos 2) := by
 kernel_rfl
theorem hseg2 (w : World) (os : OsState) : hRun w 2 (hS2 w os) = some (.next, hS3 w os, hC, hPos 3) := by
 kernel_rfl
theorem hseg3 (w : World) (os : OsState) : hRun w 3 (hS3 w os) = some (.next, hS4 w os, hC, hPos 4) := by
 kernel_rfl
noncomputable abbrev row1 : String := "special-get-raises"
theorem hseg4f (w : World) (os : OsState) : hRun (w.withFollow row1 false) 4 (hS4 w os) = some (.next, hS5 w os, hC, hPos 5) := by
 kernel_rfl
theorem hseg4t (w : World) (os : OsState) : hRun (w.withFollow row1 true) 4 (hS4 w os) = some (.next, hS5 w os, hC, hPos 5) := by
 kernel_rfl
theorem hseg5 (w : World) (os : OsState) : hRun w 5 (hS5 w os) = some (.next, hS6 w os, hC, hPos 6) := by
 kernel_rfl
noncomputable section
noncomputable def tabsT : List Nat := [1002, 182]
noncomputable def codeL : List (Str × (Nat × Nat)) := [("asker.<locals>.value_of", (1006, 1002)), ("sorted_beneath.<locals>.<lambda>", (184, 182))]
noncomputable def notT (a : Nat) : Bool := Nat.blt a 1718 && !(tabsT.contains a)
noncomputable def vrB : V -> Value -> Bool
 | .none, u => u == .none
 | .bool _, _ => false
 | .int i, u => Value.isInt i u
 | .str s, u => Value.isStrOf s u
 | .ref r i, u => Nat.beq r 0 && notT i && u == .ref i
 | .bi a, u => u == .builtin a
 | .ty a, u => u == .type a
noncomputable def uR : Value -> Option Nat
 | .ref a => some a
 | _ => none
noncomputable def dcase (d : Data) (F : Array Value -> Bool) (S : Array Value -> Bool) (D : Array DictEntry -> Nat -> Bool) (P : Bool) : Bool := match d with
 | .fields vs => F vs
 | .seq us _ => S us
 | .dict es n => D es n
 | .plain => P
 | _ => false
noncomputable def dF (o : Obj) (F : Array Value -> Bool) : Bool := dcase o.data F (fun _ => false) (fun _ _ => false) false
noncomputable def dD (o : Obj) (D : Array DictEntry -> Nat -> Bool) : Bool := dcase o.data (fun _ => false) (fun _ => false) D false
noncomputable def obK (c : Value) (d : Option Addr) (o : Obj) : Bool := o.cls == c && o.dict == d
noncomputable def tupB (f : List Value -> Bool) (o : Obj) : Bool := obK (.type "tuple") none o && o.slots.isEmpty && dcase o.data (fun _ => false) (fun us => f us.toList) (fun _ _ => false) false
noncomputable def vrsB : List V -> List Value -> Bool
 | [], [] => true
 | x :: xs, u :: us => vrB x u && vrsB xs us
 | _, _ => false
noncomputable def kAddr : List Nat := clTab.map (·.1) ++ clTab.map (fun p => p.1 - 1) ++ fnTab.map (·.1)
noncomputable def kOf (g : Nat -> Option Obj) : Frag := kAddr.filterMap fun a => (g a).map fun o => (a, o)
noncomputable def clB (K : Frag) (C : Nat) (c : Cl) : Bool :=
 findIn K (.ref C) "__getattribute__" == some (some (.builtin "object.__getattribute__")) && findIn K (.ref C) "__setattr__" == some (some (.builtin "object.__setattr__")) && plainOver K C && (clsIn K C).any (·.hasDict) &&
 c.fields.all (fun x => findIn K (.ref C) x == some none) && c.meths.all (fun p => findIn K (.ref C) p.1 == some (some (.ref p.2)) && typeIn K (.ref p.2) == some (.type "function") && notT p.2) && makesIn K C &&
 (findIn K (.ref C) "__init__" == some (some (.ref c.init)) && typeIn K (.ref c.init) == some (.type "function") && notT c.init && (pgT.cls c.init).isNone) && keepIn K (.ref C) && (pgT.fns C).isNone && plainGet K C "__class__" &&
 findIn K (.ref C) "__class__" == some (some (.builtin "object.__class__")) && mroIn K C (.type "object") == some true
noncomputable def kB (K : Frag) : Bool := isiBasics.all (fun T => isiNames.all fun n => kitOne K (.type T) (.type n) == some (T == n)) &&
 clTab.all (fun p => isiBasics.all (fun T => kitOne K (.type T) (.ref p.1) == some false) && isiNames.all (fun n => kitOne K (.ref p.1) (.type n) == some false) && clTab.all (fun q => kitOne K (.ref p.1) (.ref q.1) == some (p.2.mro.contains q.1)) && clB K p.1 p.2) &&
 specialIn K (.builtin "object.__class__") "__get__" == some (some (.builtin "getset_descriptor.__get__")) && takesIn K (.builtin "object.__class__") == some true
noncomputable def dfB (g : Nat -> Option Obj) (v : Value) (ds : List V) : Bool := match uR v with
 | some T => notT T && (g T).any (tupB (vrsB ds))
 | none => v == .none && ds.isEmpty
noncomputable def cdB (g : Nat -> Option Obj) (fn : Fn) (q : Str) (v : Value) : Bool := (uR v).any fun c => notT c && (g c).any (fun o => dF o fun vs => (vs.toList[1]?).any (Value.isStrOf q)) && (pgT.nest (fn.qual ++ ".<locals>.")).all fun q => (codeL.lookup q).any fun p => Nat.beq p.1 c
noncomputable def fnB (g : Nat -> Option Obj) (a : Nat) (fn : Fn) (fd : FuncData) : Bool := notT a && Nat.beq fd.globals 3 && Nat.beq fd.builtins 0 && fd.closure.isEmpty && (fn.scope.kind == .function) && !fn.scope.isCoroutine && !fn.scope.isGenerator && fd.params.posonlyargs.isEmpty && fd.params.vararg.isNone && fd.params.kwonlyargs.isEmpty && fd.params.kwarg.isNone &&
 decide fn.params.Nodup && Nat.ble fn.dflt.length fn.params.length && dfB g fd.defaults fn.dflt && cdB g fn fd.qualname fd.code
noncomputable def fnO (g : Nat -> Option Obj) (p : Nat × Option Fn) : Option (FuncBody × Scope × Str × List Str × Bool) := match g p.1, p.2 with
 | some ⟨_, _, .func fd, _⟩, some fn => some (fd.body, fd.scope, fd.qualname, fd.params.args.map (·.arg), fnB g p.1 fn fd)
 | _, _ => none
noncomputable def fnW (p : Nat × Option Fn) : Option (FuncBody × Scope × Str × List Str × Bool) := p.2.map fun fn => (.stmts fn.body, fn.scope, fn.qual, fn.params, true)
noncomputable def lEq : List Nat -> List Nat -> Bool
 | [], [] => true
 | a :: r, b :: s => Nat.beq a b && lEq r s
 | _, _ => false
noncomputable def sEq (a b : Str) : Bool := lEq a.cps.toList b.cps.toList
noncomputable def kIs (v : Value) (x : Str) : Bool := match v with
 | .str s _ => sEq s x
 | _ => false
noncomputable def fndL (x : Str) : List DictEntry -> Option Value
 | [] => none
 | e :: r => match kIs e.key x with
  | true => some e.val
  | false => fndL x r
noncomputable def nsE (g : Nat -> Option Obj) (a : Nat) : List DictEntry := match g a with
 | some ⟨_, _, .dict es _, _⟩ => es.toList
 | _ => []
noncomputable def skB : List DictEntry -> Bool
 | [] => true
 | e :: r => (match e.key with
  | .str _ _ => true
  | _ => false) && skB r
noncomputable def isD (g : Nat -> Option Obj) (a : Nat) : Bool := (g a).any fun o => dD o fun es _ => skB es.toList
noncomputable def glB (g : Nat -> Option Obj) : Bool := isD g 3 && isD g 0 && isD g 2 && glTab.all (fun p => (fndL p.1 (nsE g 3)).any (vrB p.2)) && blTab.all (fun p => (fndL p.1 (nsE g 3)).isNone && (fndL p.1 (nsE g 0)).any (vrB p.2)) &&
 (fndL "law" (nsE g 3) == some (.ref 1717)) && (fndL "sys.recursionlimit" (nsE g 2)).isNone
noncomputable def bmB (g : Nat -> Option Obj) : Bool := fndL "__builtins__" (nsE g 3) == some (.ref 4) && (g 4).any fun o => obK (.type "module") (some 0) o && dcase o.data (fun _ => false) (fun _ => false) (fun _ _ => false) true
noncomputable def nI : Value -> Bool
 | .int _ _ => true
 | _ => false
noncomputable def nB : Value -> Bool
 | .bool _ => true
 | _ => false
noncomputable def nS : Value -> Bool
 | .str _ _ => true
 | _ => false
noncomputable def hdV (P : Nat) (vs : Array Value) : Bool := nI (vs.getD 7 .none) && nB (vs.getD 9 .none) && nI (vs.getD 10 .none) && vs[11]? == some (.ref P) && nS (vs.getD 18 .none)
noncomputable def hdO (P : Nat) (o : Obj) : Bool := (o.cls == .type "code") && dF o (hdV P)
noncomputable def hdB (g : Nat -> Option Obj) (c P : Nat) : Bool := (g c).any (hdO P)
noncomputable def tbB (g : Nat -> Option Obj) (P : Nat) : Bool := (g P).any fun o => obK .none none o && o.slots.isEmpty && dF o fun vs => vs.isEmpty
noncomputable def lvE : List (V × V) := match pgT.obj 1471 with
 | some (.dict es) => es
 | _ => []
noncomputable def skV (v : V) (u : Value) : Bool := match v with
 | .str s => Value.isStrOf s u
 | _ => false
noncomputable def drB : List (V × V) -> List DictEntry -> Bool
 | [], [] => true
 | x :: xs, e :: es => skV x.1 e.key && vrB x.2 e.val && drB xs es
 | _, _ => false
noncomputable def dicB (es : List (V × V)) (o : Obj) : Bool := obK (.type "dict") none o && o.slots.isEmpty && dD o fun kvs n => Nat.beq n kvs.toList.length && drB es kvs.toList
noncomputable def obB (g : Nat -> Option Obj) (p : Nat × O) : Bool := notT p.1 && match p.2 with
 | .tup xs => (g p.1).any (tupB (vrsB xs))
 | .dict es => Nat.beq p.1 1471 && (g p.1).any (dicB es)
 | _ => false
noncomputable def lvH (g : Nat -> Option Obj) : List Int := match g 1471 with
 | some ⟨_, _, .dict es _, _⟩ => es.toList.map (·.hash)
 | _ => []
noncomputable def lvW (w : World) : List Int := lvE.map fun x => match x.1 with
 | .str s => hashStr w s
 | _ => 0
noncomputable def rsB (g : Nat -> Option Obj) : Bool := bmB g && codeL.all (fun p => hdB g p.2.1 p.2.2 && tbB g p.2.2 && notT p.2.1) && obTab.all (obB g)
noncomputable def gT (P : Params) (a : Nat) : Option Obj := match Nat.blt a 1718 with
 | true => alive (((treeF P).get a).getD default)
 | false => none
end
theorem hc1 (P : Params) : fnTab.map (fnO (gT P)) = fnTab.map fnW := by
 kernel_rfl
theorem hc2 (P : Params) : kB (kOf (gT P)) = true := by
 kernel_rfl
theorem hc3 (P : Params) : glB (gT P) = true := by
 kernel_rfl
theorem hc4 (P : Params) : rsB (gT P) = true := by
 kernel_rfl
theorem hc5 (w : World) : lvH (gT w.params) = lvW w := by
 kernel_rfl
noncomputable section
noncomputable def lawdef : List Stmt := pw.main.body.drop (pw.main.body.length - 1)
noncomputable def qq : Program := { pw with main := { pw.main with body := lawdef } }
noncomputable def ll : List Str := pw.boundNames
noncomputable abbrev XtT : Shared -> Bool := fun _ => true
noncomputable def hF1 (P : Params) : Heap := absHeap (treeF P) 1718 {}
noncomputable abbrev Yf (s : Shared) : Heap := s.heap
noncomputable abbrev Ya (w : World) : Heap := hF1 w.params
theorem hlooks (w : World) : (fun os => ((staticsOk (importedModules pw.main.body) (boot_heap w.params) (hF1 w.params) && namesBound pw (hF1 w.params) && gensDone ⟨hF1 w.params, Array.mk [], boot_drawn, 2667, os⟩ && laidKept (boot_heap w.params) (hF1 w.params)),
    openSeen qq ll (importedModules pw.main.body) XtT true ⟨hF1 w.params, Array.mk [], boot_drawn, 2667, os⟩, Yf ⟨hF1 w.params, Array.mk [], boot_drawn, 2667, os⟩)) = fun _ => (true, openGood qq ll, Ya w) := by
 kernel_rfl
end
noncomputable abbrev hN : Nat := 25000
theorem hopen : ∀ w : World, (fencedOpening treeTable pw w hN).map (fun s => (s.heap, s.gens, s.drawn, s.toks)) = some (boot_heap w.params, Array.mk [], boot_drawn, boot_toks) :=
 boot_open (p := pw) rfl (by decide +kernel) fun _ => rfl
theorem hpre (w : World) (os : OsState) : topGo treeTable pw w 11 annV 12 ⟨boot_heap w.params, Array.mk [], boot_drawn, boot_toks, os⟩ (topStub pw) = some ((hS0 w os).abs, ⟨denote treeTable hC, hC, ⟨0, 0, 0, 0⟩, hF⟩) := by
 kernel_rfl
theorem hblock (w : World) (os : OsState) : segRun treeTable pw w 11 annV 1 1 (hS0 w os).abs (blockOf hB hEnv hC ⟨0, 0, 0, 0⟩ hF) = some (.next, (hS0 w os).abs, hC, ⟨0, 0, 0, 0⟩) := by
 kernel_rfl
theorem hfin (w : World) (s : Shared) : topRun treeTable pw w 11 annV 2 s ⟨doneF .next, hC, ⟨1350, 0, 1368, 93⟩, hF⟩ = some s := by
 kernel_rfl
theorem hsize (w : World) : ((boot_heap w.params).isNs mainGlobals && (Array.mk [] : Array GenState).size == 0, (boot_heap w.params).objs.size, (boot_heap w.params).nsMap mainGlobals "__annotations__") = (true, 11, annV) := by
 kernel_rfl
theorem seg_of {w : World} {k : Nat} {s s' : SharedT} {p : Pos} (h : hRun w k s = some (.next, s', hC, p)) : segRun treeTable pw w 11 annV 1 4000 s.abs (piecesOf (hSts k) hEnv hC (hPos k) hF) = some (.next, s'.abs, hC, p) := by
 refine segRun_of ?_;rw [PySem.W.Fast.te10110043849684766642, PySem.W.Fast.te14364793385576792824];exact h
theorem hseg4 (w : World) (os : OsState) : hRun w 4 (hS4 w os) = some (.next, hS5 w os, hC, hPos 5) := by
 have e := World.withFollow_self w row1;cases hb : w.params.followText row1 <;> rw [hb] at e
 ·have := hseg4f w os; rw [e] at this; exact this
 ·have := hseg4t w os; rw [e] at this; exact this
theorem hsts : hSts 0 ++ (hSts 1 ++ (hSts 2 ++ (hSts 3 ++ (hSts 4 ++ (hSts 5 ++ []))))) = hB := by
 have h : ∀ b : List Stmt, b.take 81 ++ ((b.drop 81).take 52 ++ ((b.drop 133).take 18 ++ ((b.drop 151).take 20 ++ ((b.drop 171).take 1 ++ (b.drop 172 ++ []))))) = b := fun b => by
  have d : ∀ i j, (b.drop i).take j ++ b.drop (i + j) = b.drop i := fun i j => by rw [<- List.drop_drop]; exact List.take_append_drop j _
  rw [List.append_nil, d 171 1, d 151 20, d 133 18, d 81 52, List.take_append_drop]
 exact h hB
theorem hrun (w : World) (os : OsState) : topRun treeTable pw w 11 annV (12 + (1 + (4000 + (4000 + (4000 + (4000 + (4000 + (4000 + 2)))))))) ⟨boot_heap w.params, Array.mk [], boot_drawn, boot_toks, os⟩ (topStub pw) = some ⟨hF1 w.params, Array.mk [], boot_drawn, 2667, os⟩ := by
 refine go_top (hpre w os) (piece_block (hblock w os) ?_);rw [<- hsts];exact piece_app (seg_of (hseg0 w os)) (piece_app (seg_of (hseg1 w os)) (piece_app (seg_of (hseg2 w os)) (piece_app (seg_of (hseg3 w os)) (piece_app (seg_of (hseg4 w os)) (piece_app (seg_of (hseg5 w os)) (piece_nil (hfin w _)))))))
theorem hleft : LeftO pw qq ll XtT Yf Ya hN := LeftO.of_pieces hopen hsize hrun (by decide +kernel) hlooks
section
open TablesWhole
section
theorem wSs_app (t : Scope) (cx : TablesWhole.Ctx) (sc : Scope) : ∀ a b : List Stmt, wSs holds t cx sc a = true -> wSs holds t cx sc b = true -> wSs holds t cx sc (a ++ b) = true
 | [], _, _, h => h
 | s :: r, b, h1, h2 => by
  have h1 : (wS holds t cx sc s && wSs holds t cx sc r) = true := h1;have h1 := Bool.and_eq_true_iff.mp h1;exact Bool.and_eq_true_iff.mpr ⟨h1.1, wSs_app t cx sc r b h1.2 h2⟩
noncomputable abbrev cxM (p : Program) : TablesWhole.Ctx := ⟨p.main.scope, [], [], [], none⟩
theorem tables_of (p : Program) (j k : Nat) (h1 : p.modules = []) (h2 : p.parses = []) (h3 : p.harvested = []) (t : wSs gather p.main.scope (cxM p) p.main.scope p.main.body = []) (n : noTwice p.main.scope = true)
  (w1 : wSs holds p.main.scope (cxM p) p.main.scope (p.main.body.take j) = true) (w2 : wSs holds p.main.scope (cxM p) p.main.scope ((p.main.body.drop j).take k) = true)
  (w3 : wSs holds p.main.scope (cxM p) p.main.scope ((p.main.body.drop j).drop k) = true) : p.tablesWhole = true := by
 have w := wSs_app _ _ _ _ _ w1 (wSs_app _ _ _ _ _ w2 w3);rw [List.take_append_drop, List.take_append_drop] at w;have m : wModule holds p.main = true := by
  unfold wModule;dsimp only;rw [t];show (noTwice p.main.scope && (wSs holds p.main.scope (cxM p) p.main.scope p.main.body && true)) = true;rw [n, w]
  rfl
 unfold Program.tablesWhole wProgram;rw [h1, h2, h3];exact Bool.and_eq_true_iff.mpr ⟨m, rfl⟩
theorem tw0 : wSs gather pw.main.scope (cxM pw) pw.main.scope pw.main.body = [] := by kernel_rfl
theorem tw1 : noTwice pw.main.scope = true := by kernel_rfl
theorem tw2 : wSs holds pw.main.scope (cxM pw) pw.main.scope (pw.main.body.take 60) = true := by kernel_rfl
theorem tw3 : wSs holds pw.main.scope (cxM pw) pw.main.scope ((pw.main.body.drop 60).take 60) = true := by kernel_rfl
theorem tw4 : wSs holds pw.main.scope (cxM pw) pw.main.scope ((pw.main.body.drop 60).drop 60) = true := by kernel_rfl
theorem hbare : pw.bare := ⟨rfl, rfl, rfl, rfl, rfl, tables_of pw 60 60 rfl rfl rfl tw0 tw1 tw2 tw3 tw4⟩
end
end
noncomputable abbrev Lw : OpenLaw := PySem.Challenge.rw_sm0080_01
theorem law_said (l : OpenLaw) (h1 : l.row.wellSaid = true) (h2 : (decide (l.foot <= (behindTheImports l.prog).length) && l.footing.all footLine) = true) (h3 : noClassBlock l.prog l.footing = true)
  (h4 : (l.most.all (fun n => decide (63 <= n)) && l.bound.all (fun n => decide (2 ^ 63 <= n))) = true) (h5 : noRoadLSs { strict := true, foot := some l.bound', writes := l.writes, may := l.may } l.footing = true)
  (h6 : (defStands l.about l.above && l.namesIt) = true) (h7 : ((["type", "isinstance", "issubclass", "getattr", "hasattr"] : List Str).all (fun n => l.about != [n])) = true)
  (h8 : (l.bound'.all (fun n => !builtinNamed n || l.about == [n] || !l.reads n)) = true) (h9 : (!l.writes || (l.prog.main.body.flatMap importedNames).all fun n => !l.reads n) = true)
  (h10 : ((l.prog.main.body.flatMap importedNames).all (fun n => !l.reads n || (drawsOf n l.prog.main.body).all fun mn => mn.2 != ("attrgetter" : Str) && mn.2 != ("methodcaller" : Str))) = true)
  (h11 : namesMeet l.prog l.footing (fun sc n => (!(["type", "isinstance", "issubclass", "getattr", "hasattr"] : List Str).contains n || sc.names.lookup n == some .globalImplicit) && (l.may != some n || sc.kind == .module || sc.names.lookup n == some .globalImplicit)) = true)
  (h12 : (l.own.contains l.name && l.own.eraseDups.length == l.own.length && l.own.all (fun n => !builtinNamed n)) = true) (h13 : namesMeet l.prog l.above (fun _ n => !l.own.contains n) = true)
  (h14 : namesMeet l.prog l.footing (fun sc n => sc.kind == .module || sc.names.lookup n != some .globalExplicit) = true) : l.wellSaid = true := by
 have ab : ∀ {a b : Bool}, (a && b) = true -> a = true /\ b = true := Bool.and_eq_true_iff.mp;unfold OpenLaw.wellSaid;obtain ⟨h2, h2'⟩ := ab h2;obtain ⟨h4, h4'⟩ := ab h4;obtain ⟨h6, h6'⟩ := ab h6;obtain ⟨h12, h12''⟩ := ab h12;obtain ⟨h12, h12'⟩ := ab h12;exact look_both (look_both (look_both (look_both (look_both (look_both (look_both (look_both (look_both (look_both (look_both (look_both (look_both (look_both (look_both (look_both (look_both (look_both h1 h2) h2') h3) h4) h4') h5) h6) h6') h7) h8) h9) h10) h11) h12) h12') h12'') h13) h14
theorem row_saidH (l : OpenLaw) (h1 : looksOpen l.prog = true) (h2 : l.row.toRowW.solid = true) (h3 : (l.row.pre.litsOk && l.row.post.litsOk) = true) (h4 : (l.prog.boundNames.contains l.name && !startupNames.contains l.name) = true) : l.row.wellSaid = true := by
 have ab : ∀ {a b : Bool}, (a && b) = true -> a = true /\ b = true := Bool.and_eq_true_iff.mp;refine look_both (look_both ?_ (ab h4).1) (ab h4).2;unfold OpenRow.partSaid;exact look_both (look_both (look_both (look_both (look_both (look_both (look_both (look_both (look_both (look_both (look_both (look_both (look_both h1 rfl) rfl) rfl) rfl) rfl) rfl) h2) (ab h3).1) (ab h3).2) rfl) rfl) rfl) rfl
theorem looks_said (p : Program) (h1 : sreFenced p.main = true) (h2 : ((moduleNames p.main.body).isEmpty || lookedIntoSs (moduleNames p.main.body) p.main.body) = true) (h3 : namesResolve p = true) (h4 : p.boundNames.all (fun n => !worldNames.contains n) = true)
  (h5 : noRoadLSs { strict := !(importedModules p.main.body).all cThrough.contains, foot := none, bare := (["vars", "dir", "locals"] : List Str).filter (readsOut p p.main.body) } p.main.body = true) (h6 : namesMeet p p.main.body (fun _ n => attrL n) = true) : looksOpen p = true :=
 look_both (look_both (look_both (look_both (look_both h1 h2) h3) h4) h5) h6
theorem w1 : sreFenced pw.main = true := by kernel_rfl
theorem w2 : ((moduleNames pw.main.body).isEmpty || lookedIntoSs (moduleNames pw.main.body) pw.main.body) = true := by kernel_rfl
theorem w3 : namesResolve pw = true := by kernel_rfl
theorem w4 : pw.boundNames.all (fun n => !worldNames.contains n) = true := by kernel_rfl
theorem w5a : (importedModules pw.main.body).all cThrough.contains = true := by kernel_rfl
theorem w5d : (["vars", "dir", "locals"] : List Str).filter (readsOut pw pw.main.body) = [] := by kernel_rfl
theorem w5b : noRoadLSs { strict := false, foot := none, bare := [] } (pw.main.body.take 90) = true := by kernel_rfl
theorem w5c : noRoadLSs { strict := false, foot := none, bare := [] } (pw.main.body.drop 90) = true := by kernel_rfl
theorem w6 : namesMeet pw pw.main.body (fun _ n => attrL n) = true := by kernel_rfl
theorem w7 : Lw.row.toRowW.solid = true := by kernel_rfl
theorem w8 : (Lw.row.pre.litsOk && Lw.row.post.litsOk) = true := by kernel_rfl
theorem w9 : (Lw.prog.boundNames.contains Lw.name && !startupNames.contains Lw.name) = true := by kernel_rfl
theorem v2 : (decide (Lw.foot <= (behindTheImports Lw.prog).length) && Lw.footing.all footLine) = true := by kernel_rfl
theorem v3 : noClassBlock Lw.prog Lw.footing = true := by kernel_rfl
theorem v4 : (Lw.most.all (fun n => decide (63 <= n)) && Lw.bound.all (fun n => decide (2 ^ 63 <= n))) = true := by kernel_rfl
theorem v5 : noRoadLSs { strict := true, foot := some Lw.bound', writes := Lw.writes, may := Lw.may } Lw.footing = true := by kernel_rfl
theorem v6 : (defStands Lw.about Lw.above && Lw.namesIt) = true := by kernel_rfl
theorem v7 : ((["type", "isinstance", "issubclass", "getattr", "hasattr"] : List Str).all (fun n => Lw.about != [n])) = true := by kernel_rfl
theorem v8 : (Lw.bound'.all (fun n => !builtinNamed n || Lw.about == [n] || !Lw.reads n)) = true := by kernel_rfl
theorem v9 : (!Lw.writes || (Lw.prog.main.body.flatMap importedNames).all fun n => !Lw.reads n) = true := by kernel_rfl
theorem v10 : ((Lw.prog.main.body.flatMap importedNames).all (fun n => !Lw.reads n || (drawsOf n Lw.prog.main.body).all fun mn => mn.2 != ("attrgetter" : Str) && mn.2 != ("methodcaller" : Str))) = true := by kernel_rfl
theorem v11 : namesMeet Lw.prog Lw.footing (fun sc n => (!(["type", "isinstance", "issubclass", "getattr", "hasattr"] : List Str).contains n || sc.names.lookup n == some .globalImplicit) && (Lw.may != some n || sc.kind == .module || sc.names.lookup n == some .globalImplicit)) = true := by kernel_rfl
theorem v12 : (Lw.own.contains Lw.name && Lw.own.eraseDups.length == Lw.own.length && Lw.own.all (fun n => !builtinNamed n)) = true := by kernel_rfl
theorem v13 : namesMeet Lw.prog Lw.above (fun _ n => !Lw.own.contains n) = true := by kernel_rfl
theorem v14 : namesMeet Lw.prog Lw.footing (fun sc n => sc.kind == .module || sc.names.lookup n != some .globalExplicit) = true := by kernel_rfl
theorem noRoad_app (o) : ∀ a b : List Stmt, noRoadLSs o a = true -> noRoadLSs o b = true -> noRoadLSs o (a ++ b) = true
 | [], b, _, h => h
 | s :: r, b, h1, h2 => by
  have h1 : (noRoadLS o s && noRoadLSs o r) = true := h1;show (noRoadLS o s && noRoadLSs o (r ++ b)) = true;exact look_both (Bool.and_eq_true_iff.mp h1).1 (noRoad_app o r b (Bool.and_eq_true_iff.mp h1).2 h2)
theorem noRoad_of (p : Program) (k : Nat) (e1 : (importedModules p.main.body).all cThrough.contains = true) (e2 : (["vars", "dir", "locals"] : List Str).filter (readsOut p p.main.body) = [])
  (h1 : noRoadLSs { strict := false, foot := none, bare := [] } (p.main.body.take k) = true) (h2 : noRoadLSs { strict := false, foot := none, bare := [] } (p.main.body.drop k) = true) :
  noRoadLSs { strict := !(importedModules p.main.body).all cThrough.contains, foot := none, bare := (["vars", "dir", "locals"] : List Str).filter (readsOut p p.main.body) } p.main.body = true := by
 have z := noRoad_app _ _ _ h1 h2;rw [List.take_append_drop] at z;rw [e1, e2];exact z
theorem w5 : noRoadLSs { strict := !(importedModules pw.main.body).all cThrough.contains, foot := none, bare := (["vars", "dir", "locals"] : List Str).filter (readsOut pw pw.main.body) } pw.main.body = true := noRoad_of pw 90 w5a w5d w5b w5c
theorem hsaid : Lw.wellSaid = true := law_said Lw (row_saidH Lw (looks_said pw w1 w2 w3 w4 w5 w6) w7 w8 w9) v2 v3 v4 v5 v6 v7 v8 v9 v10 v11 v12 v13 v14
theorem any_ok {α : Type} {o : Option α} {f : α -> Bool} (h : o.any f = true) : ∃ x, o = some x /\ f x = true := by
 cases o with
 | none => cases h
 | some x => exact ⟨x, rfl, h⟩
theorem uR_ok {v : Value} {a : Nat} (h : uR v = some a) : v = .ref a := by cases v <;> first | (cases h; rfl) | cases h
theorem dcase_ok {d : Data} {F S : Array Value -> Bool} {D : Array DictEntry -> Nat -> Bool} {P : Bool} (h : dcase d F S D P = true) : (∃ vs, d = .fields vs /\ F vs = true) \/ (∃ us n, d = .seq us n /\ S us = true) \/ (∃ es n, d = .dict es n /\ D es n = true) \/ (d = .plain /\ P = true) := by
 cases d <;> first | exact .inl ⟨_, rfl, h⟩ | exact .inr (.inl ⟨_, _, rfl, h⟩) | exact .inr (.inr (.inl ⟨_, _, rfl, h⟩)) | exact .inr (.inr (.inr ⟨rfl, h⟩)) | cases h
theorem dF_ok {o : Obj} {F : Array Value -> Bool} (h : dF o F = true) : ∃ vs, o.data = .fields vs /\ F vs = true := (dcase_ok h).elim id fun z => z.elim (fun ⟨_, _, _, z⟩ => nomatch z) fun z => z.elim (fun ⟨_, _, _, z⟩ => nomatch z) fun z => nomatch z.2
theorem dD_ok {o : Obj} {D : Array DictEntry -> Nat -> Bool} (h : dD o D = true) : ∃ es n, o.data = .dict es n /\ D es n = true := (dcase_ok h).elim (fun ⟨_, _, z⟩ => nomatch z) fun z => z.elim (fun ⟨_, _, _, z⟩ => nomatch z) fun z => z.elim id fun z => nomatch z.2
theorem and2 {a b : Bool} (h : (a && b) = true) : a = true /\ b = true := Bool.and_eq_true_iff.mp h
theorem obK_ok {c : Value} {d : Option Addr} {o : Obj} (h : obK c d o = true) : o.cls = c /\ o.dict = d := ⟨eq_of_beq (and2 h).1, eq_of_beq (and2 h).2⟩
theorem ob_ext {o : Obj} {c : Value} {d : Option Addr} {x : Data} (h : o.cls = c /\ o.dict = d) (h2 : o.slots.isEmpty = true) (h3 : o.data = x) : o = { cls := c, dict := d, data := x } := by
 obtain ⟨c', d', x', s⟩ := o;obtain ⟨e1, e2⟩ := h;have e4 := Array.isEmpty_iff.mp h2;subst e1 e2 h3 e4
 rfl
theorem tupB_ok {f : List Value -> Bool} {o : Obj} (h : tupB f o = true) : ∃ us n, o = { cls := .type "tuple", data := .seq us n } /\ f us.toList = true := by
 obtain ⟨h, h3⟩ := and2 h;obtain ⟨h1, h2⟩ := and2 h;obtain ⟨us, n, e, hf⟩ : ∃ us n, o.data = .seq us n /\ f us.toList = true := (dcase_ok h3).elim (fun ⟨_, _, z⟩ => nomatch z) fun z => z.elim id fun z => z.elim (fun ⟨_, _, _, z⟩ => nomatch z) fun z => nomatch z.2
 exact ⟨us, n, ob_ext (obK_ok h1) h2 e, hf⟩
theorem hF_get (P : Params) (a : Nat) : (hF1 P).get? a = gT P a := by
 unfold Heap.get? hF1 gT;rw [absHeap_at];by_cases h : a < 1718
 ·rw [if_pos h, show Nat.blt a 1718 = true from Nat.blt_eq.mpr h]
  generalize ((treeF P).get a).getD default = o;obtain ⟨c, d, dt, sl⟩ := o;cases dt <;> rfl
 ·rw [if_neg h, show Nat.blt a 1718 = false from Bool.eq_false_iff.mpr fun z => h (Nat.blt_eq.mp z)]
theorem hF_size (P : Params) : (hF1 P).objs.size = 1718 := by
 have h1 : (hF1 P).objs[1717]? ≠ none := by unfold hF1; rw [absHeap_at, if_pos (by decide)]; exact nofun
 have h2 : (hF1 P).objs[1718]? = none := by unfold hF1; rw [absHeap_at, if_neg (by decide)]
 have h3 := Array.getElem?_eq_none_iff.mp h2;rcases Nat.lt_or_ge 1717 (hF1 P).objs.size with h | h
 ·omega
 ·exact absurd (Array.getElem?_eq_none_iff.mpr h) h1
theorem notT_ok {a : Nat} (h : notT a = true) : a < 1718 /\ a ∉ tabsT := by
 obtain ⟨h1, h2⟩ := and2 h;refine ⟨Nat.blt_eq.mp h1, fun z => ?_⟩;rw [List.contains_iff_mem.mpr z] at h2; cases h2
noncomputable def BB (w : World) (h1 : Heap) (sx : List V) (os : OsState) : Bs := { prog := pw, w := w, h0 := h1, n0 := 1719, tabs := tabsT, codeT := fun q => codeL.lookup q, K := kOf (gT w.params), sx := sx, os := os, gens := Array.mk [] }
section
variable {w : World} {h1 : Heap} {sx : List V} {os : OsState}
theorem m0_at {a : Nat} (h : notT a = true) : m0 (BB w h1 sx os) 0 a = some (a, a) := by
 obtain ⟨x, y⟩ := notT_ok h;exact if_pos ⟨rfl, Nat.lt_trans x (Nat.lt_succ_self _), y⟩
theorem vrB_ok : ∀ {v : V} {u : Value}, vrB v u = true -> VR (m0 (BB w h1 sx os)) v u
 | .none, _, h => eq_of_beq h
 | .bool _, _, h => nomatch h
 | .int _, _, h => Value.isInt_shape h
 | .str _, _, h => Value.isStrOf_shape h
 | .ref r i, u, h => by
  obtain ⟨h, h3⟩ := and2 h;obtain ⟨h1, h2⟩ := and2 h;obtain rfl := Nat.eq_of_beq_eq_true h1;exact ⟨_, m0_at h2, eq_of_beq h3⟩
 | .bi _, _, h => eq_of_beq h
 | .ty _, _, h => eq_of_beq h
theorem vrsB_ok : ∀ {v : List V} {u : List Value}, vrsB v u = true -> VRs (m0 (BB w h1 sx os)) v u
 | [], [], _ => trivial
 | _ :: _, _ :: _, h => ⟨vrB_ok (and2 h).1, vrsB_ok (and2 h).2⟩
 | [], _ :: _, h => nomatch h
 | _ :: _, [], h => nomatch h
end
theorem assocN_mem {α : Type} : ∀ {l : List (Nat × α)} {a : Nat} {x : α}, assocN l a = some x -> (a, x) ∈ l
 | p :: r, a, x, h => by
  have h : (match Nat.beq p.1 a with | true => some p.2 | false => assocN r a) = some x := h
  cases q : Nat.beq p.1 a with
  | true =>
   rw [q] at h;obtain rfl := Nat.eq_of_beq_eq_true q;cases h;exact mem_cons_self ..
  | false => rw [q] at h; exact mem_cons_of_mem _ (assocN_mem h)
theorem look_mem {α β : Type} [BEq α] [LawfulBEq α] : ∀ {l : List (α × β)} {a : α} {x : β}, l.lookup a = some x -> (a, x) ∈ l
 | (b, y) :: r, a, x, h => by
  rw [List.lookup_cons] at h;cases q : a == b with
  | true => rw [q] at h; cases h; rw [eq_of_beq q]; exact mem_cons_self ..
  | false => rw [q] at h; exact mem_cons_of_mem _ (look_mem h)
theorem kOf_mem {g : Nat -> Option Obj} {a : Nat} {o : Obj} : ∀ {l : List Nat}, (l.filterMap fun a => (g a).map fun o => (a, o)).lookup a = some o -> g a = some o /\ a ∈ l
 | b :: r, h => by
  rw [List.filterMap_cons] at h;cases q : g b with
  | none => rw [q] at h; exact ⟨(kOf_mem (l := r) h).1, mem_cons_of_mem _ (kOf_mem (l := r) h).2⟩
  | some x =>
   rw [q] at h;have h : List.lookup a ((b, x) :: r.filterMap fun a => (g a).map fun o => (a, o)) = some o := h;rw [List.lookup_cons] at h;cases z : a == b with
   | true => rw [z] at h; cases h; rw [eq_of_beq z]; exact ⟨q, mem_cons_self ..⟩
   | false => rw [z] at h; exact ⟨(kOf_mem (l := r) h).1, mem_cons_of_mem _ (kOf_mem (l := r) h).2⟩
theorem kOf_of {g : Nat -> Option Obj} {a : Nat} {o : Obj} (e : g a = some o) : ∀ {l : List Nat}, a ∈ l -> (l.filterMap fun a => (g a).map fun o => (a, o)).lookup a = some o
 | b :: r, h => by
  rw [List.filterMap_cons];rcases List.mem_cons.1 h with rfl | h
  ·rw [e];show List.lookup a ((a, o) :: _) = _;rw [List.lookup_cons, beq_self_eq_true]
  ·have ih := kOf_of e h;cases q : g b with
   | none => exact ih
   | some x =>
    show List.lookup a ((b, x) :: _) = _;rw [List.lookup_cons];cases z : a == b with
    | true => rw [<- eq_of_beq z, e] at q; cases q; rfl
    | false => exact ih
theorem kAddr_tabs : ∀ a ∈ kAddr, a ∉ tabsT := by
 have h : (kAddr.all fun a => !(tabsT.contains a)) = true := by kernel_rfl
 intro a ha z;have := List.all_eq_true.mp h a ha;rw [List.contains_iff_mem.mpr z] at this; cases this
theorem lEq_ok : ∀ {a b : List Nat}, lEq a b = true -> a = b
 | [], [], _ => rfl
 | x :: a, y :: b, h => by rw [Nat.eq_of_beq_eq_true (and2 h).1, lEq_ok (and2 h).2]
 | [], _ :: _, h => nomatch h
 | _ :: _, [], h => nomatch h
theorem lEq_refl : ∀ a : List Nat, lEq a a = true
 | [] => rfl
 | x :: a => Bool.and_eq_true_iff.mpr ⟨Nat.beq_refl x, lEq_refl a⟩
theorem sEq_eq (a b : Str) : sEq a b = (a == b) := by
 cases q : sEq a b with
 | true =>
  obtain ⟨x⟩ := a;obtain ⟨y⟩ := b;have : x = y := Array.toList_inj.mp (lEq_ok q);subst this;exact (beq_self_eq_true _).symm
 | false =>
  symm
  rw [beq_eq_false_iff_ne];rintro rfl;unfold sEq at q;rw [lEq_refl] at q; cases q
theorem skB_ok : ∀ {l : List DictEntry}, skB l = true -> ∀ e ∈ l, (match e.key with | .str _ _ => true | _ => false) = true
 | [], _, _, z => nomatch z
 | _ :: _, z, e, ze => (List.mem_cons.1 ze).elim (fun q => q ▸ (and2 z).1) fun q => skB_ok (and2 z).2 e q
theorem isD_ok {P : Params} {a : Nat} (h : isD (gT P) a = true) : (hF1 P).isNs a = true := by
 obtain ⟨o, e, h⟩ := any_ok h;obtain ⟨es, n, ed, h⟩ := dD_ok h;unfold Heap.isNs;obtain ⟨c, d, dt, sl⟩ := o;subst ed;rw [hF_get, e];dsimp only;rw [Array.all_eq_true'];exact fun x ze => skB_ok h x (Array.mem_toList_iff.mpr ze)
theorem isStr_sEq (v : Value) (x : Str) : v.isStr x = kIs v x := by
 cases v <;> first | rfl | skip
 rename_i s t;exact (sEq_eq s x).symm
theorem fnd_eq (x : Str) : ∀ l : List DictEntry, (l.find? fun e => e.key.isStr x).map (·.val) = fndL x l
 | [] => rfl
 | e :: r => by
  unfold fndL;rw [List.find?_cons, isStr_sEq, <- fnd_eq x r];cases kIs e.key x <;> rfl
theorem ns_fnd (P : Params) (a : Nat) (x : Str) : (hF1 P).nsMap a x = fndL x (nsE (gT P) a) := by
 unfold Heap.nsMap nsE;rw [hF_get];cases gT P a with
 | none => rfl
 | some o =>
  obtain ⟨c, d, dt, sl⟩ := o;cases dt <;> first | rfl | skip
  rename_i es n;show (es.find? fun e => e.key.isStr x).map (·.val) = fndL x es.toList
  rw [<- fnd_eq, <- Array.find?_toList]
section
variable {w : World} {h1 : Heap} {sx : List V} {os : OsState}
theorem eqB {α : Type} [BEq α] [LawfulBEq α] {a b : α} (h : (a == b) = true) : a = b := eq_of_beq h
theorem kB_parts {K : Frag} (h : kB K = true) : (∀ T ∈ isiBasics, ∀ n ∈ isiNames, kitOne K (.type T) (.type n) = some (T == n)) /\
  (∀ C c, pgT.cls C = some c -> (∀ T ∈ isiBasics, kitOne K (.type T) (.ref C) = some false) /\ (∀ n ∈ isiNames, kitOne K (.ref C) (.type n) = some false) /\ (∀ C' c', pgT.cls C' = some c' -> kitOne K (.ref C) (.ref C') = some (c.mro.contains C')) /\ clB K C c = true) /\
  specialIn K (.builtin "object.__class__") "__get__" = some (some (.builtin "getset_descriptor.__get__")) /\ takesIn K (.builtin "object.__class__") = some true := by
 unfold kB at h;obtain ⟨h, k4⟩ := and2 h;obtain ⟨h, k3⟩ := and2 h;obtain ⟨k1, k2⟩ := and2 h;refine ⟨fun T hT n hn => eqB (List.all_eq_true.mp (List.all_eq_true.mp k1 T hT) n hn), fun C c hc => ?_, eqB k3, eqB k4⟩;have z := List.all_eq_true.mp k2 (C, c) (assocN_mem hc);obtain ⟨z, z4⟩ := and2 z;obtain ⟨z, z3⟩ := and2 z;obtain ⟨z1, z2⟩ := and2 z;exact ⟨fun T hT => eqB (List.all_eq_true.mp z1 T hT), fun n hn => eqB (List.all_eq_true.mp z2 n hn), fun C' c' hc' => eqB (List.all_eq_true.mp z3 (C', c') (assocN_mem hc')), z4⟩
theorem kB_BB : kB (BB w h1 sx os).K = true := by
 have eK : (BB w h1 sx os).K = kOf (gT w.params) := rfl;rw [eK];exact hc2 w.params
theorem cls_okK {B : Bs} {C : Nat} {c : Cl} (h : clB B.K C c = true) (k3 : specialIn B.K (.builtin "object.__class__") "__get__" = some (some (.builtin "getset_descriptor.__get__"))) (k4 : takesIn B.K (.builtin "object.__class__") = some true)
  (low : ∀ a, notT a = true -> a < B.n0 /\ a ∉ B.tabs) : ClsOk B C c := by
 unfold clB at h;obtain ⟨h, a13⟩ := and2 h;obtain ⟨h, a12⟩ := and2 h;obtain ⟨h, a11⟩ := and2 h;obtain ⟨h, a10⟩ := and2 h;obtain ⟨h, a9⟩ := and2 h;obtain ⟨h, a8⟩ := and2 h;obtain ⟨h, a7⟩ := and2 h;obtain ⟨h, a6⟩ := and2 h;obtain ⟨h, a5⟩ := and2 h;obtain ⟨h, a4⟩ := and2 h;obtain ⟨h, a3⟩ := and2 h;obtain ⟨a1, a2⟩ := and2 h;obtain ⟨a8, b4⟩ := and2 a8;obtain ⟨a8, b3⟩ := and2 a8;obtain ⟨b1, b2⟩ := and2 a8;have t := low _ b3;refine ⟨eqB a1, eqB a2, a3, a4, fun x hx => ?_, fun x f hf => ?_, a7, ⟨eqB b1, eqB b2, t.1, t.2, Option.isNone_iff_eq_none.mp b4⟩, a9, Option.isNone_iff_eq_none.mp a10, a11, eqB a12, k3, k4, eqB a13⟩
 ·exact eqB (List.all_eq_true.mp a5 x (List.contains_iff_mem.mp hx))
 ·have z := List.all_eq_true.mp a6 (x, f) (look_mem hf);obtain ⟨z, z3⟩ := and2 z;obtain ⟨z1, z2⟩ := and2 z;have t := low _ z3;exact ⟨eqB z1, eqB z2, t.1, t.2⟩
theorem cls_ok {C : Nat} {c : Cl} (hc : pgT.cls C = some c) : ClsOk (BB w h1 sx os) C c := by
 obtain ⟨_, k2, k3, k4⟩ := kB_parts (kB_BB (w := w) (h1 := h1) (sx := sx) (os := os));have low : ∀ a, notT a = true -> a < (BB w h1 sx os).n0 /\ a ∉ (BB w h1 sx os).tabs := fun a b => ⟨Nat.lt_trans (notT_ok b).1 (Nat.lt_succ_self _), (notT_ok b).2⟩;exact cls_okK (k2 C c hc).2.2.2 k3 k4 low
end
section
variable {w : World} {h1 : Heap} {sx : List V} {os : OsState}
theorem fns_mem {a : Nat} {fn : Fn} (h : pgT.fns a = some fn) : (a, some fn) ∈ fnTab := by
 have h : (assocN fnTab a).join = some fn := h;cases e : assocN fnTab a with
 | none => rw [e] at h; cases h
 | some x =>
  rw [e] at h;obtain rfl : x = some fn := h;exact assocN_mem e
theorem dfB_ok (keep : ∀ b o, (hF1 w.params).get? b = some o -> h1.get? b = some o) {v : Value} {ds : List V} (h : dfB (gT w.params) v ds = true) :
  (v = .none /\ ds = []) \/ ∃ T us n, v = .ref T /\ T ∉ tabsT /\ h1.get? T = some { cls := .type "tuple", data := .seq us n } /\ VRs (m0 (BB w h1 sx os)) ds us.toList := by
 cases q : uR v with
 | none =>
  unfold dfB at h;rw [q] at h;exact .inl ⟨eq_of_beq (and2 h).1, List.isEmpty_iff.mp (and2 h).2⟩
 | some T =>
  unfold dfB at h;rw [q] at h;obtain ⟨t, h⟩ := and2 h;obtain ⟨o, e, h⟩ := any_ok h;obtain ⟨us, n, rfl, h⟩ := tupB_ok h;exact .inr ⟨T, us, n, uR_ok q, (notT_ok t).2, keep _ _ ((hF_get _ _).trans e), vrsB_ok h⟩
theorem cdB_ok (keep : ∀ b o, (hF1 w.params).get? b = some o -> h1.get? b = some o) {fn : Fn} {q : Str} {v : Value} (h : cdB (gT w.params) fn q v = true) :
  ∃ c, v = .ref c /\ h1.CodeRec (.ref c) q /\ c ∉ tabsT /\ ∀ q', pgT.nest (fn.qual ++ ".<locals>.") = some q' -> ∃ P, (BB w h1 sx os).codeT q' = some (c, P) := by
 obtain ⟨c, ec, h⟩ := any_ok h;obtain rfl := uR_ok ec;obtain ⟨h, h3⟩ := and2 h;obtain ⟨t, h2⟩ := and2 h;refine ⟨c, rfl, ?_, (notT_ok t).2, fun q' hq => ?_⟩
 ·obtain ⟨o, e, h2⟩ := any_ok h2;obtain ⟨vs, ed, h2⟩ := dF_ok h2;obtain ⟨x, e2, h2⟩ := any_ok h2;obtain ⟨t2, rfl⟩ := Value.isStrOf_shape h2;exact ⟨c, _, vs, t2, rfl, keep _ _ ((hF_get _ _).trans e), ed, by rw [<- Array.getElem?_toList]; exact e2⟩
 ·rw [hq] at h3;obtain ⟨p, e, z⟩ := any_ok h3;exact ⟨p.2, e.trans (congrArg (fun c => some (c, p.2)) (Nat.eq_of_beq_eq_true z))⟩
theorem fn_okH (keep : ∀ b o, (hF1 w.params).get? b = some o -> h1.get? b = some o) {a : Nat} {fn : Fn} (hf : pgT.fns a = some fn) : ∃ o fd c, FnOk (BB w h1 sx os) a fn o fd c := by
 refine Classical.byContradiction fun hn => ?_;have m := fns_mem hf;have z := map_mem (hc1 w.params) _ m;have z : fnO (gT w.params) (a, some fn) = some (.stmts fn.body, fn.scope, fn.qual, fn.params, true) := z;unfold fnO at z;dsimp only at z;cases e : gT w.params a with
 | none => rw [e] at z; cases z
 | some o =>
  rw [e] at z;obtain ⟨cl, d, dt, sl⟩ := o;cases dt <;> first | cases z; done | skip
  rename_i fd;dsimp only at z;injection z with z
  injection z with z1 z
  injection z with z2 z
  injection z with z3 z
  injection z with z4 z5
  unfold fnB at z5;obtain ⟨z5, b15⟩ := and2 z5;obtain ⟨z5, b14⟩ := and2 z5;obtain ⟨z5, b13⟩ := and2 z5;obtain ⟨z5, b12⟩ := and2 z5;obtain ⟨z5, b11⟩ := and2 z5;obtain ⟨z5, b10⟩ := and2 z5;obtain ⟨z5, b9⟩ := and2 z5;obtain ⟨z5, b8⟩ := and2 z5;obtain ⟨z5, b7⟩ := and2 z5;obtain ⟨z5, b6⟩ := and2 z5;obtain ⟨z5, b5⟩ := and2 z5;obtain ⟨z5, b4⟩ := and2 z5;obtain ⟨z5, b3⟩ := and2 z5;obtain ⟨b1, b2⟩ := and2 z5;obtain ⟨c, c1, c2, c3, c4⟩ := cdB_ok (sx := sx) (os := os) keep b15;have ka : a ∈ kAddr := List.mem_append_right _ (List.mem_map.mpr ⟨_, m, rfl⟩);have kl : (kOf (gT w.params)).lookup a = some ⟨cl, d, .func fd, sl⟩ := kOf_of e ka;refine hn ⟨_, fd, c, { at_ := keep _ _ ((hF_get _ _).trans e), tab := (notT_ok b1).2, data := rfl, body := z1, scope := z2, qual := z3, globals := Nat.eq_of_beq_eq_true b2, builtins := Nat.eq_of_beq_eq_true b3, closure := List.isEmpty_iff.mp b4, kind := (by rw [z2]; exact eqB b5), co := (by rw [z2]; exact (Bool.not_eq_true' _).mp b6), gen := (by rw [z2]; exact (Bool.not_eq_true' _).mp b7), po := List.isEmpty_iff.mp b8, va := Option.isNone_iff_eq_none.mp b9, ko := List.isEmpty_iff.mp b10, kwa := Option.isNone_iff_eq_none.mp b11, params := z4, nodup := of_decide_eq_true b12, dflt := dfB_ok keep b14, few := Nat.le_of_ble_eq_true b13, code := c1, rec_ := c2, ctab := c3, nest := c4, keeps := ?_ }⟩
  show keepIn (kOf (gT w.params)) (.ref a) = true;unfold keepIn; dsimp only;rw [kl]
end
section
variable {w : World} {h1 : Heap} {sx : List V} {os : OsState}
theorem codeL_two {q : Str} {c P : Nat} (h : codeL.lookup q = some (c, P)) : (q = "asker.<locals>.value_of" /\ c = 1006 /\ P = 1002) \/ (q = "sorted_beneath.<locals>.<lambda>" /\ c = 184 /\ P = 182) := by
 have m := look_mem h;unfold codeL at m;rcases List.mem_cons.1 m with e | m
 ·injection e with e1 e2
  injection e2 with e3 e4
  exact .inl ⟨e1, e3, e4⟩
 ·injection List.mem_singleton.1 m with e1 e2
  injection e2 with e3 e4
  exact .inr ⟨e1, e3, e4⟩
theorem gl_parts (P : Params) : (((isD (gT P) 3 = true /\ isD (gT P) 0 = true) /\ isD (gT P) 2 = true) /\ (∀ x v, pgT.glob x = some v -> ∃ u, fndL x (nsE (gT P) 3) = some u /\ vrB v u = true)) /\
  (∀ x v, pgT.bltn x = some v -> fndL x (nsE (gT P) 3) = none /\ ∃ u, fndL x (nsE (gT P) 0) = some u /\ vrB v u = true) /\ (∃ a, fndL "law" (nsE (gT P) 3) = some (.ref a) /\ a = 1717) /\ fndL "sys.recursionlimit" (nsE (gT P) 2) = none := by
 have h := hc3 P;unfold glB at h;obtain ⟨h, a7⟩ := and2 h;obtain ⟨h, a6⟩ := and2 h;obtain ⟨h, a5⟩ := and2 h;obtain ⟨h, a4⟩ := and2 h;obtain ⟨h, a3⟩ := and2 h;refine ⟨⟨⟨and2 h, a3⟩, fun x v e => ?_⟩, fun x v e => ?_, ?_, Option.isNone_iff_eq_none.mp a7⟩
 ·exact any_ok (List.all_eq_true.mp a4 (x, v) (look_mem e))
 ·obtain ⟨z1, z⟩ := and2 (List.all_eq_true.mp a5 (x, v) (look_mem e));exact ⟨Option.isNone_iff_eq_none.mp z1, any_ok z⟩
 ·exact ⟨_, eq_of_beq a6, rfl⟩
theorem rs_parts (P : Params) : bmB (gT P) = true /\ (∀ q c p, codeL.lookup q = some (c, p) -> hdB (gT P) c p = true /\ tbB (gT P) p = true /\ notT c = true) /\ ∀ a o, pgT.obj a = some o -> obB (gT P) (a, o) = true := by
 have h := hc4 P;unfold rsB at h;obtain ⟨h, a3⟩ := and2 h;obtain ⟨a1, a2⟩ := and2 h;refine ⟨a1, fun q c p e => ?_, fun a o e => List.all_eq_true.mp a3 (a, o) (assocN_mem e)⟩;obtain ⟨z, z3⟩ := and2 (List.all_eq_true.mp a2 (q, c, p) (look_mem e));exact ⟨(and2 z).1, (and2 z).2, z3⟩
theorem nI_ok {v : Value} (h : nI v = true) : ∃ i t, v = .int i t := by cases v <;> first | exact ⟨_, _, rfl⟩ | cases h
theorem nB_ok {v : Value} (h : nB v = true) : ∃ b, v = .bool b := by cases v <;> first | exact ⟨_, rfl⟩ | cases h
theorem nS_ok {v : Value} (h : nS v = true) : ∃ i t, v = .str i t := by cases v <;> first | exact ⟨_, _, rfl⟩ | cases h
theorem hd_ok {g : Nat -> Option Obj} {c P : Nat} (h : hdB g c P = true) : ∃ o vs, g c = some o /\ o.cls = .type "code" /\ o.data = .fields vs /\ vs[11]? = some (.ref P) /\ (∃ i t, vs.getD 7 .none = .int i t) /\ (∃ b, vs.getD 9 .none = .bool b) /\ (∃ i t, vs.getD 10 .none = .int i t) /\ ∃ i t, vs.getD 18 .none = .str i t := by
 obtain ⟨o, e, h⟩ := any_ok h;obtain ⟨h1, h⟩ := and2 h;obtain ⟨vs, e2, h⟩ := dF_ok h;obtain ⟨h, k5⟩ := and2 h;obtain ⟨h, k4⟩ := and2 h;obtain ⟨h, k3⟩ := and2 h;obtain ⟨k1, k2⟩ := and2 h;exact ⟨o, vs, e, eqB h1, e2, eqB k4, nI_ok k1, nB_ok k2, nI_ok k3, nS_ok k5⟩
theorem ns_of {a : Nat} (keep : ∀ b o, (hF1 w.params).get? b = some o -> h1.get? b = some o) (h : isD (gT w.params) a = true) : h1.Ns a ((hF1 w.params).nsMap a) := (Heap.Ns.of_isNs (isD_ok h)).keeps keep
theorem bokH (keep : ∀ b o, (hF1 w.params).get? b = some o -> h1.get? b = some o) : BOk (BB w h1 sx os) where
 fns := fun _ _ => fn_okH keep
 isiA := fun T n b hT e => by
  unfold isiT at e;split at e
  ·rename_i hn;cases e;exact (kB_parts kB_BB).1 T (List.contains_iff_mem.mp hT) n (List.contains_iff_mem.mp hn)
  ·cases e
 isiB := fun C c T hc hT => ((kB_parts kB_BB).2.1 C c hc).1 T (List.contains_iff_mem.mp hT)
 isiC := fun C c n hc hn => ((kB_parts kB_BB).2.1 C c hc).2.1 n (List.contains_iff_mem.mp hn)
 isiD := fun C c C' c' hc hc' => ((kB_parts kB_BB).2.1 C c hc).2.2.1 C' c' hc'
 cls := fun _ _ => cls_ok
 two := show 100 <= 1719 by decide
 gtab := show (3 : Nat) ∉ tabsT /\ (0 : Nat) ∉ tabsT /\ (2 : Nat) ∉ tabsT by decide
 nolim := ⟨_, ns_of keep (gl_parts w.params).1.1.2, (ns_fnd ..).trans (gl_parts w.params).2.2.2⟩
 glob := by
  obtain ⟨⟨⟨⟨d3, d0⟩, _⟩, g1⟩, g2, _⟩ := gl_parts w.params;refine ⟨_, _, ns_of keep d3, ns_of keep d0, fun x v e => ?_, fun x v _ e => ?_⟩
  ·obtain ⟨u, e1, e2⟩ := g1 x v e;exact ⟨u, (ns_fnd ..).trans e1, vrB_ok e2⟩
  ·obtain ⟨e0, u, e1, e2⟩ := g2 x v e;exact ⟨(ns_fnd ..).trans e0, u, (ns_fnd ..).trans e1, vrB_ok e2⟩
 frag := fun a o e => ⟨keep _ _ ((hF_get _ _).trans (kOf_mem e).1), kAddr_tabs a (kOf_mem e).2⟩
 dicts := fun a es e => by
  have z := (rs_parts w.params).2.2 a _ e;unfold obB at z;obtain rfl := Nat.eq_of_beq_eq_true (and2 (and2 z).2).1
  rfl
 codes := fun q c P e => by
  have e : codeL.lookup q = some (c, P) := e;obtain ⟨z1, _, z3⟩ := (rs_parts w.params).2.1 q c P e;refine ⟨?_, (notT_ok z3).2⟩;have ne : c ≠ P := by rcases codeL_two e with ⟨_, rfl, rfl⟩ | ⟨_, rfl, rfl⟩ <;> decide
  obtain ⟨o, vs, g, k1, k2, h11, ⟨fl, t7, h7⟩, ⟨b9, h9⟩, ⟨i10, t10, h10⟩, f18, t18, h18⟩ := hd_ok z1;exact ⟨o, vs, f18, t18, fl, t7, b9, i10, t10, keep _ _ ((hF_get _ _).trans g), k1, k2, h11, by rw [Array.getD_eq_getD_getElem?, h11]; rfl, h18, h7, h9, h10, ne⟩
 ctinj := fun q q' c c' P e e' => by
  have e : codeL.lookup q = some (c, P) := e;have e' : codeL.lookup q' = some (c', P) := e';rcases codeL_two e with ⟨a1, a2, a3⟩ | ⟨a1, a2, a3⟩ <;> rcases codeL_two e' with ⟨b1, b2, b3⟩ | ⟨b1, b2, b3⟩
  ·exact a1.trans b1.symm
  ·exact absurd (a3.symm.trans b3) (by decide)
  ·exact absurd (a3.symm.trans b3) (by decide)
  ·exact a1.trans b1.symm
 bmain := by
  obtain ⟨⟨⟨⟨d3, _⟩, _⟩, _⟩, _⟩ := gl_parts w.params;have z := (rs_parts w.params).1;obtain ⟨z1, z⟩ := and2 z;obtain ⟨o, g, z⟩ := any_ok z;obtain ⟨z2, z3⟩ := and2 z;have ed : o.data = .plain := (dcase_ok z3).elim (fun ⟨_, _, z⟩ => nomatch z) fun z => z.elim (fun ⟨_, _, _, z⟩ => nomatch z) fun z => z.elim (fun ⟨_, _, _, z⟩ => nomatch z) fun z => z.1
  exact ⟨_, 4, _, ns_of keep d3, (ns_fnd ..).trans (eqB z1), by decide, by decide, show (4 : Nat) ∉ tabsT by decide, keep _ _ ((hF_get _ _).trans g), (obK_ok z2).1, (obK_ok z2).2, ed⟩
end
noncomputable def H0 (B : Bs) : Hp := ⟨fun r i => match r with
 | 0 => B.ob i
 | _ + 1 => none, 2, .nil, 0⟩
section
variable {w : World} {h1 : Heap} {sx : List V} {os : OsState}
theorem dr_ok : ∀ {es : List (V × V)} {kvs : List DictEntry}, drB es kvs = true -> (kvs.map (·.hash) = es.map fun x => match x.1 with
  | .str s => hashStr w s
  | _ => 0) ->
  ∃ l : List (Key × Value), Pairs (uKind pw w) kvs l /\ DRs (m0 (BB w h1 sx os)) es l /\ (∀ e ∈ kvs, ∃ k, Key.isV k e.key = true /\ e.hash = Key.hash w k) /\ l.length = kvs.length /\ l.map (fun y => some y.1) = es.map fun x => keyV x.1
 | [], [], _, _ => ⟨[], .nil, trivial, (fun _ h => nomatch h), rfl, rfl⟩
 | [], _ :: _, h, _ => nomatch h
 | _ :: _, [], h, _ => nomatch h
 | x :: xs, e :: es, h, g => by
  obtain ⟨h, h3⟩ := and2 h;obtain ⟨hk, h2⟩ := and2 h;injection g with g1 g2
  obtain ⟨l, a1, a2, a3, a4, a5⟩ := dr_ok h3 g2;obtain ⟨a, b⟩ := x;obtain ⟨hs, ky, vl⟩ := e;obtain ⟨s, rfl, ks⟩ : ∃ s, a = V.str s /\ Key.isV (.str s) ky = true := by cases a <;> first | exact ⟨_, rfl, hk⟩ | cases hk
  refine ⟨(.str s, vl) :: l, .cons ks rfl a1, ⟨⟨rfl, vrB_ok h2⟩, a2⟩, fun e he => ?_, congrArg (· + 1) a4, ?_⟩
  ·rcases List.mem_cons.1 he with rfl | he
   ·exact ⟨_, ks, g1⟩
   ·exact a3 e he
  ·show some (Key.str s) :: _ = some (Key.str s) :: _;rw [a5]
theorem lv_nodup : (lvE.map fun x => keyV x.1).Nodup := by decide +kernel
theorem obj_ok (keep : ∀ b o, (hF1 w.params).get? b = some o -> h1.get? b = some o) {i : Nat} {o : O} (e : pgT.obj i = some o) : OR (BB w h1 sx os) (m0 (BB w h1 sx os)) o (i, i) h1 := by
 have ⟨_, z⟩ := and2 ((rs_parts w.params).2.2 i o e);cases o <;> first | cases z; done | skip
 ·obtain ⟨o, g, z⟩ := any_ok z;obtain ⟨us, n, rfl, z⟩ := tupB_ok z;exact ⟨us, n, keep _ _ ((hF_get _ _).trans g), vrsB_ok z⟩
 ·rename_i es _;obtain ⟨i1, z⟩ := and2 z;obtain rfl := Nat.eq_of_beq_eq_true i1
  ·obtain ⟨o, g, z⟩ := any_ok z;obtain ⟨z, z3⟩ := and2 z;obtain ⟨z1, z2⟩ := and2 z;obtain ⟨⟨kvs⟩, n, ed, z⟩ := dD_ok z3;obtain ⟨z5, z4⟩ := and2 z;obtain rfl := ob_ext (obK_ok z1) z2 ed;obtain rfl := Nat.eq_of_beq_eq_true z5;have g : gT w.params 1471 = _ := g;have le : lvE = es := by unfold lvE; rw [e]
   have hh := hc5 w;unfold lvH lvW at hh;rw [g, le] at hh;obtain ⟨l, a1, a2, a3, a4, a5⟩ := dr_ok (w := w) (h1 := h1) (sx := sx) (os := os) z4 hh;refine ⟨l, ⟨_, ⟨kvs⟩, keep _ _ ((hF_get _ _).trans g), ⟨rfl, rfl, rfl⟩, by rw [a4], fun e he => a3 e (Array.mem_toList_iff.mpr he), a1, ?_⟩, a2⟩
   have nd := lv_nodup;rw [le, <- a5] at nd;have : (l.map fun y => some y.1) = (l.map (·.1)).map some := by rw [List.map_map]; rfl
   rw [this] at nd;exact List.Pairwise.of_map some (fun a b h e => h (congrArg some e)) nd
theorem m0_some {B : Bs} {r i : Nat} {p : Nat × Nat} (e : m0 B r i = some p) : (r = 0 /\ i < B.n0 /\ i ∉ B.tabs) /\ p = (i, i) := by
 unfold m0 at e;split at e
 ·cases e; exact ⟨‹_›, rfl⟩
 ·cases e
theorem tab_ok (keep : ∀ b o, (hF1 w.params).get? b = some o -> h1.get? b = some o) {q : Str} {c P : Nat} (e : codeL.lookup q = some (c, P)) : h1.get? P = some (tabObj #[]) := by
 obtain ⟨_, z, _⟩ := (rs_parts w.params).2.1 q c P e;obtain ⟨o, g, z⟩ := any_ok z;obtain ⟨z, z3⟩ := and2 z;obtain ⟨z1, z2⟩ := and2 z;obtain ⟨vs, ed, z4⟩ := dF_ok z3;obtain rfl := ob_ext (obK_ok z1) z2 ed;obtain rfl := Array.isEmpty_iff.mp z4;exact keep _ _ ((hF_get _ _).trans g)
theorem relH (keep : ∀ b o, (hF1 w.params).get? b = some o -> h1.get? b = some o) (size : h1.objs.size = 1719) {us : Array Value} {n : Nat} (sc : h1.get? 1718 = some { cls := .type "list", data := .seq us n }) (vr : VRs (m0 (BB w h1 sx os)) sx us.toList) :
  Rel (BB w h1 sx os) (m0 (BB w h1 sx os)) (H0 (BB w h1 sx os)) h1 where
 keep := fun _ _ _ e => e
 tab := fun q c P e => by
  have e : codeL.lookup q = some (c, P) := e;refine ⟨?_, #[], tab_ok keep e, trivial, fun _ _ z => nomatch z⟩
  show P ∈ tabsT;rcases codeL_two e with ⟨_, _, rfl⟩ | ⟨_, _, rfl⟩ <;> decide
 low := fun a h1 h2 => if_pos ⟨rfl, h1, h2⟩
 zero := fun a p e => by
  obtain ⟨⟨_, h1, h2⟩, rfl⟩ := m0_some e;exact ⟨rfl, h1, h2⟩
 one := fun c p e => absurd (m0_some e).1.1 (by decide)
 obj := fun r i p o e g => by
  obtain ⟨⟨rfl, _, _⟩, rfl⟩ := m0_some e;have g : (BB w h1 sx os).ob i = some o := g;unfold Bs.ob at g;cases q : Nat.beq i 1718 with
  | true =>
   rw [q] at g;cases g;obtain rfl := Nat.eq_of_beq_eq_true q;exact ⟨us, n, sc, vr⟩
  | false => rw [q] at g; exact obj_ok keep g
 hi := fun r i p hr e => absurd (m0_some e).1.1 hr
 sep := fun r i p _ _ _ hr _ e => absurd (m0_some e).1.1 hr
 fresh := fun k _ => if_neg fun z => nomatch (show (2 : Nat) = 0 from z.1)
 reg := Nat.le_refl 2
 pin := fun i => rfl
 top := fun i => rfl
 size := le_of_eq size.symm
 tlow := show ∀ a ∈ tabsT, a < 1719 by decide
 base := size
 regs := fun r i p e => by rw [(m0_some e).1.1]; exact Nat.zero_le _
end
theorem ns_uniq {h : Heap} {a : Addr} {m m' : Str -> Option Value} (x : h.Ns a m) (y : h.Ns a m') (n : Str) : m n = m' n := by
 obtain ⟨o, es, ep, e1, e2, _, e3⟩ := x;obtain ⟨o', es', ep', f1, f2, _, f3⟩ := y;rw [e1] at f1; cases f1;rw [e2] at f2; cases f2;exact (e3 n).symm.trans (f3 n)
theorem ints_vr {m : Mp} : ∀ {vs : List Value} {xs : List Int}, IntsAre vs xs -> VRs m (xs.map V.int) vs
 | [], [], _ => trivial
 | [], _ :: _, h => nomatch h
 | _ :: _, [], h => by cases h
 | _ :: _, _ :: _, h => by cases h; exact ⟨⟨_, rfl⟩, ints_vr ‹_›⟩
theorem room60 : Room 60 callerA := ⟨rfl, by decide, by decide⟩
theorem hok0 {B : Bs} : Hok (H0 B) where
 fresh := fun i _ => rfl
 above := fun r i h => by
  have h : 2 < r := h;have e : Nat.beq r 2 = false := Bool.eq_false_iff.mpr fun z => Nat.ne_of_gt h (Nat.eq_of_beq_eq_true z);obtain ⟨k, rfl⟩ : ∃ k, r = k + 1 := ⟨r - 1, by omega⟩
  unfold Hp.get;rw [show (H0 B).reg = 2 from rfl, e]
  rfl
 pos := by show (2 : Nat) ≠ 0; decide
 zero := fun i e => by
  show B.ob i = _;unfold Bs.ob;rw [e]
 scr := by show some _ ≠ none; exact nofun
theorem law_runs {w : World} {s : Shared} {xs : List Int} {us : Array Value} (hl : xs.length <= 1000) (keep : ∀ b o, (hF1 w.params).get? b = some o -> s.heap.get? b = some o) (size : s.heap.objs.size = 1719)
  (sc : s.heap.get? 1718 = some { cls := .type "list", data := .seq us }) (hi : IntsAre us.toList xs) (hg : s.gens = #[]) (E : Value -> Shared -> Prop) :
  wpAny (model pw w) callerA (PySem.call (.ref 1717) [.ref 1718]) (fun v s' => v = .bool true /\ OldK s.heap s'.heap /\ s'.os = s.os /\ s'.gens = #[]) E s := by
 let B := BB w s.heap (xs.map V.int) s.os
 have K : BOk B := bokH keep;have vr : VRs (m0 B) (xs.map V.int) us.toList := ints_vr hi;have R : Rel B (m0 B) (H0 B) s.heap := relH keep size sc vr;haveI : Sam B s := ⟨rfl, hg⟩;obtain ⟨H', _, f⟩ := l_law (H := H0 B) (ra := 0) (ia := 1718) (xs := xs) K hok0 rfl hps hp0 (show (H0 B).get 0 1718 = _ from rfl) hl
 have m18 : m0 B 0 1718 = some (1718, 1718) := if_pos ⟨rfl, show 1718 < 1719 by decide, show 1718 ∉ tabsT by decide⟩
 refine Codes.does (f (m0 B) callerA s [.ref 1718] R ⟨⟨_, m18, rfl⟩, trivial⟩ room60) _ E (fun m' u s' st p [sm : Sam B s'] => ?_);have np : ∀ b, NP (m0 B) b := fun b r i p hr e => absurd (m0_some e).1.1 hr;obtain ⟨R', hv⟩ := p;have old : ∀ b o, s.heap.get? b = some o -> b ∉ tabsT -> s'.heap.get? b = some o := fun b o e n => st.keep b o n nofun (np b) e
 have tabs : ∀ b, b ∈ tabsT -> ∃ q c, codeL.lookup q = some (c, b) := fun b m => by
  rcases List.mem_cons.1 m with rfl | m
  ·exact ⟨"asker.<locals>.value_of", 1006, rfl⟩
  ·obtain rfl := List.mem_singleton.1 m;exact ⟨"sorted_beneath.<locals>.<lambda>", 184, rfl⟩
 have tab : ∀ b o, s.heap.get? b = some o -> b ∈ tabsT -> o = tabObj #[] /\ isCodeTable s.heap b /\ ∃ ps, s'.heap.get? b = some (tabObj ps) := fun b o e m => by
  obtain ⟨q, c, l⟩ := tabs b m;have t := tab_ok keep l;rw [e] at t;obtain ⟨⟨o', vs, _, _, _, _, _, _, _, e1, e2, e3, e4, _⟩, _⟩ := K.codes q c b l;obtain ⟨_, ps, tr⟩ := R'.tab q c b l;exact ⟨Option.some.inj t, ⟨c, o', vs, e1, e2, e3, e4⟩, ps, tr.at_⟩
 refine ⟨hv, ⟨fun b o e => ?_, fun b o e => ?_⟩, sm.os, sm.gens⟩
 ·by_cases m : b ∈ tabsT
  ·obtain ⟨rfl, ct, ps, g⟩ := tab b o e m;exact .inr (.inl ⟨ct, rfl, #[], ps, rfl, by rw [g, Array.empty_append]⟩)
  ·exact .inl (old b o e m)
 ·by_cases m : b ∈ tabsT
  ·obtain ⟨_, _, ps, g⟩ := tab b o e m;exact ⟨_, g⟩
  ·exact ⟨o, old b o e m⟩
open PySem.W.X in
theorem lawCall {d : DefRec} {kwd : List (Str × Expr)} (hd : d.name = "law") : WalkX qq ll (fun _ _ => True) Yf Ya PySem.Challenge.rw_sm0080_01.row.toRowW d kwd fun f vs => PySem.call f vs := by
 intro w s₀ s₁ mg mb G y fa o pm cd doc dV kV ho hfd hcd hD hmg hg args vals as L hpre hlay hrd hwl hlo;have keep : ∀ b o, (hF1 w.params).get? b = some o -> s₁.heap.get? b = some o := fun b o e => L.keeps b o (by rw [show s₀.heap = hF1 w.params from y]; exact e)
 have efa : fa = 1717 := by
  have z := ns_uniq G.T.g (ns_of keep (gl_parts w.params).1.1.1.1) "law";obtain ⟨a, e1, e2⟩ := (gl_parts w.params).2.2.1;replace z := z.trans ((ns_fnd ..).trans e1);rw [<- hd, hmg] at z;injection z with z
  injection z with z
  rw [z, e2]
 subst efa
 wrow_args hpre hlay hrd hwl hlo
 rename_i xs _ _ _ _ _ _ _ a us _ hL _ _ _ hi _ hlen _;obtain ⟨hat, hsz⟩ := script_at L;have sc := script_obj L hL;rw [show s₀.heap = hF1 w.params from y, hF_size] at hat hsz
 subst hat;refine wpAny_mono (law_runs (xs := xs) (by omega) keep hsz sc hi hg _) (fun v s' z => ?_) fun _ _ z => z
 obtain ⟨rfl, z2, z3, z4⟩ := z;exact ⟨.inl ⟨_, .bool true, [], rfl, fun _ => rfl, .bool true, by wrow_post, fun _ => ⟨List.nodup_nil, nofun⟩⟩, z2, z3, .of_eq z4⟩
noncomputable def lawD : DefRec := match defOf qq "law" with
 | some (d, _) => d
 | none => ⟨"", ⟨[], [], none, [], [], none, []⟩, [], ⟨.function, [], false, false, []⟩, ⟨0, 0, 0, 0⟩⟩
theorem hdef : defOf qq "law" = some (lawD, []) := by kernel_rfl
theorem hdefp : pw.theDef "law" = some (lawD.params, lawD.body, lawD.scope) := by kernel_rfl
theorem hdefk : kwWritten? lawD.params.kwonlyargs lawD.params.kw_defaults = some [] := by kernel_rfl
theorem hdefn : lawD.name = "law" := by kernel_rfl
theorem hchain : chainsOk qq = true := by kernel_rfl
theorem hopens : opensWell pw = true := by kernel_rfl
theorem hfree : (frees PySem.Challenge.rw_sm0080_01.row.toRowW && PySem.Challenge.rw_sm0080_01.row.within.isEmpty) = true := by kernel_rfl
theorem hwit : PySem.Challenge.rw_sm0080_01.row.toRowW.promised := ⟨[.list [.int 1]], by decide +kernel, by decide +kernel⟩
theorem holdsIf (hb : pw.bare) (said : PySem.Challenge.rw_sm0080_01.row.wellSaid = true) : PySem.Challenge.rw_sm0080_01.row.Holds :=
 holds_openX (r := PySem.Challenge.rw_sm0080_01.row) (q := qq) (loose := ll) (Xt := XtT) (XP := fun _ _ => True) (Yf := Yf) (Ya := Ya) (N := hN) hleft (fun _ _ => trivial) (fun _ _ _ _ _ => trivial) hdef hdefp hdefk (fun _ _ => recFacts_nil rfl) rfl said
  (look_both (look_both hchain hopens) hfree) hb hwit (lawCall hdefn)
end MineH
set_option maxHeartbeats 8000000
theorem PySem.Challenge.cw_sm0080_01_holds : PySem.Challenge.rw_sm0080_01.Holds := by
 exact holds_law MineH.hsaid (MineH.holdsIf MineH.hbare)
